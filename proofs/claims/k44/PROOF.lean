import PyProof.Rows.All
import Wide.All
import OpenK.AllK
import Wide.FinOn
import HandS.ForMost
import HandS.ForExc
import HandS.Wide
import HandS.Gcd
import HandS.Zip
import HandS.EndBits
import HandS.FStr
import HandS.StrMore
import HandS.TupAny
import PyProof.ListStr
import KE.KMathGC
import HandS.Rev
import HandS.Style
import HandS.TupMul
import HandS.Text
import HandS.More
import HandS.Iter
import PyProof.ConsumeWalk
import PyProof.WalksMore
import KE.GoesEnum
import PyProof.EnumMake
import HandS.IsInst
import HandS.Dict
import PyProof.ReprLen
import HandS.ExcInit
import HandS.ExcIs
import HandS.ExcOwn
import HandS.Star
import KE.KDictZip
import HandS.GenList
import KE.SortData
import HandS.TupSets
import HandS.Deep
import KE.DataMinMax
import HandS.Strs
import HandS.Conv
import PySem.Challenge.RW_answerlines_k44_names_that_are_free
set_option Elab.async false
set_option linter.all false
set_option maxRecDepth 100000
set_option maxHeartbeats 4000000
namespace GH
open PySem L2
/-! ### data: frozen trees, lists that are owned -/
inductive D where
  | p (d : PyData)
  | l (xs : List D)
  | c (vs : List V)
  /-- a dict that is owned: its keys, what they hold; the same raw -/
  | m (ks : List Str) (xs : List D)
  | k (ks : List Str) (vs : List V)
/-- what a dict of text keys holds -/
def dks (ks : List Str) (vs : List V) : List (Key × V) := (ks.map Sum.inr).zip vs
def kD : Key → PyData
  | .inl i => .int i
  | .inr x => .str x
/-! the data that a value tells: as Dp, and dicts by ints and texts -/
mutual
inductive Dq (K : PySem.W.Frag) (H : Hp) : V → PyData → Prop
  | non : Dq K H .non .none
  | bl (b : Bool) : Dq K H (.bl b) (.bool b)
  | int (i : Int) : Dq K H (.int i) (.int i)
  | str (x : Str) : Dq K H (.str x) (.str x)
  | lst {a : Addr} {xs : List V} {ds : List PyData} : SqL K H a xs → DqAll K H xs ds → Dq K H (.ref a) (.list ds)
  | tup {a : Addr} {xs : List V} {ds : List PyData} : SqT K H a xs → DqAll K H xs ds → Dq K H (.ref a) (.tuple ds)
  | dct {a : Addr} {ks : List (Key × V)} {kvs : List (PyData × PyData)} : Rd H a (.dK ks) → DqK K H ks kvs → Dq K H (.ref a) (.dict kvs)
inductive DqAll (K : PySem.W.Frag) (H : Hp) : List V → List PyData → Prop
  | nil : DqAll K H [] []
  | cons {v : V} {vs : List V} {d : PyData} {ds : List PyData} : Dq K H v d → DqAll K H vs ds → DqAll K H (v :: vs) (d :: ds)
inductive DqK (K : PySem.W.Frag) (H : Hp) : List (Key × V) → List (PyData × PyData) → Prop
  | nil : DqK K H [] []
  | cons {k : Key} {v : V} {vs : List (Key × V)} {d : PyData} {ds : List (PyData × PyData)} : Dq K H v d → DqK K H vs ds → DqK K H ((k, v) :: vs) ((kD k, d) :: ds)
end
mutual
def noDict : PyData → Bool
  | .list xs => noDicts xs
  | .tuple xs => noDicts xs
  | .dict _ => false
  | _ => true
def noDicts : List PyData → Bool
  | [] => true
  | x :: xs => noDict x && noDicts xs
end
mutual
theorem Dq.toDp {K : PySem.W.Frag} {H : Hp} : ∀ {d : PyData} {v : V}, Dq K H v d → noDict d = true → Dp K H v d
  | .none, _, h, _ => by cases h; exact .non
  | .bool b, _, h, _ => by cases h; exact .bl b
  | .int i, _, h, _ => by cases h; exact .int i
  | .str x, _, h, _ => by cases h; exact .str x
  | .list ds, _, h, n => by
    cases h with
    | lst h g => exact .lst h (DqAll.toDp g (by simpa only [noDict] using n))
  | .tuple ds, _, h, n => by
    cases h with
    | tup h g => exact .tup h (DqAll.toDp g (by simpa only [noDict] using n))
  | .dict _, _, _, n => by rw [noDict] at n; cases n
theorem DqAll.toDp {K : PySem.W.Frag} {H : Hp} : ∀ {ds : List PyData} {vs : List V}, DqAll K H vs ds → noDicts ds = true → DpAll K H vs ds
  | [], _, h, _ => by cases h; exact .nil
  | d :: ds, _, h, n => by
    rw [noDicts, Bool.and_eq_true] at n
    cases h with
    | cons h g => exact .cons (Dq.toDp h n.1) (DqAll.toDp g n.2)
end
mutual
theorem noDict_lay : ∀ {d : PyData}, PyData.canLay0 d = true → noDict d = true
  | .none, _ => rfl
  | .bool _, _ => rfl
  | .int _, _ => rfl
  | .str _, _ => rfl
  | .list ds, h => by
    rw [noDict]
    exact noDicts_lay (by simpa [PyData.canLay0] using h)
  | .tuple ds, h => by
    rw [noDict]
    exact noDicts_lay (by simpa [PyData.canLay0] using h)
  | .dict _, h => by simp [PyData.canLay0] at h
theorem noDicts_lay : ∀ {ds : List PyData}, PyData.canLayAll0 ds = true → noDicts ds = true
  | [], _ => rfl
  | d :: ds, h => by
    simp only [PyData.canLayAll0, Bool.and_eq_true] at h
    rw [noDicts, noDict_lay h.1, noDicts_lay h.2]
    rfl
end
mutual
inductive Rep (K : PySem.W.Frag) (F H : Hp) : D → V → List Addr → Prop
  | p {d v} : Dq K F v d → Rep K F H (.p d) v []
  | l {a vs xs fp} : H a = some (.lst vs) → RepAll K F H xs vs fp → Rep K F H (.l xs) (.ref a) (a :: fp)
  | c {a vs} : H a = some (.lst vs) → Rep K F H (.c vs) (.ref a) [a]
  | m {a ks vs xs fp} : H a = some (.dK (dks ks vs)) → ks.length = vs.length → RepAll K F H xs vs fp → Rep K F H (.m ks xs) (.ref a) (a :: fp)
  | k {a ks vs} : H a = some (.dK (dks ks vs)) → ks.length = vs.length → Rep K F H (.k ks vs) (.ref a) [a]
inductive RepAll (K : PySem.W.Frag) (F H : Hp) : List D → List V → List Addr → Prop
  | nil : RepAll K F H [] [] []
  | cons {d v fp ds vs fps} : Rep K F H d v fp → RepAll K F H ds vs fps → RepAll K F H (d :: ds) (v :: vs) (fp ++ fps)
end
inductive RepX (K : PySem.W.Frag) (F H : Hp) : List (D × V) → List Addr → Prop
  | nil : RepX K F H [] []
  | cons {d v fp L fps} : Rep K F H d v fp → RepX K F H L fps → RepX K F H ((d, v) :: L) (fp ++ fps)

theorem Same.seqL {K : PySem.W.Frag} {H H' : Hp} {a : Addr} {xs : List V} (e : Same H H') (h : SqL K H a xs) : SqL K H' a xs := by
  rcases h with (h | ⟨o, h⟩) | h
  · exact .inl (.inl (e _ _ h))
  · exact .inl (.inr ⟨o, e _ _ h⟩)
  · exact .inr h
theorem Same.seqT {K : PySem.W.Frag} {H H' : Hp} {a : Addr} {xs : List V} (e : Same H H') (h : SqT K H a xs) : SqT K H' a xs := by
  rcases h with (h | ⟨o, h⟩) | h
  · exact .inl (.inl (e _ _ h))
  · exact .inl (.inr ⟨o, e _ _ h⟩)
  · exact .inr h
mutual
theorem Dq.mono {K : PySem.W.Frag} {F F' : Hp} (e : Same F F') : ∀ {v : V} {d : PyData}, Dq K F v d → Dq K F' v d
  | _, _, .non => .non
  | _, _, .bl b => .bl b
  | _, _, .int i => .int i
  | _, _, .str x => .str x
  | _, _, .lst h g => .lst (Same.seqL e h) (DqAll.mono e g)
  | _, _, .tup h g => .tup (Same.seqT e h) (DqAll.mono e g)
  | _, _, .dct h g => .dct (h.elim (fun z => .inl (e _ _ z)) fun ⟨o, z⟩ => .inr ⟨o, e _ _ z⟩) (DqK.mono e g)
theorem DqAll.mono {K : PySem.W.Frag} {F F' : Hp} (e : Same F F') : ∀ {v : List V} {d : List PyData}, DqAll K F v d → DqAll K F' v d
  | _, _, .nil => .nil
  | _, _, .cons h g => .cons (Dq.mono e h) (DqAll.mono e g)
theorem DqK.mono {K : PySem.W.Frag} {F F' : Hp} (e : Same F F') : ∀ {v : List (Key × V)} {d : List (PyData × PyData)}, DqK K F v d → DqK K F' v d
  | _, _, .nil => .nil
  | _, _, .cons h g => .cons (Dq.mono e h) (DqK.mono e g)
end
section
variable {K : PySem.W.Frag} {F F' H H' : Hp}
mutual
theorem Rep.keep (e : Same F F') : ∀ {d : D} {v : V} {fp : List Addr}, Rep K F H d v fp → (∀ a ∈ fp, H' a = H a) → Rep K F' H' d v fp
  | _, _, _, .p h, _ => .p (Dq.mono e h)
  | _, _, _, .l h g, k => .l ((k _ List.mem_cons_self).trans h) (RepAll.keep e g fun a ha => k a (List.mem_cons_of_mem _ ha))
  | _, _, _, .c h, k => .c ((k _ List.mem_cons_self).trans h)
  | _, _, _, .m h hl g, k => .m ((k _ List.mem_cons_self).trans h) hl (RepAll.keep e g fun a ha => k a (List.mem_cons_of_mem _ ha))
  | _, _, _, .k h hl, k => .k ((k _ List.mem_cons_self).trans h) hl
theorem RepAll.keep (e : Same F F') : ∀ {d : List D} {v : List V} {fp : List Addr}, RepAll K F H d v fp → (∀ a ∈ fp, H' a = H a) → RepAll K F' H' d v fp
  | _, _, _, .nil, _ => .nil
  | _, _, _, .cons h g, k => .cons (Rep.keep e h fun a ha => k a (List.mem_append_left _ ha)) (RepAll.keep e g fun a ha => k a (List.mem_append_right _ ha))
end
theorem RepX.keep (e : Same F F') : ∀ {L : List (D × V)} {fp : List Addr}, RepX K F H L fp → (∀ a ∈ fp, H' a = H a) → RepX K F' H' L fp
  | _, _, .nil, _ => .nil
  | _, _, .cons h g, k => .cons (Rep.keep e h fun a ha => k a (List.mem_append_left _ ha)) (RepX.keep e g fun a ha => k a (List.mem_append_right _ ha))
mutual
theorem Rep.there : ∀ {d : D} {v : V} {fp : List Addr}, Rep K F H d v fp → ∀ a ∈ fp, ∃ o, H a = some o
  | _, _, _, .p _, _, ha => nomatch ha
  | _, _, _, .l h g, a, ha => by
    rcases List.mem_cons.mp ha with e | ha
    · exact ⟨_, e ▸ h⟩
    · exact RepAll.there g a ha
  | _, _, _, .c h, a, ha => by
    rcases List.mem_cons.mp ha with e | ha
    · exact ⟨_, e ▸ h⟩
    · exact nomatch ha
  | _, _, _, .m h _ g, a, ha => by
    rcases List.mem_cons.mp ha with e | ha
    · exact ⟨_, e ▸ h⟩
    · exact RepAll.there g a ha
  | _, _, _, .k h _, a, ha => by
    rcases List.mem_cons.mp ha with e | ha
    · exact ⟨_, e ▸ h⟩
    · exact nomatch ha
theorem RepAll.there : ∀ {d : List D} {v : List V} {fp : List Addr}, RepAll K F H d v fp → ∀ a ∈ fp, ∃ o, H a = some o
  | _, _, _, .nil, _, ha => nomatch ha
  | _, _, _, .cons h g, a, ha => (List.mem_append.mp ha).elim (Rep.there h a) (RepAll.there g a)
end
theorem RepX.there : ∀ {L : List (D × V)} {fp : List Addr}, RepX K F H L fp → ∀ a ∈ fp, ∃ o, H a = some o
  | _, _, .nil, _, ha => nomatch ha
  | _, _, .cons h g, a, ha => (List.mem_append.mp ha).elim (Rep.there h a) (RepX.there g a)
theorem RepX.perm {L L' : List (D × V)} (p : L.Perm L') : ∀ {fp : List Addr}, RepX K F H L fp → ∃ fp', RepX K F H L' fp' ∧ fp.Perm fp' := by
  induction p with
  | nil => exact fun h => ⟨_, h, .refl _⟩
  | cons x _ ih =>
    intro fp h
    cases h with
    | cons h g =>
      obtain ⟨fp', g', q⟩ := ih g
      exact ⟨_, .cons h g', q.append_left _⟩
  | swap x y l =>
    intro fp h
    cases h with
    | cons h g =>
      cases g with
      | cons h' g =>
        refine ⟨_, .cons h' (.cons h g), ?_⟩
        rw [← List.append_assoc, ← List.append_assoc]
        exact List.perm_append_comm.append_right _
  | trans _ _ ih1 ih2 =>
    intro fp h
    obtain ⟨fp1, g1, q1⟩ := ih1 h
    obtain ⟨fp2, g2, q2⟩ := ih2 g1
    exact ⟨fp2, g2, q1.trans q2⟩
theorem RepAll.zip : ∀ {ds : List D} {vs : List V} {fp : List Addr}, RepAll K F H ds vs fp → RepX K F H (ds.zip vs) fp ∧ ds.length = vs.length
  | _, _, _, .nil => ⟨.nil, rfl⟩
  | _, _, _, .cons h g => ⟨.cons h (RepAll.zip g).1, congrArg (· + 1) (RepAll.zip g).2⟩
theorem RepX.unzip : ∀ {ds : List D} {vs : List V} {fp : List Addr}, ds.length = vs.length → RepX K F H (ds.zip vs) fp → RepAll K F H ds vs fp
  | [], [], _, _, h => by
    cases h
    exact .nil
  | _ :: _, _ :: _, _, e, h => by
    cases h with
    | cons h g => exact .cons h (RepX.unzip (Nat.succ.inj e) g)
theorem RepX.app : ∀ {A B : List (D × V)} {fa fb : List Addr}, RepX K F H A fa → RepX K F H B fb → RepX K F H (A ++ B) (fa ++ fb)
  | _, _, _, _, .nil, h => h
  | _, _, _, _, .cons h g, h' => by
    rw [List.append_assoc]
    exact .cons h (RepX.app g h')
theorem RepX.split : ∀ {A B : List (D × V)} {fp : List Addr}, RepX K F H (A ++ B) fp → ∃ fa fb, RepX K F H A fa ∧ RepX K F H B fb ∧ fp = fa ++ fb
  | [], _, _, h => ⟨[], _, .nil, h, rfl⟩
  | _ :: A, _, _, h => by
    cases h with
    | cons h g =>
      obtain ⟨fa, fb, h1, h2, e⟩ := RepX.split (A := A) g
      exact ⟨_, fb, .cons h h1, h2, by rw [e, List.append_assoc]⟩
end
/-! ### the assertion -/
def SL (K : PySem.W.Frag) (H : Hp) (L : List (D × V)) : Prop := ∃ F fp, Same F H ∧ RepX K F H L fp ∧ fp.Nodup ∧ ∀ a ∈ fp, F a = none
section
variable {K : PySem.W.Frag} {H H' : Hp} {L L' : List (D × V)} {d : D} {v : V} {q : PyData} {a : Addr}
theorem SL.perm (h : SL K H L) (p : L.Perm L') : SL K H L' := by
  obtain ⟨F, fp, e, r, nd, f⟩ := h
  obtain ⟨fp', r', pp⟩ := RepX.perm p r
  exact ⟨F, fp', e, r', pp.nodup_iff.mp nd, fun a ha => f a (pp.mem_iff.mpr ha)⟩
theorem SL.drop {x : D × V} (h : SL K H (x :: L)) : SL K H L := by
  obtain ⟨F, fp, e, r, nd, f⟩ := h
  cases r with
  | cons h g => exact ⟨F, _, e, g, (List.nodup_append.mp nd).2.1, fun a ha => f a (List.mem_append_right _ ha)⟩
theorem SL.dropA : ∀ {A : List (D × V)}, SL K H (A ++ L) → SL K H L
  | [], h => h
  | _ :: A, h => SL.dropA (A := A) (SL.drop h)
theorem SL.dp (h : SL K H ((.p q, v) :: L)) : Dq K H v q := by
  obtain ⟨F, fp, e, r, nd, f⟩ := h
  cases r with
  | cons h g =>
    cases h with
    | p h => exact Dq.mono e h
theorem SL.dup (h : SL K H ((.p q, v) :: L)) : SL K H ((.p q, v) :: (.p q, v) :: L) := by
  obtain ⟨F, fp, e, r, nd, f⟩ := h
  cases r with
  | cons h g =>
    cases h with
    | p h => exact ⟨F, _, e, .cons (.p h) (.cons (.p h) g), nd, f⟩
theorem SL.flat (h : SL K H L) (e : ∀ H, Dq K H v q) : SL K H ((.p q, v) :: L) := by
  obtain ⟨F, fp, e1, r, nd, f⟩ := h
  exact ⟨F, _, e1, .cons (.p (e F)) r, nd, f⟩
theorem SL.grow (h : SL K H L) (e : Same H H') : SL K H' L := by
  obtain ⟨F, fp, e1, r, nd, f⟩ := h
  refine ⟨F, fp, e1.trans e, r.keep (Same.refl _) fun a ha => ?_, nd, f⟩
  obtain ⟨o, ho⟩ := r.there a ha
  rw [ho, e a o ho]
theorem same_upd {o : HO} (h : H a = none) : Same H (upd H a o) := fun b u e => by rw [upd_ne (ne_of_none e h)]; exact e
/-- the frozen part of items -/
theorem RepX.dpAll {K : PySem.W.Frag} {F H : Hp} : ∀ {ds : List PyData} {vs : List V} {L : List (D × V)} {fp : List Addr}, ds.length = vs.length → RepX K F H ((ds.map D.p).zip vs ++ L) fp → DqAll K F vs ds ∧ RepX K F H L fp
  | [], [], _, _, _, h => ⟨.nil, h⟩
  | _ :: _, _ :: _, _, _, e, h => by
    cases h with
    | cons h g =>
      cases h with
      | p h =>
        obtain ⟨x, y⟩ := RepX.dpAll (Nat.succ.inj e) g
        exact ⟨.cons h x, y⟩
theorem SL.dpAll {ds : List PyData} {vs : List V} (e : ds.length = vs.length) (h : SL K H ((ds.map D.p).zip vs ++ L)) : DqAll K H vs ds := by
  obtain ⟨F, fp, e1, r, nd, f⟩ := h
  exact DqAll.mono e1 (RepX.dpAll e r).1
/-- a new tuple of frozen items -/
theorem SL.tup {ds : List PyData} {vs : List V} (e : ds.length = vs.length) (h : SL K H ((ds.map D.p).zip vs ++ L)) (hn : H a = none) : SL K (upd H a (.tup vs)) ((.p (.tuple ds), .ref a) :: L) := by
  obtain ⟨F, fp, e1, r, nd, f⟩ := h
  obtain ⟨x, y⟩ := RepX.dpAll e r
  have hF : F a = none := e1.free hn
  have sF : Same F (upd F a (.tup vs)) := same_upd hF
  refine ⟨upd F a (.tup vs), fp, fun b u q => ?_, ?_, nd, fun b hb => ?_⟩
  · by_cases hb : b = a
    · subst hb
      rw [upd_same] at q ⊢
      exact q
    · rw [upd_ne hb] at q ⊢
      exact e1 b u q
  · exact .cons (fp := []) (.p (.tup (.inl (.inl upd_same)) (DqAll.mono sF x))) (y.keep sF fun b hb => by
      obtain ⟨u, hu⟩ := y.there b hb
      rw [upd_ne (ne_of_none hu hn)])
  · obtain ⟨u, hu⟩ := y.there b hb
    rw [upd_ne (ne_of_none hu hn)]
    exact f b hb
/-- a new list of any items, raw -/
theorem SL.newc {vs : List V} (h : SL K H L) (hn : H a = none) : SL K (upd H a (.lst vs)) ((.c vs, .ref a) :: L) := by
  obtain ⟨F, fp, e1, r, nd, f⟩ := h
  have hF : F a = none := e1.free hn
  have na : a ∉ fp := fun ha => by
    obtain ⟨u, hu⟩ := r.there a ha
    rw [hn] at hu
    cases hu
  refine ⟨F, a :: fp, e1.trans (same_upd hn), .cons (fp := [a]) (.c upd_same) (r.keep (Same.refl _) fun b hb => ?_), List.nodup_cons.mpr ⟨na, nd⟩, fun b hb => ?_⟩
  · rw [upd_ne (by rintro rfl; exact na hb)]
  · rcases List.mem_cons.mp hb with rfl | hb
    · exact hF
    · exact f b hb
theorem SL.close {ds : List D} {vs : List V} (e : ds.length = vs.length) (h : SL K H ((.c vs, .ref a) :: (ds.zip vs ++ L))) : SL K H ((.l ds, .ref a) :: L) := by
  obtain ⟨F, fp, e1, r, nd, f⟩ := h
  cases r with
  | cons h g =>
    cases h with
    | c h =>
      obtain ⟨fa, fb, g1, g2, rfl⟩ := RepX.split g
      refine ⟨F, _, e1, .cons (.l h (g1.unzip e)) g2, ?_, ?_⟩
      · simpa using nd
      · simpa using f
theorem SL.open {ds : List D} (h : SL K H ((.l ds, v) :: L)) : ∃ a vs, v = .ref a ∧ H a = some (.lst vs) ∧ ds.length = vs.length ∧ SL K H ((.c vs, .ref a) :: (ds.zip vs ++ L)) := by
  obtain ⟨F, fp, e1, r, nd, f⟩ := h
  cases r with
  | cons h g =>
    cases h with
    | @l a vs xs fp' h h' =>
      obtain ⟨z, e⟩ := h'.zip
      exact ⟨a, vs, rfl, h, e, F, [a] ++ (fp' ++ _), e1, .cons (.c h) (z.app g), by simpa using nd, by simpa using f⟩
theorem SL.write {vs vs' : List V} (h : SL K H ((.c vs, .ref a) :: L)) : SL K (upd H a (.lst vs')) ((.c vs', .ref a) :: L) := by
  obtain ⟨F, fp, e1, r, nd, f⟩ := h
  cases r with
  | cons h g =>
    cases h with
    | c h =>
      have na := (List.nodup_cons.mp (show (a :: _).Nodup from nd)).1
      have fa : F a = none := f a List.mem_cons_self
      refine ⟨F, _, fun b u q => ?_, .cons (.c upd_same) (g.keep (Same.refl _) fun b hb => ?_), nd, f⟩
      · rw [upd_ne (ne_of_none q fa)]
        exact e1 b u q
      · rw [upd_ne (by rintro rfl; exact na hb)]
theorem SL.cat {vs : List V} (h : SL K H ((.c vs, v) :: L)) : ∃ a, v = .ref a ∧ H a = some (.lst vs) := by
  obtain ⟨F, fp, e1, r, nd, f⟩ := h
  cases r with
  | cons h g =>
    cases h with
    | c h => exact ⟨_, rfl, h⟩
theorem dks_nil : dks [] [] = [] := rfl
/-- a new dict, empty and raw -/
theorem SL.newk (h : SL K H L) (hn : H a = none) : SL K (upd H a (.dK [])) ((.k [] [], .ref a) :: L) := by
  obtain ⟨F, fp, e1, r, nd, f⟩ := h
  have hF : F a = none := e1.free hn
  have na : a ∉ fp := fun ha => by
    obtain ⟨u, hu⟩ := r.there a ha
    rw [hn] at hu
    cases hu
  refine ⟨F, a :: fp, e1.trans (same_upd hn), .cons (fp := [a]) (.k (by rw [upd_same]; rfl) rfl) (r.keep (Same.refl _) fun b hb => ?_), List.nodup_cons.mpr ⟨na, nd⟩, fun b hb => ?_⟩
  · rw [upd_ne (by rintro rfl; exact na hb)]
  · rcases List.mem_cons.mp hb with rfl | hb
    · exact hF
    · exact f b hb
theorem SL.closek {ks : List Str} {ds : List D} {vs : List V} (e : ds.length = vs.length) (h : SL K H ((.k ks vs, .ref a) :: (ds.zip vs ++ L))) : SL K H ((.m ks ds, .ref a) :: L) := by
  obtain ⟨F, fp, e1, r, nd, f⟩ := h
  cases r with
  | cons h g =>
    cases h with
    | k h hl =>
      obtain ⟨fa, fb, g1, g2, rfl⟩ := RepX.split g
      refine ⟨F, _, e1, .cons (.m h hl (g1.unzip e)) g2, ?_, ?_⟩
      · simpa using nd
      · simpa using f
theorem SL.openk {ks : List Str} {ds : List D} (h : SL K H ((.m ks ds, v) :: L)) : ∃ a vs, v = .ref a ∧ H a = some (.dK (dks ks vs)) ∧ ks.length = vs.length ∧ ds.length = vs.length ∧ SL K H ((.k ks vs, .ref a) :: (ds.zip vs ++ L)) := by
  obtain ⟨F, fp, e1, r, nd, f⟩ := h
  cases r with
  | cons h g =>
    cases h with
    | @m a ks vs xs fp' h hl h' =>
      obtain ⟨z, e⟩ := h'.zip
      exact ⟨a, vs, rfl, h, hl, e, F, [a] ++ (fp' ++ _), e1, .cons (.k h hl) (z.app g), by simpa using nd, by simpa using f⟩
theorem SL.writek {ks ks' : List Str} {vs vs' : List V} (hl : ks'.length = vs'.length) (h : SL K H ((.k ks vs, .ref a) :: L)) : SL K (upd H a (.dK (dks ks' vs'))) ((.k ks' vs', .ref a) :: L) := by
  obtain ⟨F, fp, e1, r, nd, f⟩ := h
  cases r with
  | cons h g =>
    cases h with
    | k h _ =>
      have na := (List.nodup_cons.mp (show (a :: _).Nodup from nd)).1
      have fa : F a = none := f a List.mem_cons_self
      refine ⟨F, _, fun b u q => ?_, .cons (.k upd_same hl) (g.keep (Same.refl _) fun b hb => ?_), nd, f⟩
      · rw [upd_ne (ne_of_none q fa)]
        exact e1 b u q
      · rw [upd_ne (by rintro rfl; exact na hb)]
theorem SL.katt {ks : List Str} {vs : List V} (h : SL K H ((.k ks vs, v) :: L)) : ∃ a, v = .ref a ∧ H a = some (.dK (dks ks vs)) ∧ ks.length = vs.length := by
  obtain ⟨F, fp, e1, r, nd, f⟩ := h
  cases r with
  | cons h g =>
    cases h with
    | k h hl => exact ⟨_, rfl, h, hl⟩
/-- a raw list of frozen items becomes frozen -/
theorem SL.ice {ds : List PyData} {vs : List V} (e : ds.length = vs.length) (h : SL K H ((.c vs, v) :: ((ds.map D.p).zip vs ++ L))) : SL K H ((.p (.list ds), v) :: L) := by
  obtain ⟨F, fp, e1, r, nd, f⟩ := h
  cases r with
  | cons h g =>
    cases h with
    | @c a _ h =>
      obtain ⟨x, y⟩ := RepX.dpAll e g
      have nd' := List.nodup_cons.mp (show (a :: _).Nodup from nd)
      have fa : F a = none := f a List.mem_cons_self
      have sF : Same F (upd F a (.lst vs)) := same_upd fa
      refine ⟨upd F a (.lst vs), _, fun b u q => ?_, .cons (fp := []) (.p (.lst (.inl (.inl upd_same)) (DqAll.mono sF x))) (y.keep sF fun b hb => rfl), nd'.2, fun b hb => ?_⟩
      · by_cases hb : b = a
        · subst hb
          rw [upd_same] at q
          rw [h]
          exact q
        · rw [upd_ne hb] at q
          exact e1 b u q
      · rw [upd_ne (fun z => nd'.1 (by rw [← z]; exact hb))]
        exact f b (List.mem_cons_of_mem _ hb)
end
/-! ### freezing -/
mutual
def fz : D → Option PyData
  | .p q => some q
  | .l xs => (fzs xs).map .list
  | .c _ => none
  | .m _ _ => none
  | .k _ _ => none
def fzs : List D → Option (List PyData)
  | [] => some []
  | x :: xs => (fz x).bind fun q => (fzs xs).map (q :: ·)
end
mutual
theorem SL.frz {K : PySem.W.Frag} {H : Hp} : ∀ {d : D} {v : V} {q : PyData} {L : List (D × V)}, SL K H ((d, v) :: L) → fz d = some q → SL K H ((.p q, v) :: L)
  | .p q, v, _, L, h, e => by
    cases e
    exact h
  | .l xs, v, _, L, h, e => by
    obtain ⟨qs, eq, rfl⟩ := Option.map_eq_some_iff.mp (show (fzs xs).map PyData.list = some _ from e)
    obtain ⟨a, vs, rfl, ha, hl, h1⟩ := h.open
    have h2 := SL.frzs (xs := xs) (vs := vs) (L := (.c vs, .ref a) :: L) hl (h1.perm List.perm_middle.symm) eq
    exact SL.ice h2.1 (h2.2.perm List.perm_middle)
  | .c _, _, _, _, _, e => nomatch e
  | .m _ _, _, _, _, _, e => nomatch e
  | .k _ _, _, _, _, _, e => nomatch e
theorem SL.frzs {K : PySem.W.Frag} {H : Hp} : ∀ {xs : List D} {vs : List V} {qs : List PyData} {L : List (D × V)}, xs.length = vs.length → SL K H (xs.zip vs ++ L) → fzs xs = some qs → qs.length = vs.length ∧ SL K H ((qs.map D.p).zip vs ++ L)
  | [], [], _, L, _, h, e => by
    cases e
    exact ⟨rfl, h⟩
  | x :: xs, v :: vs, qs, L, hl, h, e => by
    obtain ⟨q, e1, e2⟩ := Option.bind_eq_some_iff.mp (show (GH.fz x).bind (fun q => (GH.fzs xs).map (q :: ·)) = some qs from e)
    obtain ⟨qs', e3, rfl⟩ := Option.map_eq_some_iff.mp e2
    have h1 : SL K H ((.p q, v) :: (xs.zip vs ++ L)) := SL.frz (show SL K H ((x, v) :: (xs.zip vs ++ L)) from h) e1
    have h2 := SL.frzs (xs := xs) (vs := vs) (L := (.p q, v) :: L) (Nat.succ.inj hl) (h1.perm List.perm_middle.symm) e3
    exact ⟨congrArg (· + 1) h2.1, h2.2.perm List.perm_middle⟩
end
end GH
namespace GH
open PySem L2
/-! ### slots -/
abbrev Nv := List (Option D)
def one (o : Option D) (u : Option V) : List (D × V) := match o, u with
  | some d, some v => [(d, v)]
  | _, _ => []
def slots : Nv → St → List (D × V)
  | o :: Γ, u :: σ => one o u ++ slots Γ σ
  | [], _ => []
  | _ :: _, [] => []
structure Fits (Γ : Nv) (σ : St) : Prop where
  len : Γ.length = σ.length
  has : ∀ (i : Nat) d, Γ[i]? = some (some d) → ∃ v, σ[i]? = some (some v)
theorem slots_take : ∀ {Γ : Nv} {σ : St} {i : Nat} {d : D} {v : V}, Γ[i]? = some (some d) → σ[i]? = some (some v) → (slots Γ σ).Perm ((d, v) :: slots (Γ.set i none) σ)
  | o :: Γ, u :: σ, 0, d, v, h, h' => by
    simp at h h'
    subst h h'
    exact .refl _
  | o :: Γ, u :: σ, i + 1, d, v, h, h' => by
    have ih := slots_take (Γ := Γ) (σ := σ) (i := i) (by simpa using h) (by simpa using h')
    exact (ih.append_left (one o u)).trans List.perm_middle
theorem slots_none : ∀ {Γ : Nv} {σ : St} {i : Nat} {u : Option V}, Γ[i]? = some none → slots Γ (σ.set i u) = slots Γ σ
  | o :: Γ, w :: σ, 0, u, h => by
    simp at h
    subst h
    rfl
  | o :: Γ, w :: σ, i + 1, u, h => by
    show one o w ++ slots Γ (σ.set i u) = one o w ++ slots Γ σ
    rw [slots_none (by simpa using h)]
  | o :: Γ, [], _, _, _ => rfl
theorem slots_put : ∀ {Γ : Nv} {σ : St} {i : Nat} {d : D} {v : V}, Γ[i]? = some none → σ[i]? = some (some v) → (slots (Γ.set i (some d)) σ).Perm ((d, v) :: slots Γ σ)
  | o :: Γ, u :: σ, 0, d, v, h, h' => by
    simp at h h'
    subst h h'
    exact .refl _
  | o :: Γ, u :: σ, i + 1, d, v, h, h' => by
    have ih := slots_put (Γ := Γ) (σ := σ) (i := i) (d := d) (v := v) (by simpa using h) (by simpa using h')
    exact (ih.append_left (one o u)).trans List.perm_middle
theorem set_same {α : Type} : ∀ {l : List α} {i : Nat} {x : α}, l[i]? = some x → l.set i x = l
  | y :: l, 0, x, h => by
    simp at h
    subst h
    rfl
  | y :: l, i + 1, x, h => by
    show y :: l.set i x = y :: l
    rw [set_same (by simpa using h)]
theorem get_set {α : Type} {l : List α} {i : Nat} {x : α} (h : i < l.length) : (l.set i x)[i]? = some x := List.getElem?_set_self h
theorem set_out {α : Type} : ∀ {l : List α} {i : Nat} {x : α}, ¬ i < l.length → l.set i x = l
  | [], _, _, _ => rfl
  | y :: l, 0, x, h => absurd (Nat.zero_lt_succ _) h
  | y :: l, i + 1, x, h => by
    show y :: l.set i x = y :: l
    rw [set_out (fun z => h (Nat.succ_lt_succ z))]
section
variable {K : PySem.W.Frag} {H : Hp} {Γ : Nv} {σ : St} {X : List (D × V)} {d : D} {v : V} {i : Nat}
theorem Fits.unset (F : Fits Γ σ) : Fits (Γ.set i none) σ := ⟨by rw [List.length_set]; exact F.len, fun j d h => by
  by_cases e : i = j
  · subst e
    by_cases hl : i < Γ.length
    · rw [get_set hl] at h; cases h
    · rw [set_out hl] at h; exact F.has _ _ h
  · rw [List.getElem?_set_ne e] at h; exact F.has _ _ h⟩
theorem Fits.put (F : Fits Γ σ) (h : σ[i]? = some (some v)) : Fits (Γ.set i (some d)) σ := ⟨by rw [List.length_set]; exact F.len, fun j d' h' => by
  by_cases e : i = j
  · subst e; exact ⟨v, h⟩
  · rw [List.getElem?_set_ne e] at h'; exact F.has _ _ h'⟩
theorem Fits.store (F : Fits Γ σ) : Fits (Γ.set i (some d)) (σ.set i (some v)) := ⟨by rw [List.length_set, List.length_set]; exact F.len, fun j d' h' => by
  by_cases e : i = j
  · subst e
    have hl : i < (Γ.set i (some d)).length := (List.getElem?_eq_some_iff.mp h').1
    rw [List.length_set] at hl
    exact ⟨v, get_set (by rw [← F.len]; exact hl)⟩
  · rw [List.getElem?_set_ne e] at h' ⊢; exact F.has _ _ h'⟩
theorem Fits.forget {u : Option V} (F : Fits Γ σ) : Fits (Γ.set i none) (σ.set i u) := ⟨by rw [List.length_set, List.length_set]; exact F.len, fun j d' h' => by
  by_cases e : i = j
  · subst e
    by_cases hl : i < Γ.length
    · rw [get_set hl] at h'; cases h'
    · rw [set_out hl] at h'; exact absurd (List.getElem?_eq_some_iff.mp h').1 hl
  · rw [List.getElem?_set_ne e] at h' ⊢; exact F.has _ _ h'⟩
theorem SL.take (h : SL K H (slots Γ σ ++ X)) (F : Fits Γ σ) (e : Γ[i]? = some (some d)) : ∃ v, σ[i]? = some (some v) ∧ SL K H ((d, v) :: (slots (Γ.set i none) σ ++ X)) := by
  obtain ⟨v, hv⟩ := F.has i d e
  exact ⟨v, hv, h.perm ((slots_take e hv).append_right X)⟩
theorem SL.unset (h : SL K H (slots Γ σ ++ X)) (F : Fits Γ σ) : SL K H (slots (Γ.set i none) σ ++ X) := by
  cases e : Γ[i]? with
  | none => rw [set_out (fun z => by rw [List.getElem?_eq_getElem z] at e; cases e)]; exact h
  | some o =>
    cases o with
    | none => rw [set_same e]; exact h
    | some d =>
      obtain ⟨v, _, h'⟩ := h.take F e
      exact h'.drop
theorem SL.back (h : SL K H ((d, v) :: (slots Γ σ ++ X))) (e : Γ[i]? = some none) (hv : σ[i]? = some (some v)) : SL K H (slots (Γ.set i (some d)) σ ++ X) :=
  h.perm ((slots_put e hv).append_right X).symm
theorem SL.store (h : SL K H ((d, v) :: (slots Γ σ ++ X))) (F : Fits Γ σ) (hi : i < Γ.length) : SL K H (slots (Γ.set i (some d)) (σ.set i (some v)) ++ X) := by
  have h1 : SL K H (slots Γ σ ++ (d, v) :: X) := h.perm List.perm_middle.symm
  have h2 : SL K H (slots (Γ.set i none) σ ++ (d, v) :: X) := h1.unset F
  have e0 : (Γ.set i none)[i]? = some none := get_set hi
  have h3 : SL K H (slots (Γ.set i none) (σ.set i (some v)) ++ (d, v) :: X) := by rw [slots_none e0]; exact h2
  have h4 := SL.back (i := i) (h3.perm List.perm_middle) e0 (get_set (by rw [← F.len]; exact hi))
  rw [List.set_set] at h4
  exact h4
theorem SL.forget {u : Option V} (h : SL K H (slots Γ σ ++ X)) (F : Fits Γ σ) : SL K H (slots (Γ.set i none) (σ.set i u) ++ X) := by
  by_cases hi : i < Γ.length
  · rw [slots_none (get_set hi)]
    exact h.unset F
  · rw [set_out hi, set_out (fun z => hi (by rw [F.len]; exact z))]
    exact h
/-- a value is copied out of a slot -/
theorem SL.copy {q : PyData} (h : SL K H (slots Γ σ ++ X)) (F : Fits Γ σ) (e : Γ[i]? = some (some (.p q))) : ∃ v, σ[i]? = some (some v) ∧ SL K H ((.p q, v) :: (slots Γ σ ++ X)) := by
  obtain ⟨v, hv, h1⟩ := h.take F e
  refine ⟨v, hv, ?_⟩
  have h2 := h1.dup
  have hi : i < Γ.length := (List.getElem?_eq_some_iff.mp e).1
  have h3 := SL.back (i := i) (X := (.p q, v) :: X) (h2.perm ((List.perm_middle.symm).cons _)) (get_set hi) hv
  rw [List.set_set, set_same e] at h3
  exact h3.perm List.perm_middle
end
/-! ### judgements -/
abbrev M := Nv → Option (D × Nv)
abbrev MT := Nv → Option (Bool × Nv)
abbrev MA := Nv → Option (List D × Nv)
inductive Out where
  | nx (Γ : Nv) | rt (d : D) (Γ : Nv) | bk (Γ : Nv) | ct (Γ : Nv)
abbrev MS := Nv → Option Out
/-- which arguments lie in a slot that is lent -/
def Lent (σ : St) : List (Option Nat) → List V → Prop
  | some i :: ls, v :: vs => σ[i]? = some (some v) ∧ Lent σ ls vs
  | none :: ls, _ :: vs => Lent σ ls vs
  | [], _ => True
  | _ :: _, [] => False
def Agree (ro : Nat → Prop) (σ σ' : St) : Prop := σ'.length = σ.length ∧ ∀ i, ro i → σ'[i]? = σ[i]?
theorem Agree.refl {ro : Nat → Prop} {σ : St} : Agree ro σ σ := ⟨rfl, fun _ _ => rfl⟩
theorem Agree.trans {ro : Nat → Prop} {σ σ1 σ2 : St} (a : Agree ro σ σ1) (b : Agree ro σ1 σ2) : Agree ro σ σ2 := ⟨b.1.trans a.1, fun i h => (b.2 i h).trans (a.2 i h)⟩
theorem Agree.set {ro : Nat → Prop} {σ : St} {i : Nat} {u : Option V} (h : ¬ ro i) : Agree ro σ (σ.set i u) := ⟨List.length_set, fun j hj => List.getElem?_set_ne fun z => h (by rw [z]; exact hj)⟩
section
variable (K : PySem.W.Frag)
def okE (f : M) : TE := fun σ H Q => ∃ Γ X d Γ', Fits Γ σ ∧ SL K H (slots Γ σ ++ X) ∧ f Γ = some (d, Γ') ∧ ∀ H' v, Fits Γ' σ → SL K H' ((d, v) :: (slots Γ' σ ++ X)) → Q v H'
def okT (f : MT) : TT := fun σ H Q => ∃ Γ X b Γ', Fits Γ σ ∧ SL K H (slots Γ σ ++ X) ∧ f Γ = some (b, Γ') ∧ ∀ H', Fits Γ' σ → SL K H' (slots Γ' σ ++ X) → Q b H'
def okA (ls : List (Option Nat)) (f : MA) : TA := fun σ H Q => ∃ Γ X ds Γ', Fits Γ σ ∧ SL K H (slots Γ σ ++ X) ∧ f Γ = some (ds, Γ') ∧ ∀ H' vs, Fits Γ' σ → ds.length = vs.length → Lent σ ls vs → SL K H' (ds.zip vs ++ (slots Γ' σ ++ X)) → Q vs H'
def okEnd (ro : Nat → Prop) (σ : St) (X : List (D × V)) (D : Ends) : Out → Prop
  | .nx Γ' => ∀ H' σ', Agree ro σ σ' → Fits Γ' σ' → SL K H' (slots Γ' σ' ++ X) → D.nx σ' H'
  | .bk Γ' => ∀ H' σ', Agree ro σ σ' → Fits Γ' σ' → SL K H' (slots Γ' σ' ++ X) → D.bk σ' H'
  | .ct Γ' => ∀ H' σ', Agree ro σ σ' → Fits Γ' σ' → SL K H' (slots Γ' σ' ++ X) → D.ct σ' H'
  | .rt d Γ' => ∀ H' σ' v, Agree ro σ σ' → Fits Γ' σ' → SL K H' ((d, v) :: (slots Γ' σ' ++ X)) → D.rt v H'
def okS (ro : Nat → Prop) (g : MS) : TS := fun D σ H => ∃ Γ X out, Fits Γ σ ∧ SL K H (slots Γ σ ++ X) ∧ g Γ = some out ∧ okEnd K ro σ X D out
/-- an operation by its data: dy is the second one -/
def okO (o : D → D → Option D) : R2 := fun x y H Q => ∃ L dx dy d, SL K H ((dy, y) :: (dx, x) :: L) ∧ o dx dy = some d ∧ ∀ H' v, SL K H' ((d, v) :: L) → Q v H'
def okU (o : D → Option D) : V → Hp → VK → Prop := fun x H Q => ∃ L dx d, SL K H ((dx, x) :: L) ∧ o dx = some d ∧ ∀ H' v, SL K H' ((d, v) :: L) → Q v H'
def okC (o : List D → Option D) : List V → Hp → VK → Prop := fun vs H Q => ∃ L ds d, ds.length = vs.length ∧ SL K H (ds.zip vs ++ L) ∧ o ds = some d ∧ ∀ H' v, SL K H' ((d, v) :: L) → Q v H'
/-- what is read stays -/
def okR (o : D → D → Option D) : R2 := fun x y H Q => ∃ L dx dy d, SL K H ((dy, y) :: (dx, x) :: L) ∧ o dx dy = some d ∧ ∀ H' v, SL K H' ((d, v) :: (dx, x) :: L) → Q v H'
end
theorem okR_okO {K : PySem.W.Frag} {o : D → D → Option D} {x y : V} {H : Hp} {Q : VK} (h : okO K o x y H Q) : okR K o x y H Q := by
  obtain ⟨L, dx, dy, d, s, e, k⟩ := h
  exact ⟨L, dx, dy, d, s, e, fun H' v s' => k H' v ((s'.perm (.swap _ _ _)).drop)⟩
section
variable {C : Cx}
theorem _root_.L2.OpR.gimp {f : Value → Value → Sem Value} {r r' : R2} (h : OpR C f r) (i : ∀ x y H Q, r' x y H Q → r x y H Q) : OpR C f r' := fun pins s σ H x y v u Q I rx ry q => h pins s σ H x y v u Q I rx ry (i _ _ _ _ q)
theorem _root_.L2.UnR.gimp {f : Value → Sem Value} {r r' : V → Hp → VK → Prop} (h : UnR C f r) (i : ∀ x H Q, r' x H Q → r x H Q) : UnR C f r' := fun pins s σ H x v Q I rx q => h pins s σ H x v Q I rx (i _ _ _ q)
theorem _root_.L2.IxR.gimp {r r' : R2} (h : IxR C r) (i : ∀ x y H Q, r' x y H Q → r x y H Q) : IxR C r' := fun a b pins s σ H x y v u Q I rx ry q e => h a b pins s σ H x y v u Q I rx ry (i _ _ _ _ q) e
theorem _root_.L2.CallR.gimp {f : Value} {r r' : List V → Hp → VK → Prop} (h : CallR C f r) (i : ∀ xs H Q, r' xs H Q → r xs H Q) : CallR C f r' := fun pins s σ H xs us Q I rx q => h pins s σ H xs us Q I rx (i _ _ _ q)
theorem _root_.L2.OpR.galt {f : Value → Value → Sem Value} {r1 r2 : R2} (h1 : OpR C f r1) (h2 : OpR C f r2) : OpR C f (fun x y H Q => r1 x y H Q ∨ r2 x y H Q) := fun pins s σ H x y v u Q I rx ry q =>
  q.elim (h1 pins s σ H x y v u Q I rx ry) (h2 pins s σ H x y v u Q I rx ry)
theorem _root_.L2.IxR.galt {r1 r2 : R2} (h1 : IxR C r1) (h2 : IxR C r2) : IxR C (fun x y H Q => r1 x y H Q ∨ r2 x y H Q) := fun a b pins s σ H x y v u Q I rx ry q e =>
  q.elim (fun q => h1 a b pins s σ H x y v u Q I rx ry q e) (fun q => h2 a b pins s σ H x y v u Q I rx ry q e)
theorem _root_.L2.CallR.galt {f : Value} {r1 r2 : List V → Hp → VK → Prop} (h1 : CallR C f r1) (h2 : CallR C f r2) : CallR C f (fun x H Q => r1 x H Q ∨ r2 x H Q) := fun pins s σ H x v Q I rx q =>
  q.elim (h1 pins s σ H x v Q I rx) (h2 pins s σ H x v Q I rx)
theorem _root_.L2.PE.gimp {e : Expr} {t t' : TE} (h : PE C e t) (i : ∀ σ H Q, t' σ H Q → t σ H Q) : PE C e t' := ⟨fun pins s σ H Q I q => h.run pins s σ H Q I (i _ _ _ q)⟩
theorem _root_.L2.PT.gimp {e : Expr} {t t' : TT} (h : PT C e t) (i : ∀ σ H Q, t' σ H Q → t σ H Q) : PT C e t' := ⟨fun pins s σ H Q I q => h.run pins s σ H Q I (i _ _ _ q)⟩
theorem _root_.L2.PA.gimp {es : List Expr} {t t' : TA} (h : PA C es t) (i : ∀ σ H Q, t' σ H Q → t σ H Q) : PA C es t' := ⟨fun pos pins s σ H Q I q => h.run pos pins s σ H Q I (i _ _ _ q)⟩
theorem _root_.L2.PS.gimp {st : Stmt} {t t' : TS} (h : PS C st t) (i : ∀ D σ H, t' D σ H → t D σ H) : PS C st t' := ⟨fun pins s σ H D I q => h.run pins s σ H D I (i _ _ _ q)⟩
theorem _root_.L2.PSs.gimp {st : List Stmt} {t t' : TS} (h : PSs C st t) (i : ∀ D σ H, t' D σ H → t D σ H) : PSs C st t' := ⟨fun pins s σ H D I q => h.run pins s σ H D I (i _ _ _ q)⟩
theorem _root_.L2.PI.gimp {tg e : Expr} {t t' : TI} (h : PI C tg e t) (i : ∀ σ H Q, t' σ H Q → t σ H Q) : PI C tg e t' := ⟨fun pins s σ H Q I q => h.run pins s σ H Q I (i _ _ _ q)⟩
end
/-! ### expressions -/
def ret (d : D) : M := fun Γ => some (d, Γ)
def rdM (i : Nat) : M := fun Γ => match Γ[i]? with
  | some (some (.p q)) => some (.p q, Γ)
  | some (some d) => (fz d).map fun q => (.p q, Γ.set i (some (.p q)))
  | _ => none
/-- a slot's value, moved out -/
def mvM (i : Nat) : M := fun Γ => match Γ[i]? with
  | some (some (.p q)) => some (.p q, Γ)
  | some (some d) => some (d, Γ.set i none)
  | _ => none
def bin (o : D → D → Option D) (f g : M) : M := fun Γ => (f Γ).bind fun r => (g r.2).bind fun s => (o r.1 s.1).map fun d => (d, s.2)
def una (o : D → Option D) (f : M) : M := fun Γ => (f Γ).bind fun r => (o r.1).map fun d => (d, r.2)
def argN : MA := fun Γ => some ([], Γ)
def argC (f : M) (g : MA) : MA := fun Γ => (f Γ).bind fun r => (g r.2).bind fun s => some (r.1 :: s.1, s.2)
def appD (o : List D → Option D) (f : MA) : M := fun Γ => (f Γ).bind fun r => (o r.1).map fun d => (d, r.2)
def ifM (c : MT) (f g : M) : M := fun Γ => (c Γ).bind fun r => if r.1 = true then f r.2 else g r.2
def isT (f : M) : MT := fun Γ => match f Γ with
  | some (.p (.bool b), Γ') => some (b, Γ')
  | _ => none
def andT (f g : MT) : MT := fun Γ => (f Γ).bind fun r => if r.1 = true then g r.2 else some (false, r.2)
def orT (f g : MT) : MT := fun Γ => (f Γ).bind fun r => if r.1 = true then some (true, r.2) else g r.2
def notT (f : MT) : MT := fun Γ => (f Γ).bind fun r => some (!r.1, r.2)
def ofT (f : MT) : M := fun Γ => (f Γ).bind fun r => some (.p (.bool r.1), r.2)
/-- the value in slot i is read by an operation, and stays -/
def rdO (o : D → D → Option D) (i : Nat) (g : M) : M := fun Γ => match Γ[i]? with
  | some (some _) => (g Γ).bind fun s => match s.2[i]? with
    | some (some x) => (o x s.1).map fun d => (d, s.2)
    | _ => none
  | _ => none
def rdU (o : D → Option D) (i : Nat) : M := fun Γ => match Γ[i]? with
  | some (some x) => (o x).map fun d => (d, Γ)
  | _ => none
section
variable {C : Cx} {a b c : Expr} {es : List Expr} {f g : M} {fa : MA} {ft gt : MT} {pos p : Pos} {i : Nat} {ls : List (Option Nat)}
theorem bindS {α β : Type} {x : Option α} {f : α → Option β} {r : β} (h : x.bind f = some r) : ∃ y, x = some y ∧ f y = some r := Option.bind_eq_some_iff.mp h
theorem mapS {α β : Type} {x : Option α} {f : α → β} {r : β} (h : x.map f = some r) : ∃ y, x = some y ∧ f y = r := Option.map_eq_some_iff.mp h
theorem ee_int {n : Int} {j} : PE C (.Constant (.int n) j pos) (okE C.K (ret (.p (.int n)))) := (pe_int).gimp fun σ H Q ⟨Γ, X, d, Γ', F, S, e, k⟩ => by
  cases e
  exact k H (.int n) F (S.flat fun _ => .int n)
theorem ee_bool {n : Bool} {j} : PE C (.Constant (.bool n) j pos) (okE C.K (ret (.p (.bool n)))) := (pe_bl).gimp fun σ H Q ⟨Γ, X, d, Γ', F, S, e, k⟩ => by
  cases e
  exact k H (.bl n) F (S.flat fun _ => .bl n)
theorem ee_none {j} : PE C (.Constant .none j pos) (okE C.K (ret (.p .none))) := (pe_non).gimp fun σ H Q ⟨Γ, X, d, Γ', F, S, e, k⟩ => by
  cases e
  exact k H .non F (S.flat fun _ => .non)
theorem ee_str {n : Str} {j} : PE C (.Constant (.str n) j pos) (okE C.K (ret (.p (.str n)))) := (pe_str).gimp fun σ H Q ⟨Γ, X, d, Γ', F, S, e, k⟩ => by
  cases e
  exact k H (.str n) F (S.flat fun _ => .str n)
theorem rd_run {K : PySem.W.Frag} {Γ Γ' : Nv} {σ : St} {H : Hp} {X : List (D × V)} {d : D} (F : Fits Γ σ) (S : SL K H (slots Γ σ ++ X)) (e : rdM i Γ = some (d, Γ')) : ∃ v, σ[i]? = some (some v) ∧ Fits Γ' σ ∧ SL K H ((d, v) :: (slots Γ' σ ++ X)) := by
  unfold rdM at e
  split at e
  · rename_i q eq
    cases e
    obtain ⟨v, hv, S'⟩ := S.copy F eq
    exact ⟨v, hv, F, S'⟩
  · rename_i d' hd eq
    obtain ⟨q, e1, e2⟩ := mapS e
    cases e2
    obtain ⟨v, hv, S1⟩ := S.take F eq
    have S2 := (S1.frz e1).dup
    have hi : i < Γ.length := (List.getElem?_eq_some_iff.mp eq).1
    have S3 := SL.back (i := i) (X := (.p q, v) :: X) (S2.perm ((List.perm_middle.symm).cons _)) (get_set hi) hv
    rw [List.set_set] at S3
    exact ⟨v, hv, F.put hv, S3.perm List.perm_middle⟩
  · cases e
theorem mv_run {K : PySem.W.Frag} {Γ Γ' : Nv} {σ : St} {H : Hp} {X : List (D × V)} {d : D} (F : Fits Γ σ) (S : SL K H (slots Γ σ ++ X)) (e : mvM i Γ = some (d, Γ')) : ∃ v, σ[i]? = some (some v) ∧ Fits Γ' σ ∧ SL K H ((d, v) :: (slots Γ' σ ++ X)) := by
  unfold mvM at e
  split at e
  · rename_i q eq
    cases e
    obtain ⟨v, hv, S'⟩ := S.copy F eq
    exact ⟨v, hv, F, S'⟩
  · rename_i d' hd eq
    cases e
    obtain ⟨v, hv, S1⟩ := S.take F eq
    exact ⟨v, hv, F.unset, S1⟩
  · cases e
theorem ee_rd {x : Str} (hv : PE C (.Name x pos) (tVar i)) : PE C (.Name x pos) (okE C.K (rdM i)) := hv.gimp fun σ H Q ⟨Γ, X, d, Γ', F, S, e, k⟩ => by
  obtain ⟨v, hv, F', S'⟩ := rd_run F S e
  exact ⟨v, hv, k H v F' S'⟩
theorem ee_mv {x : Str} (hv : PE C (.Name x pos) (tVar i)) : PE C (.Name x pos) (okE C.K (mvM i)) := hv.gimp fun σ H Q ⟨Γ, X, d, Γ', F, S, e, k⟩ => by
  obtain ⟨v, hv, F', S'⟩ := mv_run F S e
  exact ⟨v, hv, k H v F' S'⟩
theorem op_run {K : PySem.W.Frag} {o : D → D → Option D} {σ : St} {H : Hp} {Q : VK} (h : okE K (bin o f g) σ H Q) : tOp (okO K o) (okE K f) (okE K g) σ H Q := by
  obtain ⟨Γ, X, d, Γ', F, S, e, k⟩ := h
  obtain ⟨⟨x, Γ1⟩, e1, e⟩ := bindS e
  obtain ⟨⟨y, Γ2⟩, e2, e⟩ := bindS e
  obtain ⟨z, e3, e⟩ := mapS e
  cases e
  refine ⟨Γ, X, x, Γ1, F, S, e1, fun H1 v F1 S1 => ⟨Γ1, (x, v) :: X, y, _, F1, S1.perm List.perm_middle.symm, e2, fun H2 u F2 S2 => ?_⟩⟩
  exact ⟨slots _ σ ++ X, x, y, _, S2.perm (List.perm_middle.cons _), e3, fun H' w S3 => k H' w F2 S3⟩
theorem ee_bin {op : Operator} {o : D → D → Option D} (ho : OpR C (binaryOp op) (okO C.K o)) (ha : PE C a (okE C.K f)) (hb : PE C b (okE C.K g)) : PE C (.BinOp a op b pos) (okE C.K (bin o f g)) :=
  (pe_op ho ha hb).gimp fun _ _ _ h => op_run h
theorem ee_una {op : UnaryOp} {o : D → Option D} (ho : UnR C (unaryOp op) (okU C.K o)) (ha : PE C a (okE C.K f)) : PE C (.UnaryOp op a pos) (okE C.K (una o f)) :=
  (pe_un ho ha).gimp fun σ H Q ⟨Γ, X, d, Γ', F, S, e, k⟩ => by
    obtain ⟨⟨x, Γ1⟩, e1, e⟩ := bindS e
    obtain ⟨z, e3, e⟩ := mapS e
    cases e
    exact ⟨Γ, X, x, Γ1, F, S, e1, fun H1 v F1 S1 => ⟨_, x, _, S1, e3, fun H' w S3 => k H' w F1 S3⟩⟩
theorem ee_cmp {op : CmpOp} {o : D → D → Option D} (ho : OpR C (compareOp op) (okO C.K o)) (ha : PE C a (okE C.K f)) (hb : PE C b (okE C.K g)) (hm : behindInMarks op b = false) : PE C (.Compare a [op] [b] pos) (okE C.K (bin o f g)) :=
  (pe_cmpR ho ha hb hm).gimp fun _ _ _ h => op_run h
theorem isT_run {K : PySem.W.Frag} {σ : St} {H : Hp} {Q : Bool → Hp → Prop} (h : okT K (isT f) σ H Q) : tTest (okE K f) σ H Q := by
  obtain ⟨Γ, X, b, Γ', F, S, e, k⟩ := h
  unfold isT at e
  split at e
  · rename_i b' Γ1 e1
    cases e
    refine ⟨Γ, X, _, _, F, S, e1, fun H1 v F1 S1 => ?_⟩
    have z := S1.dp
    cases z
    exact ⟨b, rfl, k H1 F1 S1.drop⟩
  · cases e
theorem et_cmp {op : CmpOp} {o : D → D → Option D} (ho : OpR C (compareOp op) (okO C.K o)) (ha : PE C a (okE C.K f)) (hb : PE C b (okE C.K g)) (hm : behindInMarks op b = false) : PT C (.Compare a [op] [b] pos) (okT C.K (isT (bin o f g))) :=
  (pt_cmpR ho ha hb hm).gimp fun σ H Q h => by
    obtain h' := isT_run h
    exact op_run h'
theorem et_val (ha : PE C a (okE C.K f)) (he : ∀ whole, isTrue a C.env whole = (do let v ← whole; standAt a.pos; holding [v] (truthy v)) := by intro _; rfl) : PT C a (okT C.K (isT f)) :=
  (pt_val ha he).gimp fun σ H Q h => isT_run h
theorem et_and1 (ha : PT C a (okT C.K ft)) : PW C (.BoolOp .And [a] pos) (okT C.K ft) := pw_and1 ha
theorem et_or1 (ha : PT C a (okT C.K ft)) : PW C (.BoolOp .Or [a] pos) (okT C.K ft) := pw_or1 ha
theorem _root_.L2.PW.gimp {e : Expr} {t t' : TT} (h : PW C e t) (i : ∀ σ H Q, t' σ H Q → t σ H Q) : PW C e t' := ⟨fun wh pins s σ H Q I q => h.run wh pins s σ H Q I (i _ _ _ q)⟩
theorem et_and (ha : PT C a (okT C.K ft)) (hb : PW C (.BoolOp .And (b :: es) pos) (okT C.K gt)) : PW C (.BoolOp .And (a :: b :: es) pos) (okT C.K (andT ft gt)) :=
  L2.PW.gimp (pw_and ha hb) fun σ H Q ⟨Γ, X, r, Γ', F, S, e, k⟩ => by
    obtain ⟨⟨x, Γ1⟩, e1, e⟩ := bindS e
    refine ⟨Γ, X, x, Γ1, F, S, e1, fun H1 F1 S1 => ?_⟩
    cases x with
    | true => exact ⟨Γ1, X, r, Γ', F1, S1, e, k⟩
    | false =>
      cases (show some (false, Γ1) = some (r, Γ') from e)
      exact k H1 F1 S1
theorem et_or (ha : PT C a (okT C.K ft)) (hb : PW C (.BoolOp .Or (b :: es) pos) (okT C.K gt)) : PW C (.BoolOp .Or (a :: b :: es) pos) (okT C.K (orT ft gt)) :=
  L2.PW.gimp (pw_or ha hb) fun σ H Q ⟨Γ, X, r, Γ', F, S, e, k⟩ => by
    obtain ⟨⟨x, Γ1⟩, e1, e⟩ := bindS e
    refine ⟨Γ, X, x, Γ1, F, S, e1, fun H1 F1 S1 => ?_⟩
    cases x with
    | false => exact ⟨Γ1, X, r, Γ', F1, S1, e, k⟩
    | true =>
      cases (show some (true, Γ1) = some (r, Γ') from e)
      exact k H1 F1 S1
theorem et_not (ha : PT C a (okT C.K ft)) : PT C (.UnaryOp .Not a pos) (okT C.K (notT ft)) :=
  (pt_not ha).gimp fun σ H Q ⟨Γ, X, r, Γ', F, S, e, k⟩ => by
    obtain ⟨⟨x, Γ1⟩, e1, e⟩ := bindS e
    cases e
    exact ⟨Γ, X, x, _, F, S, e1, fun H1 F1 S1 => k H1 F1 S1⟩
theorem ofT_run {K : PySem.W.Frag} {σ : St} {H : Hp} {Q : VK} {r : Bool} {Γ Γ' : Nv} {X : List (D × V)} (k : ∀ H' v, Fits Γ' σ → SL K H' ((.p (.bool r), v) :: (slots Γ' σ ++ X)) → Q v H') : ∀ H', Fits Γ' σ → SL K H' (slots Γ' σ ++ X) → Q (.bl r) H' :=
  fun H' F S => k H' (.bl r) F (S.flat fun _ => .bl r)
theorem ee_if {cnd : Expr} (hc : PT C cnd (okT C.K ft)) (ha : PE C a (okE C.K f)) (hb : PE C b (okE C.K g)) : PE C (.IfExp cnd a b pos) (okE C.K (ifM ft f g)) :=
  (pe_ifExp hc ha hb).gimp fun σ H Q ⟨Γ, X, r, Γ', F, S, e, k⟩ => by
    obtain ⟨⟨x, Γ1⟩, e1, e⟩ := bindS e
    refine ⟨Γ, X, x, Γ1, F, S, e1, fun H1 F1 S1 => ?_⟩
    cases x with
    | true => exact ⟨Γ1, X, r, Γ', F1, S1, e, k⟩
    | false => exact ⟨Γ1, X, r, Γ', F1, S1, e, k⟩
theorem ea_nil : PA C [] (okA C.K [] argN) := pa_nil.gimp fun σ H Q ⟨Γ, X, ds, Γ', F, S, e, k⟩ => by
  cases e
  exact k H [] F rfl trivial S
theorem ea_cons (ha : PE C a (okE C.K f)) (hr : PA C es (okA C.K ls fa)) (hs : starEach (a :: es) C.env = (false, eval a C.env) :: starEach es C.env := by rfl) : PA C (a :: es) (okA C.K (none :: ls) (argC f fa)) :=
  (pa_cons ha hr hs).gimp fun σ H Q ⟨Γ, X, ds, Γ', F, S, e, k⟩ => by
    obtain ⟨⟨x, Γ1⟩, e1, e⟩ := bindS e
    obtain ⟨⟨xs, Γ2⟩, e2, e⟩ := bindS e
    cases e
    refine ⟨Γ, X, x, Γ1, F, S, e1, fun H1 v F1 S1 => ⟨Γ1, (x, v) :: X, xs, _, F1, S1.perm List.perm_middle.symm, e2, fun H2 vs F2 hl hL S2 => ?_⟩⟩
    refine k H2 (v :: vs) F2 (congrArg (· + 1) hl) hL (S2.perm ?_)
    rw [← List.append_assoc]
    show ((xs.zip vs ++ slots _ σ) ++ (x, v) :: X).Perm ((x, v) :: (xs.zip vs ++ (slots _ σ ++ X)))
    rw [← List.append_assoc]
    exact List.perm_middle
/-- a name is lent -/
theorem ea_lend {x : Str} (hv : PE C (.Name x p) (tVar i)) (hr : PA C es (okA C.K ls fa)) (hs : starEach ((.Name x p) :: es) C.env = (false, eval (.Name x p) C.env) :: starEach es C.env := by rfl) : PA C ((.Name x p) :: es) (okA C.K (some i :: ls) (argC (mvM i) fa)) :=
  (pa_cons hv hr hs).gimp fun σ H Q ⟨Γ, X, ds, Γ', F, S, e, k⟩ => by
    obtain ⟨⟨x, Γ1⟩, e1, e⟩ := bindS e
    obtain ⟨⟨xs, Γ2⟩, e2, e⟩ := bindS e
    cases e
    obtain ⟨v, hv, F1, S1⟩ := mv_run F S e1
    refine ⟨v, hv, ⟨Γ1, (x, v) :: X, xs, _, F1, S1.perm List.perm_middle.symm, e2, fun H2 vs F2 hl hL S2 => ?_⟩⟩
    refine k H2 (v :: vs) F2 (congrArg (· + 1) hl) ⟨hv, hL⟩ (S2.perm ?_)
    rw [← List.append_assoc]
    show ((xs.zip vs ++ slots _ σ) ++ (x, v) :: X).Perm ((x, v) :: (xs.zip vs ++ (slots _ σ ++ X)))
    rw [← List.append_assoc]
    exact List.perm_middle
theorem app_run {K : PySem.W.Frag} {o : List D → Option D} {σ : St} {H : Hp} {Q : VK} (h : okE K (appD o fa) σ H Q) : (okA K ls fa) σ H fun vs H1 => okC K o vs H1 Q := by
  obtain ⟨Γ, X, d, Γ', F, S, e, k⟩ := h
  obtain ⟨⟨xs, Γ1⟩, e1, e⟩ := bindS e
  obtain ⟨z, e3, e⟩ := mapS e
  cases e
  exact ⟨Γ, X, xs, Γ1, F, S, e1, fun H1 vs F1 hl hL S1 => ⟨_, xs, _, hl, S1, e3, fun H' w S3 => k H' w F1 S3⟩⟩
theorem ee_callB {x : Str} {id : String} {o : List D → Option D} (hc : CallR C (.builtin id) (okC C.K o)) (hg : Gl C x) (hm : C.mg x = none) (hv : bootBuiltins x = some (.builtin id)) (ha : PA C (a :: es) (okA C.K ls fa)) (hn : x ≠ "__name__" := by decide) (hdb : (x == ("__debug__" : Str)) = false := by decide)
    (he : starEach (a :: es) C.env = (false, eval a C.env) :: starEach es C.env := by rfl) (hpl : (backTo pos (starEach es C.env)).any (·.1) = false := by rfl) : PE C (.Call (.Name x p) (a :: es) [] pos) (okE C.K (appD o fa)) :=
  (pe_callB hc hg hm hv ha hn hdb he hpl).gimp fun _ _ _ h => app_run h
theorem ee_callTy {x : Str} {T : String} {o : List D → Option D} (hc : CallR C (.type T) (okC C.K o)) (hg : Gl C x) (hm : C.mg x = none) (hv : bootBuiltins x = some (.type T)) (ha : PA C (a :: es) (okA C.K ls fa)) (hn : x ≠ "__name__" := by decide) (hdb : (x == ("__debug__" : Str)) = false := by decide)
    (he : starEach (a :: es) C.env = (false, eval a C.env) :: starEach es C.env := by rfl) (hpl : (backTo pos (starEach es C.env)).any (·.1) = false := by rfl) : PE C (.Call (.Name x p) (a :: es) [] pos) (okE C.K (appD o fa)) :=
  (pe_callTy hc hg hm hv ha hn hdb he hpl).gimp fun _ _ _ h => app_run h
/-! displays -/
def tupD : List D → Option D := fun ds => if ds.length ≤ 1000 then (fzs ds).map fun qs => .p (.tuple qs) else none
def lstD : List D → Option D := fun ds => if ds.length ≤ 1000 then some (.l ds) else none
theorem le_line {n : Nat} (h : n ≤ 1000) : n ≤ sizeLine := Nat.le_trans h (by decide)
theorem ee_tup {k} (ha : PA C es (okA C.K ls fa)) : PE C (.Tuple es k pos) (okE C.K (appD tupD fa)) := (pe_tup ha).gimp fun σ H Q h => by
  obtain ⟨Γ, X, ds, Γ', F, S, e, k⟩ := app_run (ls := ls) h
  refine ⟨Γ, X, ds, Γ', F, S, e, fun H1 vs F1 hl hL S1 => ?_⟩
  obtain ⟨L, es, d, hl', S2, e2, k2⟩ := k H1 vs F1 hl hL S1
  unfold tupD at e2
  split at e2
  · rename_i h1
    obtain ⟨qs, e3, rfl⟩ := mapS e2
    refine ⟨by rw [← hl']; exact le_line h1, fun p hp => k2 _ _ ?_⟩
    obtain ⟨hq, S3⟩ := SL.frzs hl' S2 e3
    exact S3.tup hq hp
  · cases e2
theorem ee_lst (ha : PA C es (okA C.K ls fa)) : PE C (.List es pos) (okE C.K (appD lstD fa)) := (pe_lst ha).gimp fun σ H Q h => by
  obtain ⟨Γ, X, ds, Γ', F, S, e, k⟩ := app_run (ls := ls) h
  refine ⟨Γ, X, ds, Γ', F, S, e, fun H1 vs F1 hl hL S1 => ?_⟩
  obtain ⟨L, es, d, hl', S2, e2, k2⟩ := k H1 vs F1 hl hL S1
  unfold lstD at e2
  split at e2
  · rename_i h1
    cases e2
    refine ⟨by rw [← hl']; exact le_line h1, fun p hp => k2 _ _ ?_⟩
    exact SL.close hl' (S2.newc hp)
  · cases e2
/-! a slot that is read and stays -/
theorem rdO_run {K : PySem.W.Frag} {o : D → D → Option D} {σ : St} {H : Hp} {Q : VK} (h : okE K (rdO o i g) σ H Q) : tOp (okR K o) (tVar i) (okE K g) σ H Q := by
  obtain ⟨Γ, X, d, Γ', F, S, e, k⟩ := h
  unfold rdO at e
  split at e
  · rename_i x0 ex0
    obtain ⟨⟨y, Γ1⟩, e1, e⟩ := bindS e
    dsimp only at e
    split at e
    · rename_i x ex
      obtain ⟨z, e2, e⟩ := mapS e
      cases e
      obtain ⟨v, hv⟩ := F.has i x0 ex0
      refine ⟨v, hv, Γ, X, y, _, F, S, e1, fun H1 u F1 S1 => ?_⟩
      obtain ⟨v', hv', S2⟩ := SL.take (S1.perm List.perm_middle.symm) F1 ex
      obtain rfl : v = v' := Option.some.inj (Option.some.inj (hv.symm.trans hv'))
      refine ⟨slots (Γ'.set i none) σ ++ X, x, y, _, S2.perm ((List.perm_middle.cons _).trans (.swap _ _ _)), e2, fun H2 w S3 => k H2 w F1 ?_⟩
      have hi : i < Γ'.length := (List.getElem?_eq_some_iff.mp ex).1
      have S4 := SL.back (i := i) (X := (_, w) :: X) ((S3.perm (.swap _ _ _)).perm (List.perm_middle.symm.cons _)) (get_set hi) hv
      rw [List.set_set, set_same ex] at S4
      exact S4.perm List.perm_middle
    · cases e
  · cases e
end
end GH
namespace GH
open PySem L2
theorem SL.sub {K : PySem.W.Frag} {H : Hp} {L L' : List (D × V)} (h : SL K H L) (s : L'.Sublist L) : SL K H L' := by
  obtain ⟨r, p⟩ := s.exists_perm_append
  exact SL.dropA (A := r) (h.perm (p.trans List.perm_append_comm))
theorem swap3 {α : Type} (A B X : List α) : (A ++ (B ++ X)).Perm (B ++ (A ++ X)) := by
  rw [← List.append_assoc, ← List.append_assoc]
  exact List.perm_append_comm.append_right X
/-! ### targets -/
abbrev MG := D → Nv → Option Nv
def okG (K : PySem.W.Frag) (ro : Nat → Prop) (t : MG) : TG := fun v σ H Q => ∃ Γ X d Γ', Fits Γ σ ∧ SL K H ((d, v) :: (slots Γ σ ++ X)) ∧ t d Γ = some Γ' ∧ ∀ σ' H', Agree ro σ σ' → Fits Γ' σ' → SL K H' (slots Γ' σ' ++ X) → Q σ' H'
def okGs (K : PySem.W.Frag) (ro : Nat → Prop) (t : List PyData → Nv → Option Nv) : TGs := fun vs σ H Q => ∃ Γ X ds Γ', Fits Γ σ ∧ ds.length = vs.length ∧ SL K H ((ds.map D.p).zip vs ++ (slots Γ σ ++ X)) ∧ t ds Γ = some Γ' ∧ ∀ σ' H', Agree ro σ σ' → Fits Γ' σ' → SL K H' (slots Γ' σ' ++ X) → Q σ' H'
def gnm (i : Nat) : MG := fun d Γ => if i < Γ.length then some (Γ.set i (some d)) else none
def gtup (n : Nat) (t : List PyData → Nv → Option Nv) : MG := fun d Γ => match fz d with
  | some (.tuple ds) => if ds.length = n then t ds Γ else none
  | _ => none
def gnil : List PyData → Nv → Option Nv := fun ds Γ => match ds with | [] => some Γ | _ => none
def gcons (t : MG) (u : List PyData → Nv → Option Nv) : List PyData → Nv → Option Nv := fun ds Γ => match ds with | d :: ds => (t (.p d) Γ).bind (u ds) | [] => none
section
variable {C : Cx} {ro : Nat → Prop} {tg : Expr} {i : Nat} {t : MG}
theorem _root_.L2.PG.gimp {t t' : TG} (h : PG C tg t) (i : ∀ v σ H Q, t' v σ H Q → t v σ H Q) : PG C tg t' := ⟨fun pins s σ H v u Q I r q => h.run pins s σ H v u Q I r (i _ _ _ _ q)⟩
theorem _root_.L2.PGs.gimp {es : List Expr} {t t' : TGs} (h : PGs C es t) (i : ∀ v σ H Q, t' v σ H Q → t v σ H Q) : PGs C es t' := ⟨fun pins s σ H v u Q I r q => h.run pins s σ H v u Q I r (i _ _ _ _ q)⟩
theorem eg_name (h : PG C tg (gName i)) (hi : ¬ ro i) : PG C tg (okG C.K ro (gnm i)) := h.gimp fun v σ H Q ⟨Γ, X, d, Γ', F, S, e, k⟩ => by
  unfold gnm at e
  split at e
  · rename_i hl
    cases e
    exact k _ H (Agree.set hi) F.store (S.store F hl)
  · cases e
theorem egs_nil : PGs C [] (okGs C.K ro gnil) := pgs_nil.gimp fun v σ H Q ⟨Γ, X, ds, Γ', F, hl, S, e, k⟩ => by
  unfold gnil at e
  split at e
  · cases e
    cases v with
    | nil => exact ⟨rfl, k _ H .refl F S⟩
    | cons _ _ => cases hl
  · cases e
theorem egs_cons {es : List Expr} {u : List PyData → Nv → Option Nv} (h1 : PG C tg (okG C.K ro t)) (h2 : PGs C es (okGs C.K ro u)) (hs : (assignEach (tg :: es) C.env).map (·.2) = assign tg C.env :: (assignEach es C.env).map (·.2) := by rfl) : PGs C (tg :: es) (okGs C.K ro (gcons t u)) :=
  (pgs_cons h1 h2 hs).gimp fun vs σ H Q ⟨Γ, X, ds, Γ', F, hl, S, e, k⟩ => by
    cases ds with
    | nil => cases e
    | cons d ds =>
      obtain ⟨Γ1, e1, e2⟩ := bindS (show (t (.p d) Γ).bind (u ds) = some Γ' from e)
      cases vs with
      | nil => cases hl
      | cons v vs =>
        refine ⟨v, vs, rfl, Γ, (ds.map D.p).zip vs ++ X, .p d, Γ1, F, S.perm (List.Perm.cons _ ?_), e1, fun σ1 H1 a1 F1 S1 => ⟨Γ1, X, ds, Γ', F1, Nat.succ.inj hl, S1.perm ?_, e2, fun σ' H' a F' S' => k σ' H' (a1.trans a) F' S'⟩⟩
        · exact swap3 _ _ _
        · exact swap3 _ _ _
theorem dpAll_zip {K : PySem.W.Frag} {F H : Hp} : ∀ {xs : List V} {ds : List PyData}, DqAll K F xs ds → RepX K F H ((ds.map D.p).zip xs) [] ∧ ds.length = xs.length
  | _, _, .nil => ⟨.nil, rfl⟩
  | _, _, .cons h g => ⟨.cons (fp := []) (.p h) (dpAll_zip (H := H) g).1, congrArg (· + 1) (dpAll_zip (H := H) g).2⟩
/-- the items of a frozen tuple, list -/
theorem SL.items {K : PySem.W.Frag} {H : Hp} {v : V} {ds : List PyData} {L : List (D × V)} (h : SL K H ((.p (.tuple ds), v) :: L)) : ∃ a xs, v = .ref a ∧ SqT K H a xs ∧ ds.length = xs.length ∧ SL K H ((ds.map D.p).zip xs ++ (.p (.tuple ds), v) :: L) := by
  obtain ⟨F, fp, e1, r, nd, f⟩ := h
  cases r with
  | cons h g =>
    cases h with
    | p h =>
      cases h with
      | @tup a xs _ hq ha =>
        obtain ⟨z, hl⟩ := dpAll_zip (H := H) ha
        exact ⟨a, xs, rfl, Same.seqT e1 hq, hl, F, _, e1, z.app (.cons (fp := []) (.p (.tup hq ha)) g), nd, f⟩
theorem SL.itemsL {K : PySem.W.Frag} {H : Hp} {v : V} {ds : List PyData} {L : List (D × V)} (h : SL K H ((.p (.list ds), v) :: L)) : ∃ a xs, v = .ref a ∧ SqL K H a xs ∧ ds.length = xs.length ∧ SL K H ((ds.map D.p).zip xs ++ (.p (.list ds), v) :: L) := by
  obtain ⟨F, fp, e1, r, nd, f⟩ := h
  cases r with
  | cons h g =>
    cases h with
    | p h =>
      cases h with
      | @lst a xs _ hq ha =>
        obtain ⟨z, hl⟩ := dpAll_zip (H := H) ha
        exact ⟨a, xs, rfl, Same.seqL e1 hq, hl, F, _, e1, z.app (.cons (fp := []) (.p (.lst hq ha)) g), nd, f⟩
theorem eg_tup {es : List Expr} {k n : Nat} {pos : Pos} {u : List PyData → Nv → Option Nv} (hc : C.calm = true) (h : PGs C es (okGs C.K ro u)) (hn : (assignEach es C.env).length = n := by rfl) (hst : (assignEach es C.env).findIdx? (·.1) = none := by rfl) : PG C (.Tuple es k pos) (okG C.K ro (gtup n u)) :=
  (pg_tup hc h hn hst).gimp fun v σ H Q ⟨Γ, X, d, Γ', F, S, e, k⟩ => by
    unfold gtup at e
    split at e
    · rename_i ds ed
      split at e
      · rename_i hl
        obtain ⟨a, xs, rfl, hq, hx, S1⟩ := (S.frz ed).items
        exact ⟨a, xs, rfl, hq, by rw [← hx]; exact hl, Γ, X, ds, Γ', F, hx, (S1.perm List.perm_middle).drop, e, k⟩
      · cases e
    · cases e
end
/-! ### statements -/
def asgS (f : M) (t : MG) : MS := fun Γ => (f Γ).bind fun r => (t r.1 r.2).map .nx
def parS (i j : Nat) (fa : MA) : MS := fun Γ => (fa Γ).bind fun r => match r.1 with
  | [d, e] => if i < r.2.length ∧ j < r.2.length then some (.nx ((r.2.set i (some d)).set j (some e))) else none
  | _ => none
def retS (f : M) : MS := fun Γ => (f Γ).map fun r => .rt r.1 r.2
def retN : MS := fun Γ => some (.rt (.p .none) Γ)
def dropS (f : M) : MS := fun Γ => (f Γ).map fun r => .nx r.2
def ifS (c : MT) (g h : MS) : MS := fun Γ => (c Γ).bind fun r => if r.1 = true then g r.2 else h r.2
def seqS (g h : MS) : MS := fun Γ => (g Γ).bind fun r => match r with
  | .nx Γ' => h Γ'
  | r => some r
def nxS : MS := fun Γ => some (.nx Γ)
def bkS : MS := fun Γ => some (.bk Γ)
def ctS : MS := fun Γ => some (.ct Γ)
def noS : MS := fun _ => none
section
variable {C : Cx} {ro : Nat → Prop} {K : PySem.W.Frag}
theorem okEnd.agree {σ σ' : St} {X : List (D × V)} {D : Ends} {o : Out} (a : Agree ro σ σ') (h : okEnd K ro σ X D o) : okEnd K ro σ' X D o := by
  cases o with
  | nx Γ' => exact fun H2 σ2 b => h H2 σ2 (a.trans b)
  | bk Γ' => exact fun H2 σ2 b => h H2 σ2 (a.trans b)
  | ct Γ' => exact fun H2 σ2 b => h H2 σ2 (a.trans b)
  | rt d Γ' => exact fun H2 σ2 v b => h H2 σ2 v (a.trans b)
variable {st : Stmt} {sts : List Stmt} {f : M} {g h : MS} {t : MG} {pos : Pos} {e tg : Expr} {ct : MT}
theorem es_asg (h : PS C st (tAsg (okE C.K f) (okG C.K ro t))) : PS C st (okS C.K ro (asgS f t)) := h.gimp fun D σ H ⟨Γ, X, out, F, S, e, k⟩ => by
  obtain ⟨⟨d, Γ1⟩, e1, e⟩ := bindS e
  obtain ⟨Γ2, e2, e⟩ := mapS e
  cases e
  exact ⟨Γ, X, d, Γ1, F, S, e1, fun H1 v F1 S1 => ⟨Γ1, X, d, Γ2, F1, S1, e2, fun σ2 H2 a F2 S2 => k H2 σ2 a F2 S2⟩⟩
/-- x = e -/
theorem es_set {i : Nat} (h : PS C st (tAsg (okE C.K f) (gName i))) (hi : ¬ ro i) : PS C st (okS C.K ro (asgS f (gnm i))) := h.gimp fun D σ H ⟨Γ, X, out, F, S, e, k⟩ => by
  obtain ⟨⟨d, Γ1⟩, e1, e⟩ := bindS e
  obtain ⟨Γ2, e2, e⟩ := mapS e
  cases e
  refine ⟨Γ, X, d, Γ1, F, S, e1, fun H1 v F1 S1 => ?_⟩
  unfold gnm at e2
  split at e2
  · rename_i hl
    cases e2
    exact k H1 _ (Agree.set hi) F1.store (S1.store F1 hl)
  · cases e2
theorem es_par {i j : Nat} {fa : MA} {ls : List (Option Nat)} (h : PS C st (tPar i j (okA C.K ls fa))) (hi : ¬ ro i) (hj : ¬ ro j) : PS C st (okS C.K ro (parS i j fa)) := h.gimp fun D σ H ⟨Γ, X, out, F, S, e, k⟩ => by
  obtain ⟨⟨ds, Γ1⟩, e1, e⟩ := bindS e
  refine ⟨Γ, X, ds, Γ1, F, S, e1, fun H1 vs F1 hl _ S1 => ?_⟩
  dsimp only at e
  split at e
  · rename_i d d'
    split at e
    · rename_i hij
      cases e
      match vs, hl, S1 with
      | [v, w], _, S1 =>
        refine ⟨v, w, rfl, ?_⟩
        have S2 : SL C.K H1 ((d, v) :: (slots Γ1 σ ++ ((d', w) :: X))) := S1.perm (List.Perm.cons (d, v) (show ((d', w) :: (slots Γ1 σ ++ X)).Perm (slots Γ1 σ ++ (d', w) :: X) from List.perm_middle.symm))
        have S3 := S2.store F1 hij.1
        have F3 : Fits (Γ1.set i (some d)) (σ.set i (some v)) := F1.store
        have S4 := SL.store (i := j) (S3.perm List.perm_middle) F3 (by rw [List.length_set]; exact hij.2)
        exact k H1 _ ((Agree.set hi).trans (Agree.set hj)) F3.store S4
    · cases e
  · cases e
theorem es_ret (he : PE C e (okE C.K f)) : PS C (.Return (some e) pos) (okS C.K ro (retS f)) := (ps_ret he).gimp fun D σ H ⟨Γ, X, out, F, S, e, k⟩ => by
  obtain ⟨⟨d, Γ1⟩, e1, e⟩ := mapS e
  cases e
  exact ⟨Γ, X, d, Γ1, F, S, e1, fun H1 v F1 S1 => k H1 σ v .refl F1 S1⟩
theorem es_retN : PS C (.Return none pos) (okS C.K ro retN) := ps_retN.gimp fun D σ H ⟨Γ, X, out, F, S, e, k⟩ => by
  cases e
  exact k H σ .non .refl F (S.flat fun _ => .non)
theorem es_expr (he : PE C e (okE C.K f)) (hs : swapsWith e none pos.line C.env = pure false := by rfl) : PS C (.Expr e pos) (okS C.K ro (dropS f)) := (ps_expr he hs).gimp fun D σ H ⟨Γ, X, out, F, S, e, k⟩ => by
  obtain ⟨⟨d, Γ1⟩, e1, e⟩ := mapS e
  cases e
  exact ⟨Γ, X, d, Γ1, F, S, e1, fun H1 v F1 S1 => k H1 σ .refl F1 S1.drop⟩
theorem es_pass : PS C (.Pass pos) (okS C.K ro nxS) := ps_pass.gimp fun D σ H ⟨Γ, X, out, F, S, e, k⟩ => by
  cases e
  exact k H σ .refl F S
theorem es_break : PS C (.Break pos) (okS C.K ro bkS) := ps_break.gimp fun D σ H ⟨Γ, X, out, F, S, e, k⟩ => by
  cases e
  exact k H σ .refl F S
theorem es_cont : PS C (.Continue pos) (okS C.K ro ctS) := ps_continue.gimp fun D σ H ⟨Γ, X, out, F, S, e, k⟩ => by
  cases e
  exact k H σ .refl F S
theorem es_never : PS C st (okS C.K ro noS) := ps_never.gimp fun D σ H ⟨Γ, X, out, F, S, e, k⟩ => nomatch e
theorem ess_nil : PSs C [] (okS C.K ro nxS) := pss_nil.gimp fun D σ H ⟨Γ, X, out, F, S, e, k⟩ => by
  cases e
  exact k H σ .refl F S
theorem ess_one (h : PS C st (okS C.K ro g)) : PSs C [st] (okS C.K ro g) := pss_one h
theorem ess_cons (h1 : PS C st (okS C.K ro g)) (h2 : PSs C sts (okS C.K ro h)) : PSs C (st :: sts) (okS C.K ro (seqS g h)) := (pss_cons h1 h2).gimp fun D σ H ⟨Γ, X, out, F, S, e, k⟩ => by
  obtain ⟨r, e1, e⟩ := bindS e
  refine ⟨Γ, X, r, F, S, e1, ?_⟩
  cases r with
  | nx Γ1 => exact fun H1 σ1 a F1 S1 => ⟨Γ1, X, out, F1, S1, e, k.agree a⟩
  | bk Γ1 =>
    cases e
    exact k
  | ct Γ1 =>
    cases e
    exact k
  | rt d Γ1 =>
    cases e
    exact k
theorem es_if {c : Expr} {a b : List Stmt} (hc : PT C c (okT C.K ct)) (ha : PSs C a (okS C.K ro g)) (hb : PSs C b (okS C.K ro h)) : PS C (.If c a b pos) (okS C.K ro (ifS ct g h)) := (ps_if hc ha hb).gimp fun D σ H ⟨Γ, X, out, F, S, e, k⟩ => by
  obtain ⟨⟨x, Γ1⟩, e1, e⟩ := bindS e
  refine ⟨Γ, X, x, Γ1, F, S, e1, fun H1 F1 S1 => ?_⟩
  cases x with
  | true => exact ⟨Γ1, X, out, F1, S1, e, k⟩
  | false => exact ⟨Γ1, X, out, F1, S1, e, k⟩
end
/-! ### loops -/
/-- an iterator that serves items; what it stands on is held in E -/
structure Srv (K : PySem.W.Frag) (J : It) (E : List (D × V)) (ds : List PyData) : Prop where
  go : ∀ i H L, SL K H (E ++ L) → i < ds.length → J.go i H
  yld : ∀ i H L x H', SL K H (E ++ L) → J.yld i H x H' → ∀ d, ds[i]? = some d → SL K H' ((.p d, x) :: (E ++ L))
  stop : ∀ H L, SL K H (E ++ L) → J.stop ds.length H
abbrev MI := Nv → Option (List PyData × Nv)
def okI (K : PySem.W.Frag) (f : MI) : TI := fun σ H R => ∃ Γ X ds Γ', Fits Γ σ ∧ SL K H (slots Γ σ ++ X) ∧ f Γ = some (ds, Γ') ∧ ∀ H' J E, Fits Γ' σ → Srv K J E ds → SL K H' (E ++ (slots Γ' σ ++ X)) → R J H'
def loopF (t : MG) (b : MS) : List PyData → Nv → Option Out
  | [], Γ => some (.nx Γ)
  | d :: ds, Γ => (t (.p d) Γ).bind fun Γ1 => (b Γ1).bind fun r => match r with
    | .nx Γ2 => loopF t b ds Γ2
    | .ct Γ2 => loopF t b ds Γ2
    | .bk Γ2 => some (.nx Γ2)
    | .rt d Γ2 => some (.rt d Γ2)
def forS (it : MI) (t : MG) (b : MS) : MS := fun Γ => (it Γ).bind fun r => loopF t b r.1 r.2
section
variable {C : Cx} {ro : Nat → Prop} {tg iter : Expr} {t : MG} {b : MS} {it : MI} {pos : Pos} {body : List Stmt}
theorem es_for (hp : PassesOwn (model C.prog C.w) C.A C.env C.xe) (hc : C.calm = true) (hi : PI C tg iter (okI C.K it)) (hg : PG C tg (okG C.K ro t)) (hb : PSs C body (okS C.K ro b))
    (hs : ∀ x, foldedSetIterable iter C.env x = pure x := by intro _; rfl) : PS C (.For tg iter body [] pos) (okS C.K ro (forS it t b)) := (ps_for hp hc hi hg hb hs).gimp fun D σ H ⟨Γ, X, out, F, S, e, k⟩ => by
  obtain ⟨⟨ds, Γ1⟩, e1, e⟩ := bindS e
  refine ⟨Γ, X, ds, Γ1, F, S, e1, fun H1 J E F1 sv S1 => ?_⟩
  refine ⟨fun i m σ' H' => i ≤ ds.length ∧ m = ds.length - i ∧ ∃ Γ', Agree ro σ σ' ∧ Fits Γ' σ' ∧ SL C.K H' (E ++ (slots Γ' σ' ++ X)) ∧ loopF t b (ds.drop i) Γ' = some out, ⟨ds.length, Nat.zero_le _, rfl, Γ1, .refl, F1, S1, by rw [List.drop_zero]; exact e⟩, ?_⟩
  rintro i m σ' H' ⟨hi, rfl, Γ', a, F', S', e'⟩
  by_cases hlt : i < ds.length
  · refine .inr ⟨sv.go i H' _ S' hlt, ?_⟩
    have ed : ds.drop i = ds[i] :: ds.drop (i + 1) := List.drop_eq_getElem_cons hlt
    rw [ed] at e'
    obtain ⟨Γ2, e2, e'⟩ := bindS (show (t (.p ds[i]) Γ').bind _ = some out from e')
    obtain ⟨r, e3, e'⟩ := bindS e'
    refine ⟨fun σ2 H2 => ∃ m', m' < ds.length - i ∧ i + 1 ≤ ds.length ∧ m' = ds.length - (i + 1) ∧ ∃ Γ', Agree ro σ σ2 ∧ Fits Γ' σ2 ∧ SL C.K H2 (E ++ (slots Γ' σ2 ++ X)) ∧ loopF t b (ds.drop (i + 1)) Γ' = some out, fun σ2 H2 h => h, fun x H2 y => ?_⟩
    have S2 := sv.yld i H' _ x H2 S' y ds[i] (List.getElem?_eq_getElem hlt)
    refine ⟨Γ', E ++ X, .p ds[i], Γ2, F', S2.perm (List.Perm.cons _ ?_), e2, fun σ3 H3 a3 F3 S3 => ⟨Γ2, E ++ X, r, F3, S3, e3, ?_⟩⟩
    · rw [← List.append_assoc, ← List.append_assoc]
      exact List.perm_append_comm.append_right X
    have back : ∀ {L : List (GH.D × V)}, (L ++ (E ++ X)).Perm (E ++ (L ++ X)) := by
      intro L
      rw [← List.append_assoc, ← List.append_assoc]
      exact List.perm_append_comm.append_right X
    cases r with
    | nx Γ4 => exact fun H4 σ4 a4 F4 S4 => ⟨_, by omega, by omega, rfl, Γ4, (a.trans a3).trans a4, F4, S4.perm back, e'⟩
    | ct Γ4 => exact fun H4 σ4 a4 F4 S4 => ⟨_, by omega, by omega, rfl, Γ4, (a.trans a3).trans a4, F4, S4.perm back, e'⟩
    | bk Γ4 =>
      cases e'
      exact fun H4 σ4 a4 F4 S4 => k H4 σ4 ((a.trans a3).trans a4) F4 (SL.dropA (S4.perm back))
    | rt d Γ4 =>
      cases e'
      exact fun H4 σ4 v a4 F4 S4 => k H4 σ4 v ((a.trans a3).trans a4) F4 (SL.dropA (A := E) (S4.perm ((List.Perm.cons _ back).trans List.perm_middle.symm)))
  · refine .inl ⟨?_, ?_⟩
    · have : i = ds.length := by omega
      subst this
      exact sv.stop H' _ S'
    · rw [List.drop_of_length_le (by omega)] at e'
      cases e'
      exact k H' σ' a F' S'.dropA
def whileF (c : MT) (b : MS) : Nat → Nv → Option Out
  | 0, _ => none
  | n + 1, Γ => (c Γ).bind fun r => if r.1 = true then (b r.2).bind fun o => match o with
      | .nx Γ2 => whileF c b n Γ2
      | .ct Γ2 => whileF c b n Γ2
      | .bk Γ2 => some (.nx Γ2)
      | .rt d Γ2 => some (.rt d Γ2)
    else some (.nx r.2)
/-- the number of turns is told by m -/
def whileS (m : Nv → Nat) (c : MT) (b : MS) : MS := fun Γ => whileF c b (m Γ) Γ
theorem es_while {m : Nv → Nat} {c : Expr} {ct : MT} (hp : PassesOwn (model C.prog C.w) C.A C.env C.xe) (hc : PT C c (okT C.K ct)) (hb : PSs C body (okS C.K ro b)) : PS C (.While c body [] pos) (okS C.K ro (whileS m ct b)) := (ps_while hp hc hb).gimp fun D σ H ⟨Γ, X, out, F, S, e, k⟩ => by
  refine ⟨fun n σ' H' => ∃ Γ', Agree ro σ σ' ∧ Fits Γ' σ' ∧ SL C.K H' (slots Γ' σ' ++ X) ∧ whileF ct b n Γ' = some out, ⟨m Γ, Γ, .refl, F, S, e⟩, ?_⟩
  rintro n σ' H' ⟨Γ', a, F', S', e'⟩
  cases n with
  | zero => cases e'
  | succ n =>
    obtain ⟨⟨x, Γ1⟩, e1, e'⟩ := bindS e'
    refine ⟨Γ', X, x, Γ1, F', S', e1, fun H1 F1 S1 => ?_⟩
    cases x with
    | true =>
      rw [if_pos rfl]
      obtain ⟨o, e2, e'⟩ := bindS e'
      refine ⟨fun σ2 H2 => ∃ m', m' < n + 1 ∧ ∃ Γ', Agree ro σ σ2 ∧ Fits Γ' σ2 ∧ SL C.K H2 (slots Γ' σ2 ++ X) ∧ whileF ct b m' Γ' = some out, fun σ2 H2 h => h, Γ1, X, o, F1, S1, e2, ?_⟩
      cases o with
      | nx Γ4 => exact fun H4 σ4 a4 F4 S4 => ⟨n, Nat.lt_succ_self _, Γ4, a.trans a4, F4, S4, e'⟩
      | ct Γ4 => exact fun H4 σ4 a4 F4 S4 => ⟨n, Nat.lt_succ_self _, Γ4, a.trans a4, F4, S4, e'⟩
      | bk Γ4 =>
        cases e'
        exact fun H4 σ4 a4 F4 S4 => k H4 σ4 (a.trans a4) F4 S4
      | rt d Γ4 =>
        cases e'
        exact fun H4 σ4 v a4 F4 S4 => k H4 σ4 v (a.trans a4) F4 S4
    | false =>
      rw [if_neg Bool.false_ne_true]
      cases e'
      exact k H1 σ' a F1 S1
end
/-! ### defs -/
abbrev Fn := List D → Option (D × List (Option D))
def okFn (K : PySem.W.Frag) (sem : Fn) : Sp := fun vs H Q _ => ∃ ds X d outs, ds.length = vs.length ∧ SL K H (ds.zip vs ++ X) ∧ sem ds = some (d, outs) ∧ ∀ H' v, SL K H' ((d, v) :: (slots outs (vs.map some) ++ X)) → Q v H'
def outsOf (m : Nat) (ro : List Nat) (Γ : Nv) : List (Option D) := (List.range m).map fun i => if i ∈ ro then (Γ[i]?).join else none
/-- n slots, m of them parameters -/
def runF (n m : Nat) (ro : List Nat) (g : MS) : Fn := fun ds => if ds.length = m then (g (ds.map some ++ List.replicate (n - m) none)).bind fun r => match r with
    | .nx Γ => some (.p .none, outsOf m ro Γ)
    | .rt d Γ => some (d, outsOf m ro Γ)
    | _ => none
  else none
theorem sub_slots : ∀ {outs Γ : Nv} {τ σ : St}, (∀ (i : Nat) d, outs[i]? = some (some d) → Γ[i]? = some (some d) ∧ σ[i]? = τ[i]?) → (slots outs τ).Sublist (slots Γ σ)
  | [], _, _, _, _ => by
    show ([] : List (D × V)).Sublist _
    exact List.nil_sublist _
  | _ :: _, _, [], _, _ => List.nil_sublist _
  | o :: outs, [], u :: τ, σ, h => by
    have ih := sub_slots (outs := outs) (Γ := []) (τ := τ) (σ := []) fun i d hi => by
      have := (h (i + 1) d (by simpa using hi)).1
      simp at this
    cases o with
    | none => exact ih
    | some d =>
      have := (h 0 d rfl).1
      simp at this
  | o :: outs, g :: Γ, u :: τ, [], h => by
    have ih := sub_slots (outs := outs) (Γ := Γ) (τ := τ) (σ := []) fun i d hi => by
      have := h (i + 1) d (by simpa using hi)
      simpa using this
    cases o with
    | none =>
      have q : (slots outs τ).Sublist (slots Γ []) := ih
      cases Γ with
      | nil => exact q
      | cons _ _ => exact q
    | some d =>
      have := (h 0 d rfl).2
      simp at this
  | o :: outs, g :: Γ, u :: τ, w :: σ, h => by
    have ih := sub_slots (outs := outs) (Γ := Γ) (τ := τ) (σ := σ) fun i d hi => by
      have := h (i + 1) d (by simpa using hi)
      simpa using this
    cases o with
    | none =>
      cases u <;> exact List.Sublist.trans ih (List.sublist_append_right _ _)
    | some d =>
      have e := h 0 d rfl
      simp at e
      obtain ⟨rfl, rfl⟩ := e
      exact List.Sublist.append (List.Sublist.refl _) ih
theorem slots_start : ∀ {ds : List D} {vs : List V} {k : Nat}, ds.length = vs.length → slots (ds.map some ++ List.replicate k none) (vs.map some ++ List.replicate k none) = ds.zip vs
  | [], [], 0, _ => rfl
  | [], [], k + 1, _ => slots_start (ds := []) (vs := []) (k := k) rfl
  | d :: ds, v :: vs, k, h => by
    show (d, v) :: slots (ds.map some ++ List.replicate k none) (vs.map some ++ List.replicate k none) = _
    rw [slots_start (Nat.succ.inj h)]
    rfl
theorem fits_start {ds : List D} {vs : List V} {k : Nat} (h : ds.length = vs.length) : Fits (ds.map some ++ List.replicate k none) (vs.map some ++ List.replicate k none) := ⟨by simp [h], fun i d e => by
  by_cases hi : i < ds.length
  · have hv : i < vs.length := by omega
    exact ⟨vs[i], by rw [List.getElem?_append_left (by simpa using hv), List.getElem?_map, List.getElem?_eq_getElem hv]; rfl⟩
  · rw [List.getElem?_append_right (by simpa using Nat.le_of_not_lt hi), List.getElem?_replicate] at e
    split at e <;> cases e⟩
section
variable {P : Program} {w : World} {K : PySem.W.Frag} {mg : Str → Option Value} {base : Heap}
theorem outs_get {m : Nat} {ro : List Nat} {Γ : Nv} {i : Nat} {d : D} (h : (outsOf m ro Γ)[i]? = some (some d)) : i < m ∧ i ∈ ro ∧ Γ[i]? = some (some d) := by
  unfold outsOf at h
  rw [List.getElem?_map] at h
  by_cases hi : i < m
  · rw [List.getElem?_range hi] at h
    simp only [Option.map_some, Option.some.injEq] at h
    split at h
    · rename_i hr
      refine ⟨hi, hr, ?_⟩
      cases e : Γ[i]? with
      | none => rw [e] at h; cases h
      | some o => rw [e] at h; exact congrArg some h
    · cases h
  · rw [List.getElem?_eq_none (by simpa using Nat.le_of_not_lt hi)] at h
    cases h
/-- a def's body keeps the promise -/
theorem okF {x qual : Str} {st : Stmt} {f : Addr} {fd : FuncData} {N ps : List Str} {k m : Nat} {ro : List Nat} {g : MS} (F : Fun K x qual st f fd) (S : FnScope N ps (defScope st)) (hm : ps.length = m)
    (hbody : ∀ (cdv : Value) (A : Around) (outer : List PySem.Env) (s : Shared) (H : Hp) (E : XK), Room k (A.deeper (PyProof.Rows.envOfC qual (defScope st) s.heap.objs.size f cdv)) → PSs (cxOf CX0 P w K mg base N qual (defScope st) f cdv A outer s H E).nox (defBody st) (okS K (· ∈ ro) g)) :
    FnOk P w K mg base CX0 (k + 1) f fd ps (okFn K (runF N.length m ro g)) := by
  refine F.ok S (fun vs H Q E h => ?_) fun cdv A outer s H vs Q E hr h => ⟨_, hbody cdv A outer s H E hr, ?_⟩
  · obtain ⟨ds, X, d, outs, hl, S1, e, k⟩ := h
    unfold runF at e
    split at e
    · rename_i h1
      rw [← hl, h1, hm]
    · cases e
  · obtain ⟨ds, X, d, outs, hl, S1, e, k⟩ := h
    unfold runF at e
    split at e
    · rename_i h1
      obtain ⟨r, e1, e⟩ := bindS e
      have est : L2.start N vs = vs.map some ++ List.replicate (N.length - m) none := by
        unfold L2.start
        rw [← hl, h1]
      rw [est]
      have fin : ∀ (Γ : Nv) (σ' : St), Agree (· ∈ ro) (vs.map some ++ List.replicate (N.length - m) none) σ' → (slots (outsOf m ro Γ) (vs.map some)).Sublist (slots Γ σ') := fun Γ σ' a => sub_slots fun i d hi => by
        obtain ⟨h2, h3, h4⟩ := outs_get hi
        refine ⟨h4, (a.2 i h3).trans ?_⟩
        rw [List.getElem?_append_left (by rw [List.length_map, ← hl, h1]; exact h2)]
      refine ⟨_, X, r, fits_start hl, by rw [slots_start hl]; exact S1, e1, ?_⟩
      cases r with
      | nx Γ =>
        cases e
        exact fun H' σ' a F' S' => k H' .non ((S'.sub ((fin Γ σ' a).append_right X)).flat fun _ => .non)
      | rt d Γ =>
        cases e
        exact fun H' σ' v a F' S' => k H' v (S'.sub (((fin Γ σ' a).append_right X).cons_cons _))
      | bk Γ => cases e
      | ct Γ => cases e
    · cases e
end
/-! ### calls -/
def rst : List (Option Nat) → List (Option D) → Nv → Nv
  | some i :: ls, o :: os, Γ => rst ls os (match Γ[i]?, o with
    | some none, some d => Γ.set i (some d)
    | _, _ => Γ)
  | none :: ls, _ :: os, Γ => rst ls os Γ
  | _, _, Γ => Γ
def callM (sem : Fn) (ls : List (Option Nat)) (fa : MA) : M := fun Γ => (fa Γ).bind fun r => (sem r.1).bind fun s => some (s.1, rst ls s.2 r.2)
theorem rst_run {K : PySem.W.Frag} {H : Hp} {σ : St} : ∀ {ls : List (Option Nat)} {outs : List (Option D)} {vs : List V} {Γ : Nv} {X : List (D × V)}, Lent σ ls vs → Fits Γ σ → SL K H (slots outs (vs.map some) ++ (slots Γ σ ++ X)) → Fits (rst ls outs Γ) σ ∧ SL K H (slots (rst ls outs Γ) σ ++ X)
  | [], outs, vs, Γ, X, _, F, S => ⟨F, by
      have : rst [] outs Γ = Γ := by cases outs <;> rfl
      rw [this]; exact S.dropA⟩
  | none :: ls, [], vs, Γ, X, _, F, S => ⟨F, S.dropA⟩
  | some i :: ls, [], vs, Γ, X, _, F, S => ⟨F, S.dropA⟩
  | none :: ls, o :: outs, [], Γ, X, hL, F, S => hL.elim
  | some i :: ls, o :: outs, [], Γ, X, hL, F, S => hL.elim
  | none :: ls, o :: outs, v :: vs, Γ, X, hL, F, S => rst_run (ls := ls) (outs := outs) (vs := vs) hL F (by
      have S' : SL K H (one o (some v) ++ (slots outs (vs.map some) ++ (slots Γ σ ++ X))) := by rw [← List.append_assoc]; exact S
      exact S'.dropA)
  | some i :: ls, o :: outs, v :: vs, Γ, X, hL, F, S => by
    have S' : SL K H (one o (some v) ++ (slots outs (vs.map some) ++ (slots Γ σ ++ X))) := by rw [← List.append_assoc]; exact S
    cases o with
    | none =>
      have e : rst (some i :: ls) (none :: outs) Γ = rst ls outs Γ := by
        show rst ls outs (match Γ[i]?, (none : Option D) with | some none, some d => Γ.set i (some d) | _, _ => Γ) = _
        split <;> first | rfl | (rename_i h; cases h)
      rw [e]
      exact rst_run hL.2 F S'.dropA
    | some d =>
      by_cases h : Γ[i]? = some none
      · have e : rst (some i :: ls) (some d :: outs) Γ = rst ls outs (Γ.set i (some d)) := by
          show rst ls outs (match Γ[i]?, (some d : Option D) with | some none, some d => Γ.set i (some d) | _, _ => Γ) = _
          rw [h]
        rw [e]
        refine rst_run hL.2 (F.put hL.1) ?_
        have S2 : SL K H ((d, v) :: (slots Γ σ ++ (slots outs (vs.map some) ++ X))) := S'.perm (List.Perm.cons _ (by
          rw [← List.append_assoc, ← List.append_assoc]
          exact List.perm_append_comm.append_right X))
        refine (S2.back h hL.1).perm ?_
        rw [← List.append_assoc, ← List.append_assoc]
        exact List.perm_append_comm.append_right X
      · have e : rst (some i :: ls) (some d :: outs) Γ = rst ls outs Γ := by
          show rst ls outs (match Γ[i]?, (some d : Option D) with | some none, some d => Γ.set i (some d) | _, _ => Γ) = _
          split
          · rename_i h1 _
            exact absurd h1 h
          · rfl
        rw [e]
        exact rst_run hL.2 F S'.dropA
section
variable {C : Cx} {CX : CXT} {k : Nat} {f : Addr} {fd : FuncData} {ps : List Str} {sem : Fn} {ls : List (Option Nat)} {fa : MA} {x : Str} {p pos : Pos} {e : Expr} {es : List Expr}
theorem ee_call (F : FnOk C.prog C.w C.K C.mg C.base CX0 k f fd ps (okFn C.K sem)) (hr : Room k C.A) (hg : Gl C x) (hm : C.mg x = some (.ref f)) (hk : PySem.W.keepIn C.K (.ref f) = true) (hb : Binds C.K fd ps [])
    (ha : PA C (e :: es) (okA C.K ls fa)) (hdb : (x == ("__debug__" : Str)) = false := by decide) (he : starEach (e :: es) C.env = (false, eval e C.env) :: starEach es C.env := by rfl) (hpl : (backTo pos (starEach es C.env)).any (·.1) = false := by rfl) :
    PE C (.Call (.Name x p) (e :: es) [] pos) (okE C.K (callM sem ls fa)) := (pe_call F hr hg hm hk hb .nil pass0 ha hdb he hpl).gimp fun σ H Q ⟨Γ, X, d, Γ', F, S, e, k⟩ => by
  obtain ⟨⟨ds, Γ1⟩, e1, e⟩ := bindS e
  obtain ⟨⟨d1, outs⟩, e2, e⟩ := bindS e
  cases e
  refine ⟨Γ, X, ds, Γ1, F, S, e1, fun H1 vs F1 hl hL S1 => ?_⟩
  show okFn C.K sem (vs ++ []) H1 Q E0
  rw [List.append_nil]
  refine ⟨ds, _, _, outs, hl, S1, e2, fun H2 v S2 => ?_⟩
  obtain ⟨F3, S3⟩ := rst_run (X := (_, v) :: X) hL F1 (S2.perm (by
    rw [← List.append_assoc, ← List.append_assoc]
    exact List.perm_middle.symm))
  exact k H2 v F3 (S3.perm List.perm_middle)
end
end GH
namespace GH
open PySem L2
/-! ### defs that are called where no guard is held -/
section
variable {P : Program} {w : World} {K : PySem.W.Frag} {mg : Str → Option Value} {base : Heap} {CX : CXT}
structure FnG (P : Program) (w : World) (K : PySem.W.Frag) (mg : Str → Option Value) (base : Heap) (CX : CXT) (k : Nat) (f : Addr)
    (fd : FuncData) (ps : List Str) (sp : Sp) : Prop where
  many : ∀ vs H Q E, sp vs H Q E → vs.length = ps.length
  go : ∀ (A : Around) (outer : List PySem.Env) (s : Shared) (H : Hp) (args : Args) (us : List Value) (vs : List V) (Q : VK) (E : XK),
    A.guards = some [] → Room k A → Env0 P w K mg base A outer s H → BindsTo s fd args (ps.zip us) → Vals vs us → sp vs H Q E →
    codeAny (model P w) A (.call (.ref f) args) (CR CX outer P w H s Q E) s
theorem FnG.up {j k : Nat} {f : Addr} {fd : FuncData} {ps : List Str} {sp : Sp} (F : FnG P w K mg base CX j f fd ps sp) (h : j ≤ k) : FnG P w K mg base CX k f fd ps sp :=
  ⟨F.many, fun A o s H ar us vs Q E g r => F.go A o s H ar us vs Q E g (r.mono h)⟩
theorem defG {x qual : Str} {st : Stmt} {f : Addr} {fd : FuncData} {N ps : List Str} {k : Nat} {sp : Sp} (F : Fun K x qual st f fd) (S : FnScope N ps (defScope st))
    (many : ∀ vs H Q E, sp vs H Q E → vs.length = ps.length)
    (hb : ∀ (cdv : Value) (A : Around) (outer : List PySem.Env) (s : Shared) (H : Hp) (vs : List V) (Q : VK) (E : XK), A.guards = some [] →
      Room k (A.deeper (PyProof.Rows.envOfC qual (defScope st) s.heap.objs.size f cdv)) → sp vs H Q E →
      ∃ t, PSs (cxOf CX P w K mg base N qual (defScope st) f cdv A outer s H E) (defBody st) t ∧ t { nx := fun _ H' => Q .non H', rt := Q } (L2.start N vs) H) :
    FnG P w K mg base CX (k + 1) f fd ps sp := by
  obtain ⟨oc, od, kV, doc, pm, an, cdv, ct, osl, rfl, lk, hcd⟩ := F.ex
  refine ⟨many, ?_⟩
  intro A outer s H args us vs Q E hgd hr e0 hbd r hsp
  have hl := many _ _ _ _ hsp
  have kept : ∀ b o, base.get? b = some o → s.heap.get? b = some o := fun b o e => (e0.bs b o e).1
  have KX : K.In s.heap := e0.mod.kin.keeps kept
  have lim := e0.mod.nolimit.keeps kept
  have hkind : ∀ y ∈ ps.zip us, (defScope st).names.lookup y.1 = some .local ∨
      ((defScope st).names.lookup y.1 = some .cell ∧ ((cellsFrom (s.heap.objs.size + 1) (defScope st).names []).lookup y.1).isSome = true) := by
    intro y hy
    refine (S.par y.1 (List.of_mem_zip hy).1).imp id fun q => ⟨q, ?_⟩
    exact PySem.W.cellsFrom_some _ _ _ (.inl q)
  refine codeAny_call_function hr.depth (KX _ _ lk) rfl S.co S.gen rfl (PySem.W.codeRec_of KX hcd) (hbd _ _ _ _ ?_)
  refine wpAny_newFunctionEnv_cells S.kind hkind ?_
  rintro env rfl s1 x
  refine ⟨lim.keeps x.toInCall.keep, codeAny_func ?_⟩
  obtain ⟨t, ht, hq⟩ := hb cdv A outer s H vs Q E hgd (hr.deeper _) hsp
  have I := inv_start (CX := CX) (E := E) S hr.hd e0 hl r x
  refine wpAny_mono (ht.run [] s1 (L2.start N vs) H _ I hq) (fun fl s' hs => ?_) (fun _ _ z => z)
  match fl, hs with
  | .ret u, ⟨v, σ', H', J, rv, q⟩ => exact ⟨v, H', J.os, J.bare, J.base, J.hok, rv, q⟩
  | .next, ⟨σ', H', J, q⟩ => exact ⟨.non, H', J.os, J.bare, J.base, J.hok, rfl, q⟩
  | .brk, ⟨_, _, _, q⟩ => exact q.elim
  | .cont, ⟨_, _, _, q⟩ => exact q.elim
end
section
variable {C : Cx} {CX : CXT} {k : Nat} {f : Addr} {fd : FuncData} {ps : List Str} {sp : Sp} {E : XK} {x : Str} {p pos : Pos} {e : Expr} {es : List Expr} {t : TA}
theorem goG {pins : List (Addr × Obj)} {σ : St} {H : Hp} {s : Shared} {Q : VK} {us : List Value} {vs : List V} (F : FnG C.prog C.w C.K C.mg C.base CX k f fd ps sp) (hg : C.A.guards = some []) (hr : Room k C.A)
    (hb : Binds C.K fd ps []) (hx : Passes CX C E) (I : Inv C pins σ H s) (r : Vals vs us) (h : sp vs H Q E) : wpAny (model C.prog C.w) C.A (call (.ref f) us) (EP C pins σ Q) C.xe s := by
  have hl : us.length = ps.length := r.length ▸ F.many _ _ _ _ h
  have b := hb s us I.kIn (by simpa using hl)
  rw [List.append_nil] at b
  refine wpAny_call (codeAny_mono (F.go C.A C.stack s H ⟨us, []⟩ us vs Q E hg hr I.env0 b r h) ?_)
  intro r s' hq
  match r, hq with
  | .error e, hq => exact hx pins σ H s e s' I hq
  | .ok (.ret u), hq => exact I.after hq
theorem pe_callG (F : FnG C.prog C.w C.K C.mg C.base CX k f fd ps sp) (gd : C.A.guards = some []) (hr : Room k C.A) (hg : Gl C x) (hm : C.mg x = some (.ref f)) (hk : PySem.W.keepIn C.K (.ref f) = true)
    (hb : Binds C.K fd ps []) (hx : Passes CX C E) (ha : PA C (e :: es) t) (hdb : (x == ("__debug__" : Str)) = false := by decide)
    (he : starEach (e :: es) C.env = (false, eval e C.env) :: starEach es C.env := by rfl) (hpl : (backTo pos (starEach es C.env)).any (·.1) = false := by rfl) :
    PE C (.Call (.Name x p) (e :: es) [] pos) (fun σ H Q => t σ H fun vs H1 => sp vs H1 Q E) := by
  constructor
  intro pins s σ H Q I h
  refine wpAny_Call_Name_kw (ld_glob I hg hm ?_ hdb)
  refine PySem.W.callWith_K (h₀ := C.base) I.ok.mod.kin hk (thn (ha.run pos pins s σ H _ I h) ?_) he hpl
  rintro us s1 ⟨vs, H1, I1, r, q⟩
  exact ⟨I1.kIn, goG F gd hr hb hx I1 r q⟩
/-- a def's body keeps its promise -/
theorem okG_def {P : Program} {w : World} {K : PySem.W.Frag} {mg : Str → Option Value} {base : Heap} {x qual : Str} {st : Stmt} {f : Addr} {fd : FuncData} {N ps : List Str} {k m : Nat} {ro : List Nat} {g : MS} (F : Fun K x qual st f fd) (S : FnScope N ps (defScope st)) (hm : ps.length = m)
    (hbody : ∀ (cdv : Value) (A : Around) (outer : List PySem.Env) (s : Shared) (H : Hp) (E : XK), A.guards = some [] → Room k (A.deeper (PyProof.Rows.envOfC qual (defScope st) s.heap.objs.size f cdv)) →
      PSs (cxOf CX0 P w K mg base N qual (defScope st) f cdv A outer s H E).nox (defBody st) (okS K (· ∈ ro) g)) :
    FnG P w K mg base CX0 (k + 1) f fd ps (okFn K (runF N.length m ro g)) := by
  refine defG F S (fun vs H Q E h => ?_) fun cdv A outer s H vs Q E hgd hr h => ⟨_, (hbody cdv A outer s H E hgd hr).nox, ?_⟩
  · obtain ⟨ds, X, d, outs, hl, S1, e, k⟩ := h
    unfold runF at e
    split at e
    · rename_i h1
      rw [← hl, h1, hm]
    · cases e
  · obtain ⟨ds, X, d, outs, hl, S1, e, k⟩ := h
    unfold runF at e
    split at e
    · rename_i h1
      obtain ⟨r, e1, e⟩ := bindS e
      have est : L2.start N vs = vs.map some ++ List.replicate (N.length - m) none := by
        unfold L2.start
        rw [← hl, h1]
      rw [est]
      have fin : ∀ (Γ : Nv) (σ' : St), Agree (· ∈ ro) (vs.map some ++ List.replicate (N.length - m) none) σ' → (slots (outsOf m ro Γ) (vs.map some)).Sublist (slots Γ σ') := fun Γ σ' a => sub_slots fun i d hi => by
        obtain ⟨h2, h3, h4⟩ := outs_get hi
        refine ⟨h4, (a.2 i h3).trans ?_⟩
        rw [List.getElem?_append_left (by rw [List.length_map, ← hl, h1]; exact h2)]
      refine ⟨_, X, r, fits_start hl, by rw [slots_start hl]; exact S1, e1, ?_⟩
      cases r with
      | nx Γ =>
        cases e
        exact fun H' σ' a F' S' => k H' .non ((S'.sub ((fin Γ σ' a).append_right X)).flat fun _ => .non)
      | rt d Γ =>
        cases e
        exact fun H' σ' v a F' S' => k H' v (S'.sub (((fin Γ σ' a).append_right X).cons_cons _))
      | bk Γ => cases e
      | ct Γ => cases e
    · cases e
theorem ee_callG {sem : Fn} {ls : List (Option Nat)} {fa : MA} (F : FnG C.prog C.w C.K C.mg C.base CX0 k f fd ps (okFn C.K sem)) (gd : C.A.guards = some []) (hr : Room k C.A) (hg : Gl C x) (hm : C.mg x = some (.ref f)) (hk : PySem.W.keepIn C.K (.ref f) = true) (hb : Binds C.K fd ps [])
    (ha : PA C (e :: es) (okA C.K ls fa)) (hdb : (x == ("__debug__" : Str)) = false := by decide) (he : starEach (e :: es) C.env = (false, eval e C.env) :: starEach es C.env := by rfl) (hpl : (backTo pos (starEach es C.env)).any (·.1) = false := by rfl) :
    PE C (.Call (.Name x p) (e :: es) [] pos) (okE C.K (callM sem ls fa)) := (pe_callG F gd hr hg hm hk hb pass0 ha hdb he hpl).gimp fun σ H Q ⟨Γ, X, d, Γ', F, S, e, k⟩ => by
  obtain ⟨⟨ds, Γ1⟩, e1, e⟩ := bindS e
  obtain ⟨⟨d1, outs⟩, e2, e⟩ := bindS e
  cases e
  refine ⟨Γ, X, ds, Γ1, F, S, e1, fun H1 vs F1 hl hL S1 => ?_⟩
  refine ⟨ds, _, _, outs, hl, S1, e2, fun H2 v S2 => ?_⟩
  obtain ⟨F3, S3⟩ := rst_run (X := (_, v) :: X) hL F1 (S2.perm (by
    rw [← List.append_assoc, ← List.append_assoc]
    exact List.perm_middle.symm))
  exact k H2 v F3 (S3.perm List.perm_middle)
end
/-! ### the end of a law's row -/
section
variable {P : Program} {w : World} {K : PySem.W.Frag} {mg mb : Str → Option Value} {k : Nat} {fa a : Addr} {fd : FuncData} {x : Str} {sem : Fn}
theorem law_run {s1 : Shared} {vs : List Value} {ns : List Int} (KX : K.In s1.heap) (hns : s1.heap.Ns mainGlobals mg) (hb : s1.heap.Ns builtinsNs mb) (hbb : ∀ x : Str, x ≠ "__name__" → mb x = bootBuiltins x)
    (hlim : s1.heap.NoLimit) (hdig : s1.heap.NoDigits) (hgens : s1.gens = #[]) (ha : s1.heap.get? a = some { cls := .type "list", data := .seq vs.toArray }) (hi : PyProof.Rows.IntsAre vs ns) (hl : ns.length ≤ sizeLine) (hr : Room k callerA)
    (F : ∀ base : Heap, K.In base → base.Ns mainGlobals mg → base.NoDigits → FnG P w K mg base CX0 k fa fd [x] (okFn K sem)) (hbind : ∀ (s : Shared) (u : Value), BindsTo s fd ⟨[u], []⟩ [(x, u)])
    (hsem : ∃ outs, sem [.p (.list (ns.map .int))] = some (.p (.bool true), outs)) :
    codeAny (model P w) callerA (.call (.ref fa) ⟨[.ref a], []⟩) (fun r s' => r = .ok (.ret (.bool true)) ∧ OldK s1.heap s'.heap ∧ s'.os = s1.os ∧ PyProof.Rows.AllBare s'.gens) s1 := by
  have rv := vals_ints hi
  obtain ⟨outs, hsem⟩ := hsem
  have core : ∀ H : Hp, (∀ b, H b = none ∨ ∃ ob xs, H b = some (.frz ob (.lst xs))) → SqL K H a (ns.map V.int) → HOk P w H s1.heap → (∀ b, H b ≠ none → b = a) → (H a ≠ none → K.lookup a = none) →
      codeAny (model P w) callerA (.call (.ref fa) ⟨[.ref a], []⟩) (fun r s' => r = .ok (.ret (.bool true)) ∧ OldK s1.heap s'.heap ∧ s'.os = s1.os ∧ PyProof.Rows.AllBare s'.gens) s1 := by
    intro H hO hS hok hA hK
    have free : ∀ {b : Addr} {o : Obj}, s1.heap.get? b = some o → (∀ i n, o.data ≠ .seq i n) → H b = none := by
      intro b o e nd
      by_cases q : H b = none
      · exact q
      · obtain rfl := hA b q
        rw [ha] at e
        cases e
        exact absurd rfl (nd _ _)
    have nsB : ∀ {b : Addr} {m : Str → Option Value}, s1.heap.Ns b m → (hidT s1.heap H).Ns b m := by
      rintro b m ⟨o, es, ep, e, d, r⟩
      exact ⟨o, es, ep, hidT_get e (free e fun i n z => by rw [d] at z; cases z), d, r⟩
    have kB : K.In (hidT s1.heap H) := by
      intro b o e
      refine hidT_get (KX b o e) ?_
      by_cases q : H b = none
      · exact q
      · obtain rfl := hA b q
        rw [hK q] at e
        cases e
    have mB : Mod K mg (hidT s1.heap H) := ⟨kB, nsB hns, ⟨mb, nsB hb, hbb⟩, by
      obtain ⟨mc, h1, h2⟩ := hlim
      exact ⟨mc, nsB h1, h2⟩⟩
    have dB : (hidT s1.heap H).NoDigits := by
      obtain ⟨mc, h1, h2⟩ := hdig
      exact ⟨mc, nsB h1, h2⟩
    have none0 : ∀ b : Addr, b ∉ frs [] := fun b z => nomatch (show b ∈ ([] : List Addr) from z)
    have e0 : Env0 P w K mg (hidT s1.heap H) callerA [] s1 H :=
      { frames := rfl, mod := mB, bs := fun b o e => of_hidT e, bsz := Nat.le_of_eq (hidT_size _ _), funs := trivial, frf := fun b z => (none0 b z).elim, hok := hok, bare := .of_eq hgens }
    have allInts : ∀ l : List Int, DqAll K H (l.map V.int) (l.map PyData.int) := by
      intro l
      induction l with
      | nil => exact .nil
      | cons n r ih => exact .cons (.int n) ih
    have S0 : SL K H [(.p (.list (ns.map .int)), .ref a)] := ⟨H, _, Same.refl _, .cons (.p (.lst hS (allInts ns))) .nil, List.nodup_nil, fun _ z => nomatch z⟩
    have sp0 : okFn K sem [.ref a] H (fun v _ => v = .bl true) (fun _ _ _ => False) :=
      ⟨[.p (.list (ns.map .int))], [], _, outs, rfl, S0, hsem, fun H' v S' => by
        have z := S'.dp
        cases z
        rfl⟩
    refine codeAny_mono ((F _ kB (nsB hns) dB).go callerA [] s1 H _ [.ref a] [.ref a] _ _ rfl hr e0 (hbind s1 (.ref a)) (.cons rfl .nil) sp0) ?_
    intro r s' h
    match r, h with
    | .ok (.ret u), ⟨v, H', os, bare, un, hok', r', q⟩ =>
      obtain rfl : v = .bl true := q
      obtain rfl : u = Value.bool true := r'
      refine ⟨rfl, OldK.of_keep ?_, os, bare⟩
      intro b o e
      rcases hO b with q | ⟨ob, xs, q⟩
      · exact un.keep b o e q (none0 b) (by simp)
      · obtain ⟨e1, _⟩ := hok b _ q
        obtain ⟨e2, _⟩ := hok' b _ (un.frzs b ob _ q)
        exact (e.symm.trans e1).symm ▸ e2
  have lenV := hi.length
  by_cases hk : K.lookup a = none
  · refine core (fun b => if b = a then some (.frz { cls := .type "list", data := .seq vs.toArray } (.lst (ns.map V.int))) else none) ?_ ?_ ?_ ?_ fun _ => hk
    · intro b
      by_cases q : b = a
      · exact .inr ⟨_, _, if_pos q⟩
      · exact .inl (if_neg q)
    · exact .inl (.inr ⟨_, if_pos rfl⟩)
    · intro b u z
      by_cases q : b = a
      · subst q
        cases (if_pos rfl).symm.trans z
        exact ⟨ha, by simpa using hl, vs, _, rv, ha⟩
      · cases (if_neg q).symm.trans z
    · intro b z
      by_cases q : b = a
      · exact q
      · exact absurd (if_neg q) z
  · obtain ⟨o, ho⟩ := Option.ne_none_iff_exists'.mp hk
    have e := KX a o ho
    rw [ha] at e
    cases e
    refine core (fun _ => none) (fun _ => .inl rfl) (.inr ⟨_, vs.toArray, _, ho, rfl, rfl, rfl, ?_, by simpa using rv⟩) (fun b u z => nomatch z) (fun b z => (z rfl).elim) fun z => (z rfl).elim
    rw [List.size_toArray, lenV]
    exact hl
end
/-- the goal that k_head leaves -/
theorem walkG {l : PySem.W.OpenLaw} {n k : Nat} {q : Program} {loose : List Str} {XP : (Str → Option Value) → Heap → Prop} {YP : World → Heap → Prop} {d : DefRec} {K : Params → PySem.W.Frag} {sem : Fn} {x : Str}
    (hn : l.most = some n) (hn2 : n ≤ sizeLine) (hdf : d.params.defaults = []) (hr : Room k callerA) (hY : ∀ (w : World) (h : Heap), YP w h → (K w.params).In h)
    (F : ∀ (w : World) (mg : Str → Option Value) (fa : Addr) (h : Heap), (K w.params).In h → h.Ns mainGlobals mg → mg d.name = some (.ref fa) →
      ∃ fd : FuncData, (∀ (s : Shared) (u : Value), BindsTo s fd ⟨[u], []⟩ [(x, u)]) ∧
        ∀ base : Heap, (K w.params).In base → base.Ns mainGlobals mg → base.NoDigits → FnG l.prog w (K w.params) mg base CX0 k fa fd [x] (okFn (K w.params) sem))
    (hsem : ∀ ns : List Int, ns.length ≤ n → (∀ z ∈ ns, Builtin.Int.intBits z ≤ 1048576) → ∃ outs, sem [.p (.list (ns.map .int))] = some (.p (.bool true), outs)) :
    PySem.W.WalkO q loose XP YP l.row.toRowW d [] (fun f vs => PySem.call f vs) := by
  refine Att.attach_callB hn hdf ?_
  intro w s0 s1 mg mb fa o pm cd doc a vs ns G Y ho hd hcd hmg hobj hints hlen hbits hgens
  have KX := hY w _ Y
  obtain ⟨fd, hb, hF⟩ := F w mg fa _ KX G.T.g hmg
  exact law_run KX G.T.g G.T.b G.T.builtins G.T.nolimit G.T.nodigits hgens hobj hints (Nat.le_trans hlen hn2) hr hF hb (hsem ns hlen hbits)
end GH
namespace GH
open PySem L2
/-! ### reading without change -/
section
variable {K : PySem.W.Frag} {H : Hp} {L : List (D × V)} {d : D} {v : V} {q : PyData}
theorem SL.dpz (h : SL K H ((d, v) :: L)) (e : fz d = some q) : Dq K H v q := (h.frz e).dp
theorem get_zip {α β : Type} : ∀ {xs : List α} {ys : List β} {j : Nat} {x : α} {y : β}, xs[j]? = some x → ys[j]? = some y → ∃ A B, xs.zip ys = A ++ (x, y) :: B
  | a :: xs, b :: ys, 0, x, y, h, h' => by
    simp at h h'
    subst h h'
    exact ⟨[], xs.zip ys, rfl⟩
  | a :: xs, b :: ys, j + 1, x, y, h, h' => by
    obtain ⟨A, B, e⟩ := get_zip (xs := xs) (ys := ys) (by simpa using h) (by simpa using h')
    exact ⟨(a, b) :: A, B, by rw [List.zip_cons_cons, e]; rfl⟩
/-- an item that is frozen is copied -/
theorem SL.pick {xs : List D} {vs : List V} {j : Nat} (h : SL K H (xs.zip vs ++ L)) (hx : xs[j]? = some (.p q)) (hv : vs[j]? = some v) : SL K H ((.p q, v) :: (xs.zip vs ++ L)) := by
  obtain ⟨A, B, e⟩ := get_zip hx hv
  rw [e] at h ⊢
  have h1 : SL K H ((.p q, v) :: (A ++ B ++ L)) := h.perm (by
    rw [List.append_assoc, List.append_assoc]
    exact List.perm_middle)
  refine h1.dup.perm (List.Perm.cons _ ?_)
  rw [List.append_assoc, List.append_assoc]
  exact List.perm_middle.symm
theorem atI_some {α : Type} {xs : List α} {i : Int} {x : α} (h : atI xs i = some x) : ∃ j, ixN xs.length i = some j ∧ xs[j]? = some x := bindS h
theorem ixN_lt {n : Nat} {i : Int} {j : Nat} (h : ixN n i = some j) : j < n := (ixN_seq h).2.1
end
/-! ### operators -/
def addD : D → D → Option D
  | .p (.int i), .p (.int j) => some (.p (.int (i + j)))
  | .p (.str a), .p (.str b) => if a.length + b.length ≤ sizeLine then some (.p (.str (a ++ b))) else none
  | .p (.tuple a), .p (.tuple b) => if a.length + b.length ≤ sizeLine then some (.p (.tuple (a ++ b))) else none
  | .l a, .l b => if a.length + b.length ≤ sizeLine then some (.l (a ++ b)) else none
  | .p (.list a), .l b => if a.length + b.length ≤ sizeLine then some (.l (a.map .p ++ b)) else none
  | .l a, .p (.list b) => if a.length + b.length ≤ sizeLine then some (.l (a ++ b.map .p)) else none
  | _, _ => none
def subD : D → D → Option D
  | .p (.int i), .p (.int j) => some (.p (.int (i - j)))
  | _, _ => none
def mulOk (i j : Int) : Bool := decide (i.natAbs < 2 ^ 64) || decide (j.natAbs < 2 ^ 64) || decide (i.natAbs.log2 + j.natAbs.log2 < 1000000)
def mulD : D → D → Option D
  | .p (.int i), .p (.int j) => if mulOk i j = true then some (.p (.int (i * j))) else none
  | _, _ => none
def divOk (j : Int) : Bool := decide (j ≠ 0) && decide (j.natAbs.log2 < 9000)
def fdivD : D → D → Option D
  | .p (.int i), .p (.int j) => if divOk j = true then some (.p (.int (i.fdiv j))) else none
  | _, _ => none
def modD : D → D → Option D
  | .p (.int i), .p (.int j) => if j ≠ 0 then some (.p (.int (i.fmod j))) else none
  | _, _ => none
def powD : D → D → Option D
  | .p (.int i), .p (.int j) => if 0 ≤ j ∧ j ≤ 1000000 ∧ i.natAbs < 2 ^ 64 then some (.p (.int (i ^ j.toNat))) else none
  | _, _ => none
def negD : D → Option D
  | .p (.int i) => some (.p (.int (-i)))
  | _ => none
def notD : D → Option D
  | .p (.bool b) => some (.p (.bool (!b)))
  | _ => none
def ltD : D → D → Option D
  | .p (.int i), .p (.int j) => some (.p (.bool (decide (i < j))))
  | .p (.str a), .p (.str b) => some (.p (.bool (decide (a.cps.toList < b.cps.toList))))
  | _, _ => none
def leD : D → D → Option D
  | .p (.int i), .p (.int j) => some (.p (.bool (decide (i ≤ j))))
  | .p (.str a), .p (.str b) => some (.p (.bool (!decide (b.cps.toList < a.cps.toList))))
  | _, _ => none
def gtD : D → D → Option D
  | .p (.int i), .p (.int j) => some (.p (.bool (decide (j < i))))
  | _, _ => none
def geD : D → D → Option D
  | .p (.int i), .p (.int j) => some (.p (.bool (decide (j ≤ i))))
  | .p (.str a), .p (.str b) => some (.p (.bool (!decide (a.cps.toList < b.cps.toList))))
  | _, _ => none
def eqOk : PyData → PyData → Bool
  | .str _, .str _ => true
  | .list _, .list [] => true
  | a, b => SeqAt.shaped a && SeqAt.shaped b
def eqD (x y : D) : Option D := (fz x).bind fun a => (fz y).bind fun b => if eqOk a b = true then some (.p (.bool (PyData.eqv a b))) else none
def neD (x y : D) : Option D := (fz x).bind fun a => (fz y).bind fun b => if eqOk a b = true then some (.p (.bool (!PyData.eqv a b))) else none
def isND : D → D → Option D
  | .p q, .p .none => some (.p (.bool (match q with | .none => true | _ => false)))
  | _, _ => none
def notND : D → D → Option D
  | .p q, .p .none => some (.p (.bool (match q with | .none => false | _ => true)))
  | _, _ => none
def ixD : D → D → Option D
  | .p (.tuple ds), .p (.int i) => (atI ds i).map .p
  | .p (.list ds), .p (.int i) => (atI ds i).map .p
  | .l xs, .p (.int i) => (atI xs i).bind fun d => match d with
    | .p q => some (.p q)
    | _ => none
  | .p (.str s), .p (.int i) => if s.length ≤ sizeLine then (atI s.cps.toList i).map fun c => .p (.str ⟨#[c]⟩) else none
  | _, _ => none
section
variable {C : Cx}
theorem oI {f : Value → Value → Sem Value} {o : D → D → Option D} {r : R2} (h : OpR C f r)
    (ho : ∀ {dx dy d x y H Q}, o dx dy = some d → ∀ {L}, SL C.K H ((dy, y) :: (dx, x) :: L) → (∀ H' v, SL C.K H' ((d, v) :: L) → Q v H') → r x y H Q) : OpR C f (okO C.K o) :=
  h.gimp fun x y H Q ⟨L, dx, dy, d, S, e, k⟩ => ho e S k
/-- two frozen ones -/
theorem two {K : PySem.W.Frag} {H : Hp} {L : List (D × V)} {a b : PyData} {x y : V} (S : SL K H ((.p b, y) :: (.p a, x) :: L)) : Dq K H x a ∧ Dq K H y b ∧ SL K H L := ⟨S.drop.dp, S.dp, S.drop.drop⟩
theorem ints2 {K : PySem.W.Frag} {H : Hp} {L : List (D × V)} {i j : Int} {x y : V} (S : SL K H ((.p (.int j), y) :: (.p (.int i), x) :: L)) : x = .int i ∧ y = .int j ∧ SL K H L := by
  obtain ⟨a, b, c⟩ := two S
  cases a
  cases b
  exact ⟨rfl, rfl, c⟩
theorem o_sub : OpR C (binaryOp .Sub) (okO C.K subD) := oI op_sub fun {dx dy d x y H Q} e L S k => by
  unfold subD at e
  split at e
  · cases e
    obtain ⟨rfl, rfl, S'⟩ := ints2 S
    exact ⟨_, _, rfl, rfl, k _ _ (S'.flat fun _ => .int _)⟩
  · cases e
theorem mulOk_ok {i j : Int} (h : mulOk i j = true) : PySem.IntMulOk i j := by
  unfold mulOk at h
  simp only [Bool.or_eq_true, decide_eq_true_eq] at h
  rcases h with (h | h) | h
  · exact CMul.ok (.inl (by omega))
  · exact CMul.ok (.inr (by omega))
  · exact CMulW.ok h
theorem op_mulG : OpR C (binaryOp .Mult) (rI (fun i j => mulOk i j = true) fun i j => .int (i * j)) := opI fun _ _ _ _ _ _ _ hc q => PyProof.Rows.mul_int q (mulOk_ok hc)
theorem op_fdivG : OpR C (binaryOp .FloorDiv) (rI (fun i j => divOk j = true) fun i j => .int (i.fdiv j)) := opI fun _ _ _ _ _ _ _ hc q => by
  unfold divOk at hc
  simp only [Bool.and_eq_true, decide_eq_true_eq] at hc
  exact PyProof.Rows.floordiv_int hc.1 q (.inl (PyProof.noPylong_of_log2 hc.2))
theorem o_mul : OpR C (binaryOp .Mult) (okO C.K mulD) := oI op_mulG fun {dx dy d x y H Q} e L S k => by
  unfold mulD at e
  split at e
  · split at e
    · rename_i h
      cases e
      obtain ⟨rfl, rfl, S'⟩ := ints2 S
      exact ⟨_, _, rfl, rfl, h, k _ _ (S'.flat fun _ => .int _)⟩
    · cases e
  · cases e
theorem o_fdiv : OpR C (binaryOp .FloorDiv) (okO C.K fdivD) := oI op_fdivG fun {dx dy d x y H Q} e L S k => by
  unfold fdivD at e
  split at e
  · split at e
    · rename_i h
      cases e
      obtain ⟨rfl, rfl, S'⟩ := ints2 S
      exact ⟨_, _, rfl, rfl, h, k _ _ (S'.flat fun _ => .int _)⟩
    · cases e
  · cases e
theorem o_mod : OpR C (binaryOp .Mod) (okO C.K modD) := oI op_modN fun {dx dy d x y H Q} e L S k => by
  unfold modD at e
  split at e
  · split at e
    · rename_i h
      cases e
      obtain ⟨rfl, rfl, S'⟩ := ints2 S
      exact ⟨_, _, rfl, rfl, h, k _ _ (S'.flat fun _ => .int _)⟩
    · cases e
  · cases e
theorem o_pow : OpR C (binaryOp .Pow) (okO C.K powD) := oI op_pow fun {dx dy d x y H Q} e L S k => by
  unfold powD at e
  split at e
  · split at e
    · rename_i h
      cases e
      obtain ⟨rfl, rfl, S'⟩ := ints2 S
      exact ⟨_, _, rfl, rfl, h, k _ _ (S'.flat fun _ => .int _)⟩
    · cases e
  · cases e
theorem zip_split {α β : Type} : ∀ {xs ys : List α} {us ws : List β}, xs.length = us.length → (xs ++ ys).zip (us ++ ws) = xs.zip us ++ ys.zip ws
  | [], _, [], _, _ => rfl
  | x :: xs, ys, u :: us, ws, h => by
    show (x, u) :: (xs ++ ys).zip (us ++ ws) = _
    rw [zip_split (Nat.succ.inj h)]
    rfl
/-! lists added, of any kind -/
open PySem.Spec PyProof.Rows in
theorem op_catQ : OpR C (binaryOp .Add) (fun x y H Q => ∃ l b xs zs, x = .ref l ∧ y = .ref b ∧ SqL C.K H l xs ∧ SqL C.K H b zs ∧ xs.length + zs.length ≤ sizeLine ∧ ∀ p, H p = none → Q (.ref p) (upd H p (.lst (xs ++ zs)))) := by
  intro pins s σ H x y v u Q I rx ry h
  obtain ⟨l, b, xs, zs, rfl, rfl, ha, hb, hz, q⟩ := h
  cases rx
  cases ry
  obtain ⟨its, r, pl, _⟩ := I.list ha
  obtain ⟨its2, r2, pl2, _⟩ := I.list hb
  have h1 := r.length
  have h2 := r2.length
  obtain ⟨⟨cls, dd, data, sl⟩, ho, hc, n, hd⟩ := id pl.isList
  obtain ⟨⟨cls2, dd2, data2, sl2⟩, ho2, hc2, n2, hd2⟩ := id pl2.isList
  simp only at hc hd hc2 hd2
  subst hc hd hc2 hd2
  have e : its.toArray ++ its2.toArray = (its ++ its2).toArray := by simp
  refine concat_meets ⟨_, ho, rfl⟩ ⟨_, ho2, rfl⟩ noFill_list_add seq_list_add PySem.F.slot_list_add PySem.F.entry_list_add (PySem.F.args_list_add_2 _ _) (list_addW l b its.toArray its2.toArray n n2 dd dd2 sl sl2 (by rw [List.size_toArray, List.size_toArray]; omega)) ⟨ho, ho2, ?_⟩
  rw [e]
  exact ⟨.ref _, _, I.lnew (t' := s.toks) (r.append r2) (by rw [List.length_append]; omega), rfl, q _ I.fresh⟩
theorem o_add : OpR C (binaryOp .Add) (okO C.K addD) := oI ((op_add.galt op_add_str).galt (op_catA.galt op_catQ)) fun {dx dy d x y H Q} e L S k => by
  unfold addD at e
  split at e
  · cases e
    obtain ⟨rfl, rfl, S'⟩ := ints2 S
    exact .inl (.inl ⟨_, _, rfl, rfl, k _ _ (S'.flat fun _ => .int _)⟩)
  · split at e
    · rename_i h
      cases e
      obtain ⟨a, b, S'⟩ := two S
      cases a
      cases b
      exact .inl (.inr ⟨_, _, rfl, rfl, h, k _ _ (S'.flat fun _ => .str _)⟩)
    · cases e
  · rename_i a b
    split at e
    · rename_i h
      cases e
      obtain ⟨ax, xs, rfl, hx, lx, S1⟩ := SL.items (S.perm (.swap _ _ _))
      have S2 : SL C.K H ((.p (.tuple b), y) :: ((a.map D.p).zip xs ++ ((.p (.tuple a), .ref ax) :: L))) := S1.perm ((List.Perm.append_left _ (.swap _ _ _)).trans List.perm_middle)
      obtain ⟨ay, ys, rfl, hy, ly, S3⟩ := S2.items
      refine .inr (.inl ⟨ax, ay, xs, ys, rfl, rfl, hx, hy, ?_, fun z => ?_, fun _ z => ?_, fun _ z p hp => ?_⟩)
      · rw [← lx, ← ly]
        exact h
      · have ea : a = [] := by
          rw [z] at lx
          exact List.eq_nil_of_length_eq_zero lx
        rw [ea] at k
        exact k _ _ (S.perm (.swap _ _ _)).drop
      · have eb : b = [] := by
          rw [z] at ly
          exact List.eq_nil_of_length_eq_zero ly
        rw [eb] at k
        rw [List.append_nil] at k
        exact k _ _ S.drop
      · refine k _ _ (SL.tup (ds := a ++ b) (vs := xs ++ ys) (by simp [lx, ly]) ?_ hp)
        rw [List.map_append, zip_split (by simpa using lx), List.append_assoc]
        have S4 : SL C.K H ((b.map D.p).zip ys ++ ((a.map D.p).zip xs ++ ((.p (.tuple b), .ref ay) :: (.p (.tuple a), .ref ax) :: L))) := S3.perm (List.Perm.append_left _ List.perm_middle.symm)
        have S5 := S4.perm (swap3 _ _ _)
        exact S5.sub (List.Sublist.append_left (List.Sublist.append_left (((List.Sublist.refl L).cons _).cons _) _) _)
    · cases e
  · rename_i a b
    split at e
    · rename_i h
      cases e
      obtain ⟨ay, ys, rfl, hy, ly, S1⟩ := S.open
      have S2 : SL C.K H ((.l a, x) :: ((.c ys, .ref ay) :: (b.zip ys ++ L))) := S1.perm ((List.Perm.cons _ List.perm_middle).trans (.swap _ _ _))
      obtain ⟨ax, xs, rfl, hx, lx, S3⟩ := S2.open
      refine .inr (.inr ⟨ax, ay, xs, ys, rfl, rfl, .inl (.inl hx), .inl (.inl hy), by rw [← lx, ← ly]; exact h, fun p hp => k _ _ ?_⟩)
      refine SL.close (ds := a ++ b) (vs := xs ++ ys) (by simp [lx, ly]) ?_
      rw [zip_split lx, List.append_assoc]
      have S4 : SL C.K H (a.zip xs ++ (b.zip ys ++ L)) := by
        have := S3.drop
        exact SL.drop (this.perm List.perm_middle)
      exact S4.newc hp
    · cases e
  · rename_i a b
    split at e
    · rename_i h
      cases e
      obtain ⟨ay, ys, rfl, hy, ly, S1⟩ := S.open
      have S2 : SL C.K H ((.p (.list a), x) :: ((.c ys, .ref ay) :: (b.zip ys ++ L))) := S1.perm ((List.Perm.cons _ List.perm_middle).trans (.swap _ _ _))
      obtain ⟨ax, xs, rfl, hx, lx, S3⟩ := S2.itemsL
      refine .inr (.inr ⟨ax, ay, xs, ys, rfl, rfl, hx, .inl (.inl hy), by rw [← lx, ← ly]; exact h, fun p hp => k _ _ ?_⟩)
      refine SL.close (ds := a.map D.p ++ b) (vs := xs ++ ys) (by simp [lx, ly]) ?_
      rw [zip_split (by simpa using lx), List.append_assoc]
      have S4 : SL C.K H ((a.map D.p).zip xs ++ (b.zip ys ++ L)) := S3.sub (List.Sublist.append_left (((List.Sublist.refl _).cons _).cons _) _)
      exact S4.newc hp
    · cases e
  · rename_i a b
    split at e
    · rename_i h
      cases e
      have S0 : SL C.K H ((.l a, x) :: (.p (.list b), y) :: L) := S.perm (.swap _ _ _)
      obtain ⟨ax, xs, rfl, hx, lx, S1⟩ := S0.open
      have S2 : SL C.K H ((.p (.list b), y) :: ((.c xs, .ref ax) :: (a.zip xs ++ L))) := S1.perm ((List.Perm.cons _ List.perm_middle).trans (.swap _ _ _))
      obtain ⟨ay, ys, rfl, hy, ly, S3⟩ := S2.itemsL
      refine .inr (.inr ⟨ax, ay, xs, ys, rfl, rfl, .inl (.inl hx), hy, by rw [← lx, ← ly]; exact h, fun p hp => k _ _ ?_⟩)
      refine SL.close (ds := a ++ b.map D.p) (vs := xs ++ ys) (by simp [lx, ly]) ?_
      rw [zip_split lx, List.append_assoc]
      have S4 : SL C.K H ((b.map D.p).zip ys ++ (a.zip xs ++ L)) := S3.sub (List.Sublist.append_left (((List.Sublist.refl _).cons _).cons _) _)
      have S5 : SL C.K H (a.zip xs ++ ((b.map D.p).zip ys ++ L)) := S4.perm (swap3 _ _ _)
      exact S5.newc hp
    · cases e
  · cases e
theorem u_neg : UnR C (unaryOp .USub) (okU C.K negD) := (un_neg).gimp fun x H Q ⟨L, dx, d, S, e, k⟩ => by
  unfold negD at e
  split at e
  · cases e
    have z := S.dp
    cases z
    exact ⟨_, rfl, k _ _ (S.drop.flat fun _ => .int _)⟩
  · cases e
theorem o_lt : OpR C (compareOp .Lt) (okO C.K ltD) := oI (op_lt.galt op_lt_str) fun {dx dy d x y H Q} e L S k => by
  unfold ltD at e
  split at e
  · cases e
    obtain ⟨rfl, rfl, S'⟩ := ints2 S
    exact .inl ⟨_, _, rfl, rfl, k _ _ (S'.flat fun _ => .bl _)⟩
  · cases e
    obtain ⟨a, b, S'⟩ := two S
    cases a
    cases b
    exact .inr ⟨_, _, rfl, rfl, k _ _ (S'.flat fun _ => .bl _)⟩
  · cases e
theorem o_le : OpR C (compareOp .LtE) (okO C.K leD) := oI (op_le.galt op_le_str) fun {dx dy d x y H Q} e L S k => by
  unfold leD at e
  split at e
  · cases e
    obtain ⟨rfl, rfl, S'⟩ := ints2 S
    exact .inl ⟨_, _, rfl, rfl, k _ _ (S'.flat fun _ => .bl _)⟩
  · cases e
    obtain ⟨a, b, S'⟩ := two S
    cases a
    cases b
    exact .inr ⟨_, _, rfl, rfl, k _ _ (S'.flat fun _ => .bl _)⟩
  · cases e
theorem o_gt : OpR C (compareOp .Gt) (okO C.K gtD) := oI op_gt fun {dx dy d x y H Q} e L S k => by
  unfold gtD at e
  split at e
  · cases e
    obtain ⟨rfl, rfl, S'⟩ := ints2 S
    exact ⟨_, _, rfl, rfl, k _ _ (S'.flat fun _ => .bl _)⟩
  · cases e
theorem o_ge : OpR C (compareOp .GtE) (okO C.K geD) := oI (op_ge.galt op_ge_str) fun {dx dy d x y H Q} e L S k => by
  unfold geD at e
  split at e
  · cases e
    obtain ⟨rfl, rfl, S'⟩ := ints2 S
    exact .inl ⟨_, _, rfl, rfl, k _ _ (S'.flat fun _ => .bl _)⟩
  · cases e
    obtain ⟨a, b, S'⟩ := two S
    cases a
    cases b
    exact .inr ⟨_, _, rfl, rfl, k _ _ (S'.flat fun _ => .bl _)⟩
  · cases e
/-- from what stays to what is used up -/
theorem _root_.L2.OpR.used {f : Value → Value → Sem Value} {o : D → D → Option D} (h : OpR C f (okR C.K o)) : OpR C f (okO C.K o) := h.gimp fun _ _ _ _ => okR_okO
/-! a list beside the empty one -/
theorem dqAll_empty {K : PySem.W.Frag} {H : Hp} {xs : List V} {ds : List PyData} (h : DqAll K H xs ds) : ds.isEmpty = xs.isEmpty := by
  cases h with
  | nil => rfl
  | cons _ _ => rfl
theorem eqv_empty (a : List PyData) : PyData.eqv (.list a) (.list []) = a.isEmpty := by
  cases a <;> simp [PyData.eqv, PyData.eqvAll]
theorem op_eqE (hu : C.A.units + 64 < cLine) : OpR C (compareOp .Eq) (fun x y H Q => ∃ a b xs, x = .ref a ∧ y = .ref b ∧ SqL C.K H a xs ∧ SqL C.K H b [] ∧ Q (.bl xs.isEmpty) H) := by
  intro pins s σ H x y v u Q I rx ry h
  obtain ⟨a, b, xs, rfl, rfl, ha, hb, q⟩ := h
  cases rx
  cases ry
  obtain ⟨its, r, pl, _⟩ := I.list ha
  obtain ⟨its2, r2, pl2, _⟩ := I.list hb
  cases r2
  have hl := r.length
  cases xs with
  | nil =>
    cases r
    exact PySem.SeqAt.eq_listAt (e := fun _ => true) pl.isList pl2.isList rfl (by omega) (fun j h1 _ => absurd h1 (by simp)) ⟨.bl true, H, I, rfl, q⟩
  | cons z xs =>
    refine PySem.SeqAt.eq_list_lengthsAt pl.isList pl2.isList ?_ (by omega) ⟨.bl false, H, I, rfl, q⟩
    simp only [List.size_toArray, List.length_nil, bne_iff_ne, ne_eq]
    rw [← hl]
    simp
theorem op_neE (hu : C.A.units + 64 < cLine) : OpR C (compareOp .NotEq) (fun x y H Q => ∃ a b xs, x = .ref a ∧ y = .ref b ∧ SqL C.K H a xs ∧ SqL C.K H b [] ∧ Q (.bl (!xs.isEmpty)) H) := by
  intro pins s σ H x y v u Q I rx ry h
  obtain ⟨a, b, xs, rfl, rfl, ha, hb, q⟩ := h
  cases rx
  cases ry
  obtain ⟨its, r, pl, _⟩ := I.list ha
  obtain ⟨its2, r2, pl2, _⟩ := I.list hb
  cases r2
  have hl := r.length
  cases xs with
  | nil =>
    cases r
    exact PySem.SeqAt.RcNeAt.lists (e := fun _ => true) pl.isList pl2.isList rfl (by omega) (fun j h1 _ => absurd h1 (by simp)) C.prog C.w _ _ ⟨.bl false, H, I, rfl, q⟩
  | cons z xs =>
    refine PySem.SeqAt.RcNeAt.lists_lengths pl.isList pl2.isList ?_ (by omega) C.prog C.w _ _ ⟨.bl true, H, I, rfl, q⟩
    simp only [List.size_toArray, List.length_nil, bne_iff_ne, ne_eq]
    rw [← hl]
    simp
theorem r_eq (hu : C.A.units + 64 < cLine) : OpR C (compareOp .Eq) (okR C.K eqD) := ((op_eqD hu).galt (op_eq.galt (op_eqE hu))).gimp fun x y H Q ⟨L, dx, dy, d, S, e, k⟩ => by
  obtain ⟨a, ea, e⟩ := bindS e
  obtain ⟨b, eb, e⟩ := bindS e
  split at e
  · rename_i h
    cases e
    have ha := S.drop.dpz ea
    have hb := S.dpz eb
    have h' := k _ _ (S.drop.flat fun _ => .bl _)
    unfold eqOk at h
    split at h
    · refine .inr (.inl ?_)
      cases ha
      cases hb
      have es : ∀ s1 s2 : Str, PyData.eqv (.str s1) (.str s2) = (s1 == s2) := fun _ _ => by simp only [PyData.eqv]
      rw [es] at h'
      exact ⟨rfl, by rw [dec_str]; exact h'⟩
    · refine .inr (.inr ?_)
      cases ha with
      | @lst a xs _ qa da =>
        cases hb with
        | @lst b ys _ qb db =>
          cases db
          rw [eqv_empty] at h'
          rw [dqAll_empty da] at h'
          exact ⟨a, b, xs, rfl, rfl, qa, qb, h'⟩
    · rw [Bool.and_eq_true] at h
      exact .inl ⟨a, b, ha.toDp (noDict_lay (PySem.SeqAt.canLay_of_shaped h.1)), hb.toDp (noDict_lay (PySem.SeqAt.canLay_of_shaped h.2)), h.1, h.2, h'⟩
  · cases e
theorem r_ne (hu : C.A.units + 64 < cLine) : OpR C (compareOp .NotEq) (okR C.K neD) := ((op_neD hu).galt (op_ne.galt (op_neE hu))).gimp fun x y H Q ⟨L, dx, dy, d, S, e, k⟩ => by
  obtain ⟨a, ea, e⟩ := bindS e
  obtain ⟨b, eb, e⟩ := bindS e
  split at e
  · rename_i h
    cases e
    have ha := S.drop.dpz ea
    have hb := S.dpz eb
    have h' := k _ _ (S.drop.flat fun _ => .bl _)
    unfold eqOk at h
    split at h
    · refine .inr (.inl ?_)
      cases ha
      cases hb
      have es : ∀ s1 s2 : Str, PyData.eqv (.str s1) (.str s2) = (s1 == s2) := fun _ _ => by simp only [PyData.eqv]
      rw [es] at h'
      exact ⟨rfl, by rw [dec_str]; exact h'⟩
    · refine .inr (.inr ?_)
      cases ha with
      | @lst a xs _ qa da =>
        cases hb with
        | @lst b ys _ qb db =>
          cases db
          rw [eqv_empty] at h'
          rw [dqAll_empty da] at h'
          exact ⟨a, b, xs, rfl, rfl, qa, qb, h'⟩
    · rw [Bool.and_eq_true] at h
      exact .inl ⟨a, b, ha.toDp (noDict_lay (PySem.SeqAt.canLay_of_shaped h.1)), hb.toDp (noDict_lay (PySem.SeqAt.canLay_of_shaped h.2)), h.1, h.2, h'⟩
  · cases e
theorem o_isN : OpR C (compareOp .Is) (okO C.K isND) := oI op_isN fun {dx dy d x y H Q} e L S k => by
  unfold isND at e
  split at e
  · rename_i q
    cases e
    obtain ⟨a, b, S'⟩ := two S
    cases b
    refine ⟨rfl, ?_⟩
    cases a <;> exact k _ _ (S'.flat fun _ => .bl _)
  · cases e
theorem o_notN : OpR C (compareOp .IsNot) (okO C.K notND) := oI op_notN fun {dx dy d x y H Q} e L S k => by
  unfold notND at e
  split at e
  · rename_i q
    cases e
    obtain ⟨a, b, S'⟩ := two S
    cases b
    refine ⟨rfl, ?_⟩
    cases a <;> exact k _ _ (S'.flat fun _ => .bl _)
  · cases e
theorem map_get {ds : List PyData} {j : Nat} {q : PyData} (h : ds[j]? = some q) : (ds.map D.p)[j]? = some (.p q) := by rw [List.getElem?_map, h]; rfl
theorem ix_of {α β : Type} {xs : List α} {vs : List β} {i : Int} {x : α} (hl : xs.length = vs.length) (h : atI xs i = some x) : ∃ (j : Nat) (v : β), xs[j]? = some x ∧ vs[j]? = some v ∧ atI vs i = some v := by
  obtain ⟨j, h1, h2⟩ := atI_some h
  have hj : j < vs.length := by rw [← hl]; exact ixN_lt h1
  refine ⟨j, vs[j], h2, List.getElem?_eq_getElem hj, ?_⟩
  unfold atI
  rw [← hl, h1]
  exact List.getElem?_eq_getElem hj
theorem r_ix : IxR C (okR C.K ixD) := ((ix_list.galt ix_tup).galt ix_str).gimp fun x y H Q ⟨L, dx, dy, d, S, e, k⟩ => by
  unfold ixD at e
  split at e
  · obtain ⟨q, e1, rfl⟩ := mapS e
    have z := S.dp
    cases z
    obtain ⟨a, xs, rfl, hx, hl, S1⟩ := S.drop.items
    obtain ⟨j, v, h1, h2, h3⟩ := ix_of hl e1
    refine .inl (.inr ⟨a, xs, _, v, rfl, rfl, hx, h3, k _ _ ?_⟩)
    have S2 := SL.pick S1 (map_get h1) h2
    exact SL.dropA (A := (List.map D.p _).zip xs) (S2.perm List.perm_middle.symm)
  · obtain ⟨q, e1, rfl⟩ := mapS e
    have z := S.dp
    cases z
    obtain ⟨a, xs, rfl, hx, hl, S1⟩ := S.drop.itemsL
    obtain ⟨j, v, h1, h2, h3⟩ := ix_of hl e1
    refine .inl (.inl ⟨a, xs, _, v, rfl, rfl, hx, h3, k _ _ ?_⟩)
    have S2 := SL.pick S1 (map_get h1) h2
    exact SL.dropA (A := (List.map D.p _).zip xs) (S2.perm List.perm_middle.symm)
  · obtain ⟨q, e1, e⟩ := bindS e
    have z := S.dp
    cases z
    split at e
    · cases e
      obtain ⟨a, xs, rfl, hx, hl, S1⟩ := S.drop.open
      obtain ⟨j, v, h1, h2, h3⟩ := ix_of hl e1
      refine .inl (.inl ⟨a, xs, _, v, rfl, rfl, .inl (.inl hx), h3, k _ _ ?_⟩)
      have S2 := SL.pick (L := (.c xs, .ref a) :: L) (S1.perm List.perm_middle.symm) h1 h2
      have S3 := SL.close (L := (_, v) :: L) hl (S2.perm ((List.Perm.cons _ List.perm_middle).trans ((List.Perm.swap _ _ _).trans (List.Perm.cons _ List.perm_middle.symm))))
      exact S3.perm (.swap _ _ _)
    · cases e
  · split at e
    · rename_i h
      obtain ⟨c, e1, rfl⟩ := mapS e
      have z := S.dp
      cases z
      have z := S.drop.dp
      cases z
      exact .inr ⟨_, _, c, rfl, rfl, h, e1, k _ _ (S.drop.flat fun _ => .str _)⟩
    · cases e
  · cases e
end
end GH
set_option exponentiation.threshold 100000
namespace GH
open PySem L2
/-! ### subscripts -/
section
variable {C : Cx} {a b : Expr} {es : List Expr} {f g : M} {fa : MA} {pos p : Pos} {i : Nat} {ls : List (Option Nat)}
theorem _root_.L2.IxR.used {o : D → D → Option D} (h : IxR C (okR C.K o)) : IxR C (okO C.K o) := h.gimp fun _ _ _ _ => okR_okO
theorem ee_ix (ha : PE C a (okE C.K f)) (hb : PE C b (okE C.K g)) (hs : PlainIx b) : PE C (.Subscript a b pos) (okE C.K (bin ixD f g)) := (pe_ix r_ix.used ha hb hs).gimp fun _ _ _ h => op_run h
/-- of a name -/
theorem ee_ixN {x : Str} (hv : PE C (.Name x p) (tVar i)) (hb : PE C b (okE C.K g)) (hs : PlainIx b) : PE C (.Subscript (.Name x p) b pos) (okE C.K (rdO ixD i g)) := (pe_ix r_ix hv hb hs).gimp fun _ _ _ h => rdO_run h
theorem ee_cmpN {op : CmpOp} {o : D → D → Option D} {x : Str} (ho : OpR C (compareOp op) (okR C.K o)) (hv : PE C (.Name x p) (tVar i)) (hb : PE C b (okE C.K g)) (hm : behindInMarks op b = false) : PE C (.Compare (.Name x p) [op] [b] pos) (okE C.K (rdO o i g)) :=
  (pe_cmpR ho hv hb hm).gimp fun _ _ _ h => rdO_run h
theorem et_cmpN {op : CmpOp} {o : D → D → Option D} {x : Str} (ho : OpR C (compareOp op) (okR C.K o)) (hv : PE C (.Name x p) (tVar i)) (hb : PE C b (okE C.K g)) (hm : behindInMarks op b = false) : PT C (.Compare (.Name x p) [op] [b] pos) (okT C.K (isT (rdO o i g))) :=
  (pt_cmpR ho hv hb hm).gimp fun σ H Q h => rdO_run (isT_run h)
/-- two comparisons in a chain -/
def chainM (o o' : D → D → Option D) (f g h : M) : M := fun Γ => (f Γ).bind fun r => (g r.2).bind fun s => match fz r.1, fz s.1 with
  | some q, some q' => (o (.p q) (.p q')).bind fun c => match c with
    | .p (.bool true) => (h s.2).bind fun t => (o' (.p q') t.1).map fun d => (d, t.2)
    | .p (.bool false) => some (.p (.bool false), s.2)
    | _ => none
  | _, _ => none
theorem chain_run {K : PySem.W.Frag} {o o' : D → D → Option D} {h : M} {σ : St} {H : Hp} {Q : VK} (w : okE K (chainM o o' f g h) σ H Q) : tChain (okO K o) (okO K o') (okE K f) (okE K g) (okE K h) σ H Q := by
  obtain ⟨Γ, X, d, Γ', F, S, e, k⟩ := w
  obtain ⟨⟨x, Γ1⟩, e1, e⟩ := bindS e
  obtain ⟨⟨y, Γ2⟩, e2, e⟩ := bindS e
  refine ⟨Γ, X, x, Γ1, F, S, e1, fun H1 v F1 S1 => ⟨Γ1, (x, v) :: X, y, _, F1, S1.perm List.perm_middle.symm, e2, fun H2 u F2 S2 => ?_⟩⟩
  dsimp only at e
  split at e
  · rename_i q q' eq eq'
    obtain ⟨c, e3, e⟩ := bindS e
    have S3 : SL K H2 ((.p q', u) :: (.p q, v) :: (slots Γ2 σ ++ X)) := by
      have z1 := (S2.perm (List.perm_middle.cons _)).frz eq'
      have z2 := (z1.perm (.swap _ _ _)).frz eq
      exact z2.perm (.swap _ _ _)
    have S4 : SL K H2 ((.p q', u) :: (.p q, v) :: (.p q', u) :: (slots Γ2 σ ++ X)) := S3.dup.perm (List.Perm.cons _ (.swap _ _ _))
    refine ⟨_, .p q, .p q', c, S4, e3, fun H3 z S5 => ?_⟩
    split at e
    · have zz := S5.dp
      cases zz
      refine ⟨true, rfl, ?_⟩
      rw [if_pos rfl]
      obtain ⟨⟨t, Γ3⟩, e4, e⟩ := bindS e
      obtain ⟨d', e5, e⟩ := mapS e
      cases e
      exact ⟨Γ2, (.p q', u) :: X, t, _, F2, S5.drop.perm List.perm_middle.symm, e4, fun H4 w F4 S6 => ⟨_, .p q', t, _, S6.perm (List.perm_middle.cons _), e5, fun H5 y S7 => k H5 y F4 S7⟩⟩
    · have zz := S5.dp
      cases zz
      refine ⟨false, rfl, ?_⟩
      rw [if_neg Bool.false_ne_true]
      cases e
      exact k H3 _ F2 (S5.drop.drop.flat fun _ => .bl _)
    · cases e
  · cases e
theorem ee_chain {op op' : CmpOp} {o o' : D → D → Option D} {c : Expr} {h : M} (ho : OpR C (compareOp op) (okO C.K o)) (ho' : OpR C (compareOp op') (okO C.K o')) (ha : PE C a (okE C.K f)) (hb : PE C b (okE C.K g)) (hc : PE C c (okE C.K h))
    (hm : lastMarks [op, op'] [b, c] = false := by with_unfolding_all rfl) : PE C (.Compare a [op, op'] [b, c] pos) (okE C.K (chainM o o' f g h)) := (pe_chain ho ho' ha hb hc hm).gimp fun _ _ _ w => chain_run w
theorem et_chain {op op' : CmpOp} {o o' : D → D → Option D} {c : Expr} {h : M} (ho : OpR C (compareOp op) (okO C.K o)) (ho' : OpR C (compareOp op') (okO C.K o')) (ha : PE C a (okE C.K f)) (hb : PE C b (okE C.K g)) (hc : PE C c (okE C.K h))
    (hm : lastMarks [op, op'] [b, c] = false := by with_unfolding_all rfl) : PT C (.Compare a [op, op'] [b, c] pos) (okT C.K (isT (chainM o o' f g h))) := (pt_chain ho ho' ha hb hc hm).gimp fun σ H Q w => chain_run (isT_run w)
/-! ### slices -/
def partD : Option D → Option (Option Int)
  | none => some none
  | some (.p (.int i)) => some (some i)
  | some (.p .none) => some none
  | _ => none
def cutL {α : Type} (xs : List α) (lo hi : Option Int) : List α := (xs.drop (HT.sIx xs.length 0 lo)).take (HT.sIx xs.length xs.length hi - HT.sIx xs.length 0 lo)
theorem cutL_V (xs : List V) (lo hi : Option Int) : cutV xs lo hi = cutL xs lo hi := rfl
end
/-! ### calls of built-ins by one value that stays -/
def okK (K : PySem.W.Frag) (o : D → Option D) : List V → Hp → VK → Prop := fun vs H Q => ∃ L dx x d, vs = [x] ∧ SL K H ((dx, x) :: L) ∧ o dx = some d ∧ ∀ H' v, SL K H' ((d, v) :: (dx, x) :: L) → Q v H'
def un1 (o : D → Option D) : List D → Option D := fun ds => match ds with | [d] => o d | _ => none
section
variable {C : Cx} {a b : Expr} {es : List Expr} {f g : M} {fa : MA} {pos p : Pos} {i : Nat} {ls : List (Option Nat)}
theorem _root_.L2.CallR.used {f : Value} {o : D → Option D} (h : CallR C f (okK C.K o)) : CallR C f (okC C.K (un1 o)) := h.gimp fun vs H Q ⟨L, ds, d, hl, S, e, k⟩ => by
  unfold un1 at e
  split at e
  · rename_i dx
    match vs, hl, S with
    | [x], _, S => exact ⟨L, dx, x, d, rfl, S, e, fun H' v S' => k H' v ((S'.perm (.swap _ _ _)).drop)⟩
  · cases e
theorem rdU_run {K : PySem.W.Frag} {o : D → Option D} {σ : St} {H : Hp} {Q : VK} {r : List V → Hp → VK → Prop} (h : okE K (rdU o i) σ H Q) (hr : ∀ xs H Q, okK K o xs H Q → r xs H Q) : tCB r (tCons (tVar i) tNil) σ H Q := by
  obtain ⟨Γ, X, d, Γ', F, S, e, k⟩ := h
  unfold rdU at e
  split at e
  · rename_i x ex
    obtain ⟨d', e1, e⟩ := mapS e
    cases e
    obtain ⟨v, hv, S1⟩ := S.take F ex
    refine ⟨v, hv, hr _ _ _ ⟨_, x, v, _, rfl, S1, e1, fun H' w S2 => k H' w F ?_⟩⟩
    have hi : i < Γ.length := (List.getElem?_eq_some_iff.mp ex).1
    have S3 := SL.back (i := i) (X := (_, w) :: X) ((S2.perm (.swap _ _ _)).perm (List.perm_middle.symm.cons _)) (get_set hi) hv
    rw [List.set_set, set_same ex] at S3
    exact S3.perm List.perm_middle
  · cases e
/-- f(x), x a name -/
theorem ee_callBN {x y : Str} {id : String} {o : D → Option D} {p2 : Pos} (hc : CallR C (.builtin id) (okK C.K o)) (hg : Gl C x) (hm : C.mg x = none) (hv : bootBuiltins x = some (.builtin id)) (hy : PE C (.Name y p2) (tVar i)) (hn : x ≠ "__name__" := by decide) (hdb : (x == ("__debug__" : Str)) = false := by decide)
    (hs : starEach [.Name y p2] C.env = (false, eval (.Name y p2) C.env) :: starEach [] C.env := by rfl) (hpl : (backTo pos (starEach [] C.env)).any (·.1) = false := by rfl) : PE C (.Call (.Name x p) [.Name y p2] [] pos) (okE C.K (rdU o i)) :=
  (pe_callB hc hg hm hv (pa_cons hy pa_nil hs) hn hdb hs hpl).gimp fun _ _ _ h => rdU_run h fun _ _ _ z => z
theorem ee_callTN {x y : Str} {T : String} {o : D → Option D} {p2 : Pos} (hc : CallR C (.type T) (okK C.K o)) (hg : Gl C x) (hm : C.mg x = none) (hv : bootBuiltins x = some (.type T)) (hy : PE C (.Name y p2) (tVar i)) (hn : x ≠ "__name__" := by decide) (hdb : (x == ("__debug__" : Str)) = false := by decide)
    (hs : starEach [.Name y p2] C.env = (false, eval (.Name y p2) C.env) :: starEach [] C.env := by rfl) (hpl : (backTo pos (starEach [] C.env)).any (·.1) = false := by rfl) : PE C (.Call (.Name x p) [.Name y p2] [] pos) (okE C.K (rdU o i)) :=
  (pe_callTy hc hg hm hv (pa_cons hy pa_nil hs) hn hdb hs hpl).gimp fun _ _ _ h => rdU_run h fun _ _ _ z => z
/-- f(e, ..), f a name of the module for a built-in function -/
theorem ee_callF {x : Str} {id : String} {o : List D → Option D} (hc : CallR C (.builtin id) (okC C.K o)) (hg : Gl C x) (hm : C.mg x = some (.builtin id)) (ha : PA C (a :: es) (okA C.K ls fa)) (hdb : (x == ("__debug__" : Str)) = false := by decide)
    (he : starEach (a :: es) C.env = (false, eval a C.env) :: starEach es C.env := by rfl) (hpl : (backTo pos (starEach es C.env)).any (·.1) = false := by rfl) : PE C (.Call (.Name x p) (a :: es) [] pos) (okE C.K (appD o fa)) :=
  (pe_callBfun hc hg hm ha hdb he hpl).gimp fun _ _ _ h => app_run h
/-! the built-ins -/
def lenD : D → Option D
  | .p (.tuple ds) => some (.p (.int ds.length))
  | .p (.list ds) => some (.p (.int ds.length))
  | .p (.str s) => if s.length ≤ sizeLine then some (.p (.int s.length)) else none
  | .l xs => some (.p (.int xs.length))
  | _ => none
theorem c_len : CallR C (.builtin "len") (okK C.K lenD) := (call_len_seq.galt call_len).gimp fun vs H Q ⟨L, dx, x, d, ev, S, e, k⟩ => by
  subst ev
  unfold lenD at e
  split at e
  · cases e
    obtain ⟨a, xs, rfl, hx, hl, _⟩ := S.items
    exact .inl ⟨a, xs, rfl, .inr hx, k _ _ (by rw [hl]; exact S.flat fun _ => .int _)⟩
  · cases e
    obtain ⟨a, xs, rfl, hx, hl, _⟩ := S.itemsL
    exact .inl ⟨a, xs, rfl, .inl hx, k _ _ (by rw [hl]; exact S.flat fun _ => .int _)⟩
  · split at e
    · rename_i h
      cases e
      have z := S.dp
      cases z
      exact .inr ⟨_, _, rfl, ⟨h, rfl⟩, k _ _ (S.flat fun _ => .int _)⟩
    · cases e
  · cases e
    obtain ⟨a, xs, rfl, hx, hl, _⟩ := S.open
    exact .inl ⟨a, xs, rfl, .inl (.inl (.inl hx)), k _ _ (by rw [hl]; exact S.flat fun _ => .int _)⟩
  · cases e
def absD : D → Option D
  | .p (.int i) => some (.p (.int (i.natAbs : Int)))
  | _ => none
theorem c_abs : CallR C (.builtin "abs") (okK C.K absD) := call_abs.gimp fun vs H Q ⟨L, dx, x, d, ev, S, e, k⟩ => by
  subst ev
  unfold absD at e
  split at e
  · cases e
    have z := S.dp
    cases z
    have : ∀ i : Int, (if i < 0 then -i else i) = (i.natAbs : Int) := fun i => by split <;> omega
    exact ⟨_, rfl, by rw [this]; exact k _ _ (S.flat fun _ => .int _)⟩
  · cases e
def intD : D → Option D
  | .p (.int i) => some (.p (.int i))
  | .p (.bool b) => some (.p (.int (if b then 1 else 0)))
  | .p (.str a) => if a.length ≤ 640 then (PySem.intText? a).map fun n => .p (.int n) else none
  | _ => none
theorem c_int : CallR C (.type "int") (okK C.K intD) := (call_int1.galt call_int_str).gimp fun vs H Q ⟨L, dx, x, d, ev, S, e, k⟩ => by
  subst ev
  unfold intD at e
  split at e
  · cases e
    have z := S.dp
    cases z
    exact .inl (.inl ⟨_, rfl, k _ _ (S.flat fun _ => .int _)⟩)
  · cases e
    have z := S.dp
    cases z
    exact .inl (.inr ⟨_, rfl, k _ _ (S.flat fun _ => .int _)⟩)
  · split at e
    · rename_i h
      obtain ⟨n, en, rfl⟩ := mapS e
      have z := S.dp
      cases z
      exact .inr ⟨_, n, rfl, en, h, k _ _ (S.flat fun _ => .int _)⟩
    · cases e
  · cases e
def gcdD : List D → Option D
  | [.p (.int i), .p (.int j)] => some (.p (.int (Nat.gcd i.natAbs j.natAbs : Nat)))
  | _ => none
theorem argInts {K : PySem.W.Frag} {H : Hp} {L : List (D × V)} {i j : Int} {vs : List V} (hl : [D.p (.int i), D.p (.int j)].length = vs.length) (S : SL K H ([D.p (.int i), D.p (.int j)].zip vs ++ L)) : vs = [.int i, .int j] ∧ SL K H L := by
  match vs, hl, S with
  | [x, y], _, S =>
    have S' : SL K H ((.p (.int i), x) :: (.p (.int j), y) :: L) := S
    have a := S'.dp
    have b := S'.drop.dp
    cases a
    cases b
    exact ⟨rfl, S'.drop.drop⟩
theorem c_gcd : CallR C (.builtin "math.gcd") (okC C.K gcdD) := cr_gcd.gimp fun vs H Q ⟨L, ds, d, hl, S, e, k⟩ => by
  unfold gcdD at e
  split at e
  · cases e
    obtain ⟨rfl, S'⟩ := argInts hl S
    exact ⟨_, _, rfl, k _ _ (S'.flat fun _ => .int _)⟩
  · cases e
def lcmOk (i j : Int) : Bool := decide (i.natAbs.log2 < 13000) && decide (j.natAbs.log2 < 13000)
def lcmD : List D → Option D
  | [.p (.int i), .p (.int j)] => if lcmOk i j = true then some (.p (.int (Nat.lcm i.natAbs j.natAbs : Nat))) else none
  | _ => none
theorem log2_pow {n k : Nat} (h : n.log2 < k) : n < 2 ^ k := by
  by_cases h0 : n = 0
  · subst h0
    exact Nat.two_pow_pos _
  · exact (Nat.log2_lt h0).mp h
theorem pow_log2 {n k : Nat} (h0 : 0 < k) (h : n < 2 ^ k) : n.log2 < k := PySem.Flt.log2_lt_of h0 h
theorem cr_lcm : CallR C (.builtin "math.lcm") (fun vs H Q => ∃ a b : Int, vs = [.int a, .int b] ∧ lcmOk a b = true ∧ Q (.int (Nat.lcm a.natAbs b.natAbs : Nat)) H) := by
  intro pins s σ H vs us Q I r h
  obtain ⟨a, b, rfl, hc, q⟩ := h
  obtain ⟨t, u, rfl⟩ := Vals.int2 r
  unfold lcmOk at hc
  simp only [Bool.and_eq_true, decide_eq_true_eq] at hc
  have ha := log2_pow hc.1
  have hb := log2_pow hc.2
  have m1 : (max 1 a.natAbs) < 2 ^ 13000 := by
    have : 1 < 2 ^ 13000 := Nat.one_lt_two_pow (by omega)
    omega
  have m2 : (max a.natAbs b.natAbs) < 2 ^ 13000 := by omega
  have l1 := pow_log2 (by omega) m1
  have l2 := pow_log2 (by omega) m2
  have hz : (Nat.lcm a.natAbs b.natAbs).log2 < bitsLine := by
    have h3 : Nat.lcm a.natAbs b.natAbs < 2 ^ 26000 := Nat.lt_of_le_of_lt (PySem.W.mc_lcm_le _ _) (by
      have : (2 : Nat) ^ 26000 = 2 ^ 13000 * 2 ^ 13000 := by rw [← Nat.pow_add]
      rw [this]
      exact Nat.mul_lt_mul'' ha hb)
    have h4 := pow_log2 (by omega) h3
    have e : bitsLine = 134217728 := by decide
    rw [e]
    omega
  refine call_function_meets PySem.W.MGF.kind_lcm PySem.W.MGF.plain_lcm PySem.W.MGF.entry_lcm (PySem.W.MGF.args_lcm _ _) (PySem.W.mg_run_lcm a t b u (by omega) (by omega) (by rw [PySem.W.mc_lcm_one]; exact hz)).meets ?_
  rw [PySem.W.mc_lcm_one]
  exact ⟨.int _, H, I.tok _, ⟨_, rfl⟩, q⟩
theorem c_lcm : CallR C (.builtin "math.lcm") (okC C.K lcmD) := cr_lcm.gimp fun vs H Q ⟨L, ds, d, hl, S, e, k⟩ => by
  unfold lcmD at e
  split at e
  · split at e
    · rename_i h
      cases e
      obtain ⟨rfl, S'⟩ := argInts hl S
      exact ⟨_, _, rfl, h, k _ _ (S'.flat fun _ => .int _)⟩
    · cases e
  · cases e
/-! repr, of integers below 2 ^ 12900 -/
mutual
def bigS : PyData → Bool
  | .int i => decide (i.natAbs.log2 < 12900)
  | .list xs => bigSs xs
  | .tuple xs => bigSs xs
  | .dict kvs => bigKv kvs
  | _ => true
def bigSs : List PyData → Bool
  | [] => true
  | x :: xs => bigS x && bigSs xs
def bigKv : List (PyData × PyData) → Bool
  | [] => true
  | (k, v) :: r => bigS k && bigS v && bigKv r
end
theorem bigKv_split : ∀ kvs : List (PyData × PyData), bigKv kvs = true → bigSs (kvs.map (·.1)) = true ∧ bigSs (kvs.map (·.2)) = true
  | [], _ => ⟨rfl, rfl⟩
  | (k, v) :: r, h => by
    rw [bigKv, Bool.and_eq_true, Bool.and_eq_true] at h
    obtain ⟨a, b⟩ := bigKv_split r h.2
    exact ⟨by rw [List.map_cons, bigSs, h.1.1, a]; rfl, by rw [List.map_cons, bigSs, h.1.2, b]; rfl⟩
/-! reading, no dict being that of the modules -/
mutual
inductive Rq (hp : Heap) : Value → PyData → List Addr → Prop
  | none : Rq hp .none .none []
  | bool (b : Bool) : Rq hp (.bool b) (.bool b) []
  | int (i : Int) (t : Tok) : Rq hp (.int i t) (.int i) []
  | str (x : Str) (t : Tok) : Rq hp (.str x t) (.str x) []
  | list {a : Addr} {o : Obj} {vs : Array Value} {n : Nat} {xs : List PyData} {as : List Addr} : hp.get? a = some o → o.cls = .type "list" → o.data = .seq vs n → RqAll hp vs.toList xs as → Rq hp (.ref a) (.list xs) (a :: as)
  | tuple {a : Addr} {o : Obj} {vs : Array Value} {n : Nat} {xs : List PyData} {as : List Addr} : hp.get? a = some o → o.cls = .type "tuple" → o.data = .seq vs n → RqAll hp vs.toList xs as → Rq hp (.ref a) (.tuple xs) as
  | dict {a : Addr} {o : Obj} {es : Array DictEntry} {n : Nat} {kvs : List (PyData × PyData)} {as bs : List Addr} : hp.get? a = some o → o.cls = .type "dict" → o.data = .dict es n → RqAll hp (es.toList.map (·.key)) (kvs.map (·.1)) as →
      RqAll hp (es.toList.map (·.val)) (kvs.map (·.2)) bs → (a == sysModules) = false → Rq hp (.ref a) (.dict kvs) (a :: as ++ bs)
inductive RqAll (hp : Heap) : List Value → List PyData → List Addr → Prop
  | nil : RqAll hp [] [] []
  | cons {v : Value} {vs : List Value} {d : PyData} {ds : List PyData} {as bs : List Addr} : Rq hp v d as → RqAll hp vs ds bs → RqAll hp (v :: vs) (d :: ds) (as ++ bs)
end
mutual
theorem Rq.to {h : Heap} : ∀ {v : Value} {d : PyData} {as : List Addr}, Rq h v d as → Reads h v d as
  | _, _, _, .none => .none
  | _, _, _, .bool b => .bool b
  | _, _, _, .int i t => .int i t
  | _, _, _, .str x t => .str x t
  | _, _, _, .list h1 h2 h3 h4 => .list h1 h2 h3 (RqAll.to h4)
  | _, _, _, .tuple h1 h2 h3 h4 => .tuple h1 h2 h3 (RqAll.to h4)
  | _, _, _, .dict h1 h2 h3 h4 h5 _ => .dict h1 h2 h3 (RqAll.to h4) (RqAll.to h5)
theorem RqAll.to {h : Heap} : ∀ {vs : List Value} {ds : List PyData} {as : List Addr}, RqAll h vs ds as → ReadsAll h vs ds as
  | _, _, _, .nil => .nil
  | _, _, _, .cons r rs => .cons (Rq.to r) (RqAll.to rs)
end
theorem big_lt {i : Int} (h : i.natAbs.log2 < 12900) : i.natAbs < 10 ^ 4300 := Nat.lt_of_lt_of_le (PyProof.Rows.lt_of_log2 h) PyProof.Rows.pow_lo
open PyProof.Rows PySem.Builtin in
theorem big_int {P : Program} {w : World} {A : Around} {E : Value → Shared → Prop} {s : Shared} {i : Int} {t : Tok} {Q : Value → Shared → Prop} (hn : s.heap.NoDigits) (hi : i.natAbs < 10 ^ 4300)
    (k : Q (.str (toString i) s.toks) { s with toks := s.toks + 1 }) : wpAny (model P w) A (PySem.call (.builtin "int.__repr__") [.int i t]) Q E s := by
  refine PySem.wpAny_call_entry F.slot_int_repr (typeIs_int s i t) F.entry_int_repr ?_ (F.args_int_repr_1 _)
  unfold PySem.Builtin.«int.__repr__»
  show wpAny _ _ (do let z ← overDigitLimit? i; _) _ _ s
  exact wpAny_bind (overDigitLimit_any hn (fun h1 => wpAny_bind (wpAny_mkStr (wpAny_pure ⟨_, rfl, k⟩) (int_text_fits10 h1))) fun h2 => absurd hi (Nat.not_lt.mpr h2))
section
variable {P : Program} {w : World} {h0 : Heap}
theorem rk_int {i : Int} {t : Tok} (hN : h0.NoDigits) (hi : i.natAbs < 10 ^ 4300) (as : List Addr) (d : Nat) : ReprK P w as h0 d (.int i t) (toString i) := by
  intro base hb A g E s Q _ _ hu hk k
  rw [pyReprUnder_leaf (v := .int i t) (by omega) (fun _ e => nomatch e)]
  unfold pyRepr
  refine wpAny_bind (wpAny_pyReprObj_slot (by omega) (typeIs_int s i t) F.slot_int_repr.toG ?_)
  exact big_int (hN.keeps hk) hi ⟨_, _, rfl, wpAny_pure (k _ _ fun _ _ e => e)⟩
mutual
theorem rk_of (hN : h0.NoDigits) : ∀ {v : Value} {d : PyData} {as : List Addr}, Rq h0 v d as → bigS d = true → d.shown.length ≤ sizeLine →
    ∃ bs, ReadAtMost h0 d.depth bs ∧ ReprK P w bs h0 d.depth v d.shown
  | _, _, _, .none, _, _ => by
    refine ⟨[], fun _ z => (nomatch z), ?_⟩
    rw [PyData.shown]
    exact ReprK.of_is ReprIs.none _ _ _
  | _, _, _, .bool b, _, _ => by
    refine ⟨[], fun _ z => (nomatch z), ?_⟩
    rw [PyData.shown]
    exact ReprK.of_is (ReprIs.bool b) _ _ _
  | _, _, _, .int i t, hs, _ => by
    refine ⟨[], fun _ z => (nomatch z), ?_⟩
    rw [PyData.shown]
    exact rk_int hN (big_lt (by simpa only [bigS, decide_eq_true_eq] using hs)) _ _
  | _, _, _, .str x t, _, hz => by
    refine ⟨[], fun _ z => (nomatch z), ?_⟩
    rw [PyData.shown] at hz ⊢
    exact ReprK.of_is (ReprIs.str x t hz) _ _ _
  | _, _, _, .list (a := a) (vs := vs) (xs := xs) h1 h2 h3 h4, hs, hz => by
    rw [PyData.shown] at hz
    obtain ⟨bs, hb, hk⟩ := rks_of hN h4 (by simpa only [bigS] using hs) (fun t ht => Nat.le_trans (listText_mem_le ht) hz)
    have r : Reads h0 (.ref a) (.list xs) _ := (Rq.list h1 h2 h3 h4).to
    have lt : xs.length = xs.length := rfl
    have na : a ∉ bs := not_mem_of_deeper r (by rw [PyData.depth]; omega) hb
    refine ⟨a :: bs, ReadAtMost.cons r (Nat.le_refl _) (fun b z => ?_), ?_⟩
    · obtain ⟨d', as', r', hd'⟩ := hb b z
      exact ⟨d', as', r', by rw [PyData.depth]; omega⟩
    · rw [PyData.depth, PyData.shown]
      match vs, h3, h4, hk with
      | ⟨[]⟩, h3, h4, _ =>
        have h4' : RqAll h0 [] xs _ := h4
        cases h4'
        rw [PyData.shownAll, listText_nil]
        exact ReprK.listEmpty h1 h2 h3
      | ⟨x :: l⟩, h3, h4, hk => exact ReprK.list h1 h2 h3 na (by simpa using hk.length_eq) fun i y e => hk.item i y (by simpa using e)
  | _, _, _, .tuple (a := a) (xs := xs) h1 h2 h3 h4, hs, hz => by
    rw [PyData.shown] at hz
    obtain ⟨bs, hb, hk⟩ := rks_of hN h4 (by simpa only [bigS] using hs) (fun t ht => Nat.le_trans (tupleText_mem_le ht) hz)
    have r : Reads h0 (.ref a) (.tuple xs) _ := (Rq.tuple h1 h2 h3 h4).to
    have na : a ∉ bs := not_mem_of_deeper r (by rw [PyData.depth]; omega) hb
    refine ⟨a :: bs, ReadAtMost.cons r (Nat.le_refl _) (fun b z => ?_), ?_⟩
    · obtain ⟨d', as', r', hd'⟩ := hb b z
      exact ⟨d', as', r', by rw [PyData.depth]; omega⟩
    · rw [PyData.depth, PyData.shown]
      exact ReprK.tuple h1 h2 h3 na hk
  | _, _, _, .dict (a := a) (es := es) (kvs := kvs) h1 h2 h3 h4 h5 hsys, hs, hz => by
    have hz' : (dictText (PyData.shownKv kvs)).length ≤ sizeLine := by simpa only [PyData.shown] using hz
    obtain ⟨hs1, hs2⟩ := bigKv_split kvs (by simpa only [bigS] using hs)
    obtain ⟨b1, hb1, k1⟩ := rks_of hN h4 hs1 (fun t ht => let ⟨p, hp, hl⟩ := PyData.shownKv_key_le kvs t ht; Nat.le_trans hl (Nat.le_trans (dictText_mem_le hp) hz'))
    obtain ⟨b2, hb2, k2⟩ := rks_of hN h5 hs2 (fun t ht => let ⟨p, hp, hl⟩ := PyData.shownKv_val_le kvs t ht; Nat.le_trans hl (Nat.le_trans (dictText_mem_le hp) hz'))
    have r : Reads h0 (.ref a) (.dict kvs) _ := (Rq.dict h1 h2 h3 h4 h5 hsys).to
    have hb : ReadAtMost h0 (PyData.depthKv kvs) (b1 ++ b2) := (hb1.mono (PyData.depthAll_keys_le kvs)).append (hb2.mono (PyData.depthAll_vals_le kvs))
    have hna : a ∉ b1 ++ b2 := not_mem_of_deeper r (by simp only [PyData.depth]; omega) hb
    refine ⟨a :: (b1 ++ b2), ReadAtMost.cons r (by simp only [PyData.depth]; omega) hb, ?_⟩
    simp only [PyData.depth, PyData.shown, PyData.shownKv_eq]
    exact ReprK.dict h1 h2 h3 hsys hna (ReprEntriesK.of_two es.toList _ _
      (k1.more_le (fun b hb => List.mem_append_left _ hb) (PyData.depthAll_keys_le kvs)) (k2.more_le (fun b hb => List.mem_append_right _ hb) (PyData.depthAll_vals_le kvs)))
theorem rks_of (hN : h0.NoDigits) : ∀ {vs : List Value} {ds : List PyData} {as : List Addr}, RqAll h0 vs ds as → bigSs ds = true → (∀ t ∈ PyData.shownAll ds, t.length ≤ sizeLine) →
    ∃ bs, ReadAtMost h0 (PyData.depthAll ds) bs ∧ ReprAllK P w bs h0 (PyData.depthAll ds) vs (PyData.shownAll ds)
  | _, _, _, .nil, _, _ => by
    refine ⟨[], fun _ z => (nomatch z), ?_⟩
    rw [PyData.shownAll]
    exact .nil
  | _, _, _, .cons (d := d) (ds := ds) r rs, hs, hz => by
    rw [bigSs, Bool.and_eq_true] at hs
    obtain ⟨b1, hb1, k1⟩ := rk_of hN r hs.1 (hz _ (by rw [PyData.shownAll]; exact List.mem_cons_self))
    obtain ⟨b2, hb2, k2⟩ := rks_of hN rs hs.2 (fun t ht => hz t (by rw [PyData.shownAll]; exact List.mem_cons_of_mem _ ht))
    rw [PyData.depthAll, PyData.shownAll]
    refine ⟨b1 ++ b2, fun b z => ?_, .cons ((k1.more fun b hb => List.mem_append_left _ hb).level_le (Nat.le_max_left _ _)) (k2.more_le (fun b hb => List.mem_append_right _ hb) (Nat.le_max_right _ _))⟩
    rcases List.mem_append.mp z with z | z
    · obtain ⟨d', as', r', hd'⟩ := hb1 b z
      exact ⟨d', as', r', by omega⟩
    · obtain ⟨d', as', r', hd'⟩ := hb2 b z
      exact ⟨d', as', r', by omega⟩
end
theorem repr_big {A : Around} {E : Value → Shared → Prop} {s : Shared} {Q : Value → Shared → Prop} {v : Value} {d : PyData} {as : List Addr} (hN : s.heap.NoDigits) (r : Rq s.heap v d as) (hs : bigS d = true) (hz : d.shown.length ≤ sizeLine) (hg : A.guards = some []) (hu : A.units + (d.depth + 1) < cLine)
    (k : ∀ h' u tk, (∀ b o, s.heap.get? b = some o → h'.get? b = some o) → Q (.str d.shown u) { s with heap := h', toks := tk }) : wpAny (model P w) A (PySem.call (.builtin "repr") [v]) Q E s := by
  cases r with
  | none =>
    rw [PyData.shown] at k
    exact PySem.P.repr_of_none (k _ _ _ fun _ _ e => e)
  | bool b =>
    rw [PyData.shown] at k
    exact PySem.P.repr_of_bool (k _ _ _ fun _ _ e => e)
  | int i t =>
    rw [PyData.shown] at k
    exact call_repr_slot (by omega) (typeIs_int s i t) F.slot_int_repr.toG (big_int hN (big_lt (by simpa only [bigS, decide_eq_true_eq] using hs)) ⟨_, _, rfl, k _ _ _ fun _ _ e => e⟩)
  | str x t =>
    rw [PyData.shown] at k hz
    exact PySem.P.repr_of_str (k _ _ _ fun _ _ e => e) hz
  | dict h1 h2 h3 h4 h5 hsys =>
    rename_i a o es n kvs as1 bs1
    have hz' : (dictText (PyData.shownKv kvs)).length ≤ sizeLine := by simpa only [PyData.shown] using hz
    obtain ⟨hs1, hs2⟩ := bigKv_split kvs (by simpa only [bigS] using hs)
    obtain ⟨b1, hb1, k1⟩ := rks_of (P := P) (w := w) hN h4 hs1 (fun t ht => let ⟨p, hp, hl⟩ := PyData.shownKv_key_le kvs t ht; Nat.le_trans hl (Nat.le_trans (dictText_mem_le hp) hz'))
    obtain ⟨b2, hb2, k2⟩ := rks_of (P := P) (w := w) hN h5 hs2 (fun t ht => let ⟨p, hp, hl⟩ := PyData.shownKv_val_le kvs t ht; Nat.le_trans hl (Nat.le_trans (dictText_mem_le hp) hz'))
    have r : Reads s.heap (.ref a) (.dict kvs) _ := (Rq.dict h1 h2 h3 h4 h5 hsys).to
    have hb : ReadAtMost s.heap (PyData.depthKv kvs) (b1 ++ b2) := (hb1.mono (PyData.depthAll_keys_le kvs)).append (hb2.mono (PyData.depthAll_vals_le kvs))
    have hna : a ∉ b1 ++ b2 := not_mem_of_deeper r (by simp only [PyData.depth]; omega) hb
    rw [PyData.depth] at hu
    have kk : ∀ h' u tk, (∀ b o, s.heap.get? b = some o → h'.get? b = some o) → Q (.str (dictText (PyData.shownKv kvs)) u) { s with heap := h', toks := tk } := by simpa only [PyData.shown] using k
    rw [PyData.shownKv_eq] at kk hz'
    exact call_repr_slot (by omega) ⟨o, h1, h2⟩ F.slot_dict_repr (call_dict_reprK h1 h2 h3 hsys hna (ReprEntriesK.of_two es.toList _ _
      (k1.more_le (fun b hb => List.mem_append_left _ hb) (PyData.depthAll_keys_le kvs)) (k2.more_le (fun b hb => List.mem_append_right _ hb) (PyData.depthAll_vals_le kvs))) (A := A.in1) hg (fun b _ => Clear.nil b) (by show A.units + 1 + _ < cLine; omega) (fun _ _ e => e) (fun h' u tk z => ⟨_, _, rfl, kk h' u tk z⟩) hz')
  | tuple h1 h2 h3 h4 =>
    rename_i a o vs n xs
    rw [PyData.shown] at hz k
    obtain ⟨bs, hb, hk⟩ := rks_of (P := P) (w := w) hN h4 (by simpa only [bigS] using hs) (fun t ht => Nat.le_trans (tupleText_mem_le ht) hz)
    have na : a ∉ bs := not_mem_of_deeper (Rq.tuple h1 h2 h3 h4).to (by rw [PyData.depth]; omega) hb
    rw [PyData.depth] at hu
    exact call_repr_slot (by omega) ⟨o, h1, h2⟩ F.slot_tuple_repr (call_tuple_reprK h1 h2 h3 na hk (A := A.in1) hg (fun b _ => Clear.nil b) (by show A.units + 1 + _ < cLine; omega) (fun _ _ e => e) (fun h' u tk z => ⟨_, _, rfl, k h' u tk z⟩) hz)
  | list h1 h2 h3 h4 =>
    rename_i a o vs n xs bs0
    rw [PyData.shown] at hz k
    obtain ⟨bs, hb, hk⟩ := rks_of (P := P) (w := w) hN h4 (by simpa only [bigS] using hs) (fun t ht => Nat.le_trans (listText_mem_le ht) hz)
    have na : a ∉ bs := not_mem_of_deeper (Rq.list h1 h2 h3 h4).to (by rw [PyData.depth]; omega) hb
    rw [PyData.depth] at hu
    refine call_repr_slot (by omega) ⟨o, h1, h2⟩ F.slot_list_repr.toG ?_
    match vs, h3, h4, hk with
    | ⟨[]⟩, h3, h4, _ =>
      have h4' : RqAll s.heap [] xs _ := h4
      cases h4'
      rw [PyData.shownAll, listText_nil] at k
      exact call_list_repr_empty (A := A.in1) ⟨o, h1, h2⟩ h1 h3 ⟨_, _, rfl, k s.heap _ _ fun _ _ e => e⟩
    | ⟨x :: l⟩, h3, h4, hk => exact call_list_reprK (A := A.in1) h1 h2 h3 na (by simpa using hk.length_eq) (fun i y e => hk.item i y (by simpa using e)) hg (fun b _ => Clear.nil b) (by show A.units + 1 + _ < cLine; omega) (fun _ _ e => e) (fun h' u tk z => ⟨_, _, rfl, k h' u tk z⟩) hz
end
def reprOk (q : PyData) : Bool := bigS q && decide (q.shown.length ≤ sizeLine) && decide (q.depth ≤ 60)
def reprD (d : D) : Option D := (fz d).bind fun q => if reprOk q = true then some (.p (.str q.shown)) else none
section
variable {X : Cx} {pins : List (Addr × Obj)} {σ : St} {H : Hp} {s : Shared}
theorem kD_reads {P : Program} {w : World} {h : Heap} {k : Key} {v : Value} (p : (mixKind P w).is k v = true) : ∃ as, Rq h v (kD k) as := by
  rcases keyIs_shape p with ⟨i, t, rfl, rfl⟩ | ⟨x, t, rfl, rfl⟩
  · exact ⟨_, .int i t⟩
  · exact ⟨_, .str x t⟩
mutual
theorem Dq.reads (I : Inv X pins σ H s) : ∀ {d : PyData} {v : V} {u : Value}, Dq X.K H v d → RelV v u → ∃ as, Rq s.heap u d as
  | _, _, _, .non, r => by cases r; exact ⟨_, .none⟩
  | _, _, _, .bl b, r => by cases r; exact ⟨_, .bool b⟩
  | _, _, _, .int i, r => by obtain ⟨t, rfl⟩ := r; exact ⟨_, .int i t⟩
  | _, _, _, .str x, r => by obtain ⟨t, rfl⟩ := r; exact ⟨_, .str x t⟩
  | _, _, _, .lst hs ha, r => by
    cases r
    obtain ⟨its, rv, ⟨o, n, ho, hc, _, hd⟩, _⟩ := I.list hs
    obtain ⟨as, hr⟩ := Dq.readsAll I ha rv
    exact ⟨_, .list ho hc hd hr⟩
  | _, _, _, .tup hs ha, r => by
    cases r
    obtain ⟨its, rv, ⟨o, ho, hc, n, hd⟩, _⟩ := I.tuple hs
    obtain ⟨as, hr⟩ := Dq.readsAll I ha rv
    exact ⟨_, .tuple ho hc hd hr⟩
  | _, _, _, .dct hr hk, r => by
    cases r
    obtain ⟨_, hsys, vs, kv, o, es, ep, ho, hx, hd, _, hp, _⟩ := hr.ok I.hok
    obtain ⟨as, bs, h1, h2⟩ := Dq.readsK I hk kv hp
    exact ⟨_, .dict ho hx.1 hd h1 h2 hsys⟩
theorem Dq.readsAll (I : Inv X pins σ H s) : ∀ {ds : List PyData} {vs : List V} {us : List Value}, DqAll X.K H vs ds → Vals vs us → ∃ as, RqAll s.heap us ds as
  | _, _, _, .nil, r => by cases r; exact ⟨_, .nil⟩
  | _, _, _, .cons h1 h2, r => by
    cases r with
    | cons r1 r2 =>
      obtain ⟨as, q1⟩ := Dq.reads I h1 r1
      obtain ⟨bs, q2⟩ := Dq.readsAll I h2 r2
      exact ⟨_, .cons q1 q2⟩
theorem Dq.readsK (I : Inv X pins σ H s) : ∀ {ds : List (PyData × PyData)} {ks : List (Key × V)} {us : List (Key × Value)} {es : List DictEntry}, DqK X.K H ks ds → KV ks us → Pairs (mixKind X.prog X.w) es us →
    ∃ as bs, RqAll s.heap (es.map (·.key)) (ds.map (·.1)) as ∧ RqAll s.heap (es.map (·.val)) (ds.map (·.2)) bs
  | _, _, _, _, .nil, r, p => by
    cases r
    cases p
    exact ⟨_, _, .nil, .nil⟩
  | _, _, _, _, .cons h1 h2, r, p => by
    cases r with
    | cons r1 r2 =>
      cases p with
      | cons p1 p2 p3 =>
        obtain ⟨as, bs, q1, q2⟩ := Dq.readsK I h2 r2 p3
        obtain ⟨e1, e2⟩ := r1
        obtain ⟨cs, q3⟩ := Dq.reads I h1 e2
        rw [← p2] at q3
        rw [← e1] at p1
        obtain ⟨fs, q4⟩ := kD_reads p1
        exact ⟨_, _, .cons q4 q1, .cons q3 q2⟩
end
end
theorem call_reprG (hg : C.A.guards = some []) (hu : C.A.units + 64 < cLine) (hN : C.base.NoDigits) : CallR C (.builtin "repr") (fun vs H Q => ∃ x q, vs = [x] ∧ Dq C.K H x q ∧ reprOk q = true ∧ Q (.str q.shown) H) := by
  intro pins s σ H vs us Q I r h
  obtain ⟨x, q, rfl, hd, ho, hq⟩ := h
  obtain ⟨u, rfl, rx⟩ := vals1 r
  unfold reprOk at ho
  simp only [Bool.and_eq_true, decide_eq_true_eq] at ho
  obtain ⟨⟨h1, h3⟩, h4⟩ := ho
  obtain ⟨as, rd⟩ := Dq.reads I hd rx
  exact repr_big (hN.keeps I.bk) rd h1 h3 hg (by omega) fun h' u tk hk => ⟨.str _, H, I.kept hk, ⟨_, rfl⟩, hq⟩
theorem c_repr (hg : C.A.guards = some []) (hu : C.A.units + 64 < cLine) (hN : C.base.NoDigits) : CallR C (.builtin "repr") (okK C.K reprD) := (call_reprG hg hu hN).gimp fun vs H Q ⟨L, dx, x, d, ev, S, e, k⟩ => by
  obtain ⟨q, e1, e⟩ := bindS e
  split at e
  · rename_i h
    cases e
    exact ⟨x, q, ev, S.dpz e1, h, k _ _ (S.flat fun _ => .str _)⟩
  · cases e
/-! tuple(x), list(x), sum(x) -/
def tupleD (d : D) : Option D := match fz d with
  | some (.tuple ds) => some (.p (.tuple ds))
  | some (.list ds) => some (.p (.tuple ds))
  | _ => none
theorem c_tuple : CallR C (.type "tuple") (okC C.K (un1 tupleD)) := call_tuple_of.gimp fun vs H Q ⟨L, ds, d, hl, S, e, k⟩ => by
  unfold un1 at e
  split at e
  · rename_i dx
    match vs, hl, S with
    | [x], _, S =>
      have S : SL C.K H ((dx, x) :: L) := S
      unfold tupleD at e
      split at e
      · rename_i qs eq
        cases e
        have S1 := S.frz eq
        obtain ⟨a, xs, rfl, hx, hl, _⟩ := S1.items
        exact ⟨a, xs, rfl, .inr ⟨hx, k _ _ S1⟩⟩
      · rename_i qs eq
        cases e
        have S1 := S.frz eq
        obtain ⟨a, xs, rfl, hx, hl, S2⟩ := S1.itemsL
        refine ⟨a, xs, rfl, .inl ⟨hx, fun l hl' => k _ _ ?_⟩⟩
        have S3 := S2.tup hl hl'
        exact (S3.perm (.swap _ _ _)).drop
      · cases e
  · cases e
def listD (d : D) : Option D := match fz d with
  | some (.tuple ds) => some (.l (ds.map .p))
  | some (.list ds) => some (.l (ds.map .p))
  | some (.str z) => if z.length ≤ 1000000 then some (.l ((z.cps.toList.map fun c => PyData.str ⟨#[c]⟩).map .p)) else none
  | _ => none
/-! list(text) -/
theorem signs_vals {z : Str} : ∀ {l : List Nat} {us : List Value}, us.length = l.length → (∀ (i : Nat) (u : Value), us[i]? = some u → ∃ (c : Nat) (t : Tok), l[i]? = some c ∧ u = .str ⟨#[c]⟩ t) → Vals (l.map fun c => V.str ⟨#[c]⟩) us
  | [], [], _, _ => .nil
  | c :: l, u :: us, hl, h => by
    obtain ⟨c', t, h1, rfl⟩ := h 0 u rfl
    cases h1
    exact .cons ⟨t, rfl⟩ (signs_vals (z := z) (Nat.succ.inj hl) fun i w hw => h (i + 1) w hw)
theorem call_listTxt (hc : C.calm = true) : CallR C (.type "list") (fun xs H Q => ∃ z, xs = [V.str z] ∧ z.length ≤ 1000000 ∧ ∀ l, H l = none → Q (.ref l) (upd H l (.lst (z.cps.toList.map fun c => V.str ⟨#[c]⟩)))) := by
  intro pins s σ H xs us Q I r h
  obtain ⟨z, rfl, hz, q⟩ := h
  obtain ⟨u, rfl, t, rfl⟩ := vals1 r
  have e16 : sizeLine = 16777216 := by decide
  have hz' : z.cps.size ≤ 1000000 := hz
  refine PySem.call_list_str (I.ok.hd hc) z t (fun h' tk acc c' hk hS hit => ?_) (by omega)
  obtain ⟨hl, hv⟩ := hit
  have rv : Vals (z.cps.toList.map fun c => V.str ⟨#[c]⟩) acc.toList := signs_vals (z := z) (by simpa using hl) fun i u hu => by
    obtain ⟨c, t, h1, h2⟩ := hv i u (by simpa using hu)
    exact ⟨c, t, by simpa using h1, h2⟩
  refine ⟨.ref s.heap.objs.size, _, I.laid (t' := tk) (o := .lst (z.cps.toList.map fun c => V.str ⟨#[c]⟩)) (fun b ob q => hk b ob q) (Nat.le_refl _) ?_, rfl, q _ (I.hok.fresh (Nat.le_refl _))⟩
  exact ⟨by simp; omega, acc.toList, c', rv, by simpa using hS⟩
theorem c_list (hc : C.calm = true) : CallR C (.type "list") (okC C.K (un1 listD)) := (call_list_of.galt (call_listTxt hc)).gimp fun vs H Q ⟨L, ds, d, hl, S, e, k⟩ => by
  unfold un1 at e
  split at e
  · rename_i dx
    match vs, hl, S with
    | [x], _, S =>
      have S : SL C.K H ((dx, x) :: L) := S
      unfold listD at e
      split at e
      · rename_i qs eq
        cases e
        have S1 := S.frz eq
        obtain ⟨a, xs, rfl, hx, hl, S2⟩ := S1.items
        refine .inl ⟨a, xs, rfl, .inr hx, fun l hl' => k _ _ ?_⟩
        exact SL.close (by simpa using hl) (((S2.perm List.perm_middle).drop).newc hl')
      · rename_i qs eq
        cases e
        have S1 := S.frz eq
        obtain ⟨a, xs, rfl, hx, hl, S2⟩ := S1.itemsL
        refine .inl ⟨a, xs, rfl, .inl hx, fun l hl' => k _ _ ?_⟩
        exact SL.close (by simpa using hl) (((S2.perm List.perm_middle).drop).newc hl')
      · rename_i z eq
        split at e
        · rename_i hz
          cases e
          have S1 := S.frz eq
          have hx := S1.dp
          cases hx
          refine .inr ⟨z, rfl, hz, fun l hl' => k _ _ ?_⟩
          refine SL.close (ds := (z.cps.toList.map fun c => PyData.str ⟨#[c]⟩).map D.p) (vs := z.cps.toList.map fun c => V.str ⟨#[c]⟩) (by simp) ?_
          have hflat : ∀ cs : List Nat, SL C.K (upd H l (.lst (z.cps.toList.map fun c => V.str ⟨#[c]⟩))) ((.c (z.cps.toList.map fun c => V.str ⟨#[c]⟩), .ref l) :: L) →
              SL C.K (upd H l (.lst (z.cps.toList.map fun c => V.str ⟨#[c]⟩))) ((.c (z.cps.toList.map fun c => V.str ⟨#[c]⟩), .ref l) :: ((((cs.map fun c => PyData.str ⟨#[c]⟩).map D.p).zip (cs.map fun c => V.str ⟨#[c]⟩)) ++ L)) := by
            intro cs
            induction cs with
            | nil => exact fun h => h
            | cons c cs ih => exact fun h => ((ih h).flat (q := .str ⟨#[c]⟩) (v := .str ⟨#[c]⟩) fun _ => .str _).perm (.swap _ _ _)
          exact hflat _ (S1.drop.newc hl')
        · cases e
      · cases e
  · cases e
def allInts : List PyData → Option (List Int)
  | [] => some []
  | .int i :: ds => (allInts ds).map (i :: ·)
  | _ :: _ => none
def sumD (d : D) : Option D := match fz d with
  | some (.list ds) => (allInts ds).map fun ns => .p (.int ns.sum)
  | _ => none
theorem allInts_dp {K : PySem.W.Frag} {H : Hp} : ∀ {ds : List PyData} {ns : List Int} {vs : List V}, allInts ds = some ns → DqAll K H vs ds → vs = ns.map V.int
  | [], _, _, e, h => by
    cases e
    cases h
    rfl
  | .int i :: ds, _, _, e, h => by
    obtain ⟨ns, e1, rfl⟩ := mapS e
    cases h with
    | cons h1 h2 =>
      cases h1
      rw [allInts_dp e1 h2]
      rfl
theorem c_sum (hc : C.calm = true) : CallR C (.builtin "sum") (okK C.K sumD) := (cr_sum hc).gimp fun vs H Q ⟨L, dx, x, d, ev, S, e, k⟩ => by
  subst ev
  unfold sumD at e
  split at e
  · rename_i ds eq
    obtain ⟨ns, e1, rfl⟩ := mapS e
    have hd := S.dpz eq
    cases hd with
    | @lst a vs _ hq ha =>
      have := allInts_dp e1 ha
      subst this
      exact ⟨a, ns, rfl, hq, k _ _ (S.flat fun _ => .int _)⟩
  · cases e
end
end GH
namespace GH
open PySem L2 RZ
/-! ### what a loop walks -/
section
variable {K : PySem.W.Frag} {a b : Addr} {xs ys : List V} {ds es : List PyData} {v u : V}
/-- the items of a frozen list, by an address -/
theorem SL.atL {H : Hp} {L : List (D × V)} {a : Addr} (S : SL K H ((.p (.list ds), .ref a) :: L)) : ∃ xs, SqL K H a xs ∧ ds.length = xs.length ∧ SL K H ((ds.map D.p).zip xs ++ (.p (.list ds), .ref a) :: L) := by
  obtain ⟨a', xs, e, hx, hl, S'⟩ := S.itemsL
  cases e
  exact ⟨xs, hx, hl, S'⟩
theorem SL.atT {H : Hp} {L : List (D × V)} {a : Addr} (S : SL K H ((.p (.tuple ds), .ref a) :: L)) : ∃ xs, SqT K H a xs ∧ ds.length = xs.length ∧ SL K H ((ds.map D.p).zip xs ++ (.p (.tuple ds), .ref a) :: L) := by
  obtain ⟨a', xs, e, hx, hl, S'⟩ := S.items
  cases e
  exact ⟨xs, hx, hl, S'⟩
theorem SL.pickL {H : Hp} {L : List (D × V)} {x : V} {i : Nat} {q : PyData} (S : SL K H ((ds.map D.p).zip xs ++ L)) (h : ds[i]? = some q) (hx : xs[i]? = some x) : SL K H ((.p q, x) :: L) :=
  SL.dropA (A := (ds.map D.p).zip xs) ((SL.pick S (map_get h) hx).perm List.perm_middle.symm)
theorem srv_list : Srv K (Itl K a) [(.p (.list ds), .ref a)] ds where
  go := fun i H L S hi => by
    obtain ⟨xs, hx, hl, _⟩ := SL.atL S
    exact ⟨xs, xs[i], hx, List.getElem?_eq_getElem (by omega)⟩
  yld := fun i H L x H' S y d hd => by
    obtain ⟨rfl, y⟩ := y
    obtain ⟨xs, hx, hl, S'⟩ := SL.atL S
    exact S'.pickL hd (y xs hx)
  stop := fun H L S => by
    obtain ⟨xs, hx, hl, _⟩ := SL.atL S
    exact ⟨xs, hx, by omega⟩
theorem srv_tup : Srv K (Itt K a) [(.p (.tuple ds), .ref a)] ds where
  go := fun i H L S hi => by
    obtain ⟨xs, hx, hl, _⟩ := SL.atT S
    exact ⟨xs, xs[i], hx, List.getElem?_eq_getElem (by omega)⟩
  yld := fun i H L x H' S y d hd => by
    obtain ⟨rfl, y⟩ := y
    obtain ⟨xs, hx, hl, S'⟩ := SL.atT S
    exact S'.pickL hd (y xs hx)
  stop := fun H L S => by
    obtain ⟨xs, hx, hl, _⟩ := SL.atT S
    exact ⟨xs, hx, by omega⟩
def rngL (lo : Int) (n : Nat) : List PyData := (List.range n).map fun (i : Nat) => .int (lo + (i : Int))
theorem srv_rng {lo : Int} {n : Nat} : Srv K (Itr lo n) [] (rngL lo n) where
  go := fun i H L S hi => by
    show i < n
    simpa [rngL] using hi
  yld := fun i H L x H' S y d hd => by
    obtain ⟨rfl, rfl⟩ := y
    have hi : i < n := by
      have := (List.getElem?_eq_some_iff.mp hd).1
      simpa [rngL] using this
    have e : d = .int (lo + (i : Int)) := by
      unfold rngL at hd
      rw [List.getElem?_map, List.getElem?_range hi] at hd
      exact (Option.some.inj hd).symm
    subst e
    exact SL.flat S fun _ => .int _
  stop := fun H L S => by
    show n ≤ (rngL lo n).length
    simp [rngL]
def enumL (i : Nat) : List PyData → List PyData
  | [] => []
  | d :: ds => .tuple [.int (i : Int), d] :: enumL (i + 1) ds
theorem enumL_len : ∀ {ds : List PyData} {i : Nat}, (enumL i ds).length = ds.length
  | [], _ => rfl
  | _ :: ds, i => congrArg (· + 1) (enumL_len (ds := ds))
theorem enumL_get : ∀ {ds : List PyData} {k i : Nat} {d : PyData}, (enumL k ds)[i]? = some d → ∃ q, ds[i]? = some q ∧ d = .tuple [.int ((k + i : Nat) : Int), q]
  | [], _, _, _, h => by simp [enumL] at h
  | q :: ds, k, 0, d, h => ⟨q, rfl, by simp [enumL] at h; exact h.symm⟩
  | q :: ds, k, i + 1, d, h => by
    obtain ⟨q', h1, h2⟩ := enumL_get (ds := ds) (k := k + 1) (i := i) (by simpa [enumL] using h)
    exact ⟨q', by simpa using h1, by rw [h2]; congr 4; omega⟩
/-- a new pair -/
theorem SL.pair {H : Hp} {L : List (D × V)} {T : Addr} {p q : PyData} {x y : V} (S : SL K H ((.p p, x) :: (.p q, y) :: L)) (hT : H T = none) : SL K (upd H T (.tup [x, y])) ((.p (.tuple [p, q]), .ref T) :: L) := SL.tup (ds := [p, q]) (vs := [x, y]) rfl S hT
theorem srv_enum : Srv K (Ite K a) [(.p (.list ds), .ref a)] (enumL 0 ds) where
  go := fun i H L S hi => by
    obtain ⟨xs, hx, hl, _⟩ := SL.atL S
    rw [enumL_len] at hi
    exact ⟨xs, xs[i], hx, List.getElem?_eq_getElem (by omega)⟩
  yld := fun i H L x H' S y d hd => by
    obtain ⟨T, z, rfl, hT, rfl, y⟩ := y
    obtain ⟨xs, hx, hl, S'⟩ := SL.atL S
    obtain ⟨q, hq, rfl⟩ := enumL_get hd
    rw [Nat.zero_add]
    exact SL.pair ((S'.pickL hq (y xs hx)).flat fun _ => .int _) hT
  stop := fun H L S => by
    obtain ⟨xs, hx, hl, _⟩ := SL.atL S
    exact ⟨xs, hx, by rw [enumL_len]; omega⟩
def zipL : List PyData → List PyData → List PyData
  | d :: ds, e :: es => .tuple [d, e] :: zipL ds es
  | _, _ => []
theorem zipL_len : ∀ {ds es : List PyData}, (zipL ds es).length = min ds.length es.length
  | [], _ => by simp [zipL]
  | _ :: _, [] => by simp [zipL]
  | _ :: ds, _ :: es => by
    have := zipL_len (ds := ds) (es := es)
    simp only [zipL, List.length_cons, this]
    omega
theorem zipL_get : ∀ {ds es : List PyData} {i : Nat} {d : PyData}, (zipL ds es)[i]? = some d → ∃ p q, ds[i]? = some p ∧ es[i]? = some q ∧ d = .tuple [p, q]
  | [], _, _, _, h => by simp [zipL] at h
  | _ :: _, [], _, _, h => by simp [zipL] at h
  | p :: ds, q :: es, 0, d, h => ⟨p, q, rfl, rfl, by simp [zipL] at h; exact h.symm⟩
  | p :: ds, q :: es, i + 1, d, h => by
    obtain ⟨p', q', h1, h2, h3⟩ := zipL_get (ds := ds) (es := es) (i := i) (by simpa [zipL] using h)
    exact ⟨p', q', by simpa using h1, by simpa using h2, h3⟩
theorem SL.swp {H : Hp} {L : List (D × V)} {x y : D × V} (S : SL K H (x :: y :: L)) : SL K H (y :: x :: L) := S.perm (.swap _ _ _)
theorem srv_zip : Srv K (Itz K a b) [(.p (.list ds), .ref a), (.p (.list es), .ref b)] (zipL ds es) where
  go := fun i H L S hi => by
    rw [zipL_len] at hi
    obtain ⟨xs, hx, hl, _⟩ := SL.atL S
    obtain ⟨ys, hy, hm, _⟩ := SL.atL (SL.drop S)
    exact ⟨xs, ys, xs[i], ys[i], hx, hy, List.getElem?_eq_getElem (by omega), List.getElem?_eq_getElem (by omega)⟩
  yld := fun i H L x H' S y d hd => by
    obtain ⟨T, z, w, rfl, hT, rfl, y1, y2⟩ := y
    obtain ⟨p, q, hp, hq, rfl⟩ := zipL_get hd
    obtain ⟨xs, hx, hl, S1⟩ := SL.atL S
    have S2 := S1.pickL hp (y1 xs hx)
    have S4 : SL K H ((.p (.list es), .ref b) :: ((.p p, z) :: (.p (.list ds), .ref a) :: L)) := S2.perm ((List.Perm.cons _ (.swap _ _ _)).trans (.swap _ _ _))
    obtain ⟨ys', hy', hm', S5⟩ := SL.atL S4
    have S6 := S5.pickL hq (y2 ys' hy')
    have S7 : SL K H ((.p p, z) :: (.p q, w) :: (.p (.list ds), .ref a) :: (.p (.list es), .ref b) :: L) := S6.perm ((List.Perm.cons _ (.swap _ _ _)).trans ((List.Perm.swap _ _ _).trans (List.Perm.cons _ (List.Perm.cons _ (.swap _ _ _)))))
    exact SL.pair S7 hT
  stop := fun H L S => by
    obtain ⟨xs, hx, hl, _⟩ := SL.atL S
    obtain ⟨ys, hy, hm, _⟩ := SL.atL (SL.drop S)
    exact ⟨xs, ys, hx, hy, by rw [zipL_len]; omega⟩
theorem srv_zipT : Srv K (ItzT K a b) [(.p (.tuple ds), .ref a), (.p (.tuple es), .ref b)] (zipL ds es) where
  go := fun i H L S hi => by
    rw [zipL_len] at hi
    obtain ⟨xs, hx, hl, _⟩ := SL.atT S
    obtain ⟨ys, hy, hm, _⟩ := SL.atT (SL.drop S)
    exact ⟨xs, ys, xs[i], ys[i], hx, hy, List.getElem?_eq_getElem (by omega), List.getElem?_eq_getElem (by omega)⟩
  yld := fun i H L x H' S y d hd => by
    obtain ⟨T, z, w, rfl, hT, rfl, y1, y2⟩ := y
    obtain ⟨p, q, hp, hq, rfl⟩ := zipL_get hd
    obtain ⟨xs, hx, hl, S1⟩ := SL.atT S
    have S2 := S1.pickL hp (y1 xs hx)
    have S4 : SL K H ((.p (.tuple es), .ref b) :: ((.p p, z) :: (.p (.tuple ds), .ref a) :: L)) := S2.perm ((List.Perm.cons _ (.swap _ _ _)).trans (.swap _ _ _))
    obtain ⟨ys', hy', hm', S5⟩ := SL.atT S4
    have S6 := S5.pickL hq (y2 ys' hy')
    have S7 : SL K H ((.p p, z) :: (.p q, w) :: (.p (.tuple ds), .ref a) :: (.p (.tuple es), .ref b) :: L) := S6.perm ((List.Perm.cons _ (.swap _ _ _)).trans ((List.Perm.swap _ _ _).trans (List.Perm.cons _ (List.Perm.cons _ (.swap _ _ _)))))
    exact SL.pair S7 hT
  stop := fun H L S => by
    obtain ⟨xs, hx, hl, _⟩ := SL.atT S
    obtain ⟨ys, hy, hm, _⟩ := SL.atT (SL.drop S)
    exact ⟨xs, ys, hx, hy, by rw [zipL_len]; omega⟩
theorem srv_str {z : Str} : Srv K (Its z) [] (z.cps.toList.map fun c => .str ⟨#[c]⟩) where
  go := fun i H L S hi => by
    show i < z.cps.size
    simpa using hi
  yld := fun i H L x H' S y d hd => by
    obtain ⟨rfl, c, hc, rfl⟩ := y
    rw [List.getElem?_map, Array.getElem?_toList, hc] at hd
    cases hd
    exact SL.flat S fun _ => .str _
  stop := fun H L S => by
    show z.cps.size ≤ _
    simp
end
/-! the iterators' sources -/
def seqI (f : M) : MI := fun Γ => (f Γ).bind fun r => match fz r.1 with
  | some (.list ds) => some (ds, r.2)
  | _ => none
def tupI (f : M) : MI := fun Γ => (f Γ).bind fun r => match fz r.1 with
  | some (.tuple ds) => some (ds, r.2)
  | _ => none
def strI (f : M) : MI := fun Γ => (f Γ).bind fun r => match r.1 with
  | .p (.str z) => some (z.cps.toList.map fun c => .str ⟨#[c]⟩, r.2)
  | _ => none
def rng1 (fa : MA) : MI := fun Γ => (fa Γ).bind fun r => match r.1 with
  | [.p (.int j)] => if -(2 ^ 62) ≤ j ∧ j < 2 ^ 62 then some (rngL 0 j.toNat, r.2) else none
  | _ => none
def rng2 (fa : MA) : MI := fun Γ => (fa Γ).bind fun r => match r.1 with
  | [.p (.int i), .p (.int j)] => if (-(2 ^ 62) ≤ i ∧ i < 2 ^ 62) ∧ (-(2 ^ 62) ≤ j ∧ j < 2 ^ 62) then some (rngL i (j - i).toNat, r.2) else none
  | _ => none
def enumI (fa : MA) : MI := fun Γ => (fa Γ).bind fun r => match r.1 with
  | [d] => match fz d with
    | some (.list ds) => some (enumL 0 ds, r.2)
    | _ => none
  | _ => none
def zipI (fa : MA) : MI := fun Γ => (fa Γ).bind fun r => match r.1 with
  | [d, e] => match fz d, fz e with
    | some (.list ds), some (.list es) => some (zipL ds es, r.2)
    | some (.tuple ds), some (.tuple es) => some (zipL ds es, r.2)
    | _, _ => none
  | _ => none
section
variable {C : Cx} {tg e e2 : Expr} {f : M} {fa : MA} {ls : List (Option Nat)} {p pos tpos : Pos}
theorem ei_list (h : PE C e (okE C.K f)) : PI C tg e (okI C.K (seqI f)) := (pi_list h).gimp fun σ H R ⟨Γ, X, ds, Γ', F, S, e, k⟩ => by
  obtain ⟨⟨d, Γ1⟩, e1, e⟩ := bindS e
  dsimp only at e
  split at e
  · rename_i qs eq
    cases e
    refine ⟨Γ, X, d, _, F, S, e1, fun H1 v F1 S1 => ?_⟩
    have S2 := S1.frz eq
    obtain ⟨a, xs, rfl, hx, _, _⟩ := S2.itemsL
    exact ⟨a, rfl, ⟨xs, hx⟩, k H1 _ _ F1 srv_list S2⟩
  · cases e
theorem ei_tup (h : PE C e (okE C.K f)) : PI C tg e (okI C.K (tupI f)) := (pi_tup h).gimp fun σ H R ⟨Γ, X, ds, Γ', F, S, e, k⟩ => by
  obtain ⟨⟨d, Γ1⟩, e1, e⟩ := bindS e
  dsimp only at e
  split at e
  · rename_i qs eq
    cases e
    refine ⟨Γ, X, d, _, F, S, e1, fun H1 v F1 S1 => ?_⟩
    have S2 := S1.frz eq
    obtain ⟨a, xs, rfl, hx, _, _⟩ := S2.items
    exact ⟨a, rfl, ⟨xs, hx⟩, k H1 _ _ F1 srv_tup S2⟩
  · cases e
theorem ei_str (h : PE C e (okE C.K f)) : PI C tg e (okI C.K (strI f)) := (pi_str h).gimp fun σ H R ⟨Γ, X, ds, Γ', F, S, e, k⟩ => by
  obtain ⟨⟨d, Γ1⟩, e1, e⟩ := bindS e
  dsimp only at e
  split at e
  · rename_i z
    cases e
    refine ⟨Γ, X, _, _, F, S, e1, fun H1 v F1 S1 => ?_⟩
    have z := S1.dp
    cases z
    exact ⟨_, rfl, k H1 _ [] F1 srv_str S1.drop⟩
  · cases e
theorem ei_rng1 (hg : Gl C "range") (hm : C.mg "range" = none) (ha : PA C [e] (okA C.K ls fa)) (hs : starEach [e] C.env = [(false, eval e C.env)] := by rfl) : PI C tg (.Call (.Name "range" p) [e] [] pos) (okI C.K (rng1 fa)) := (pi_range1 hg hm ha hs).gimp fun σ H R ⟨Γ, X, ds, Γ', F, S, e, k⟩ => by
  obtain ⟨⟨d, Γ1⟩, e1, e⟩ := bindS e
  refine ⟨Γ, X, d, Γ1, F, S, e1, fun H1 vs F1 hl _ S1 => ?_⟩
  dsimp only at e
  split at e
  · split at e
    · rename_i j h
      cases e
      match vs, hl, S1 with
      | [x], _, S1 =>
        have z := SL.dp (show SL C.K H1 ((.p (.int j), x) :: (slots _ σ ++ X)) from S1)
        cases z
        exact ⟨j, rfl, h.1, h.2, k H1 _ [] F1 srv_rng (SL.drop S1)⟩
    · cases e
  · cases e
theorem ei_rng2 (hg : Gl C "range") (hm : C.mg "range" = none) (ha : PA C [e, e2] (okA C.K ls fa)) (hs : starEach [e, e2] C.env = [(false, eval e C.env), (false, eval e2 C.env)] := by rfl) (hs2 : starEach [e2] C.env = [(false, eval e2 C.env)] := by rfl) : PI C tg (.Call (.Name "range" p) [e, e2] [] pos) (okI C.K (rng2 fa)) := (pi_range2 hg hm ha hs hs2).gimp fun σ H R ⟨Γ, X, ds, Γ', F, S, e, k⟩ => by
  obtain ⟨⟨d, Γ1⟩, e1, e⟩ := bindS e
  refine ⟨Γ, X, d, Γ1, F, S, e1, fun H1 vs F1 hl _ S1 => ?_⟩
  dsimp only at e
  split at e
  · split at e
    · rename_i i j h
      cases e
      obtain ⟨rfl, S'⟩ := argInts hl S1
      exact ⟨i, j, rfl, ⟨h.1.1, h.1.2, h.2.1, h.2.2⟩, k H1 _ [] F1 srv_rng S'⟩
    · cases e
  · cases e
theorem ei_enum {elts : List Expr} {kk : Nat} (hg : Gl C "enumerate") (hm : C.mg "enumerate" = none) (ha : PA C [e] (okA C.K ls fa)) (hs : starEach [e] C.env = (false, eval e C.env) :: starEach [] C.env := by rfl) (hpl : (backTo pos (starEach [] C.env)).any (·.1) = false := by rfl) : PI C (.Tuple elts kk tpos) (.Call (.Name "enumerate" p) [e] [] pos) (okI C.K (enumI fa)) := (pi_enum hg hm ha hs).gimp fun σ H R ⟨Γ, X, ds, Γ', F, S, e, k⟩ => by
  obtain ⟨⟨d, Γ1⟩, e1, e⟩ := bindS e
  refine ⟨Γ, X, d, Γ1, F, S, e1, fun H1 vs F1 hl _ S1 => ?_⟩
  dsimp only at e
  split at e
  · rename_i dd
    split at e
    · rename_i qs eq
      cases e
      match vs, hl, S1 with
      | [x], _, S1 =>
        have S2 := SL.frz (show SL C.K H1 ((dd, x) :: (slots _ σ ++ X)) from S1) eq
        obtain ⟨a, xs, rfl, hx, _, _⟩ := S2.itemsL
        exact ⟨a, xs, rfl, hx, k H1 _ _ F1 srv_enum S2⟩
    · cases e
  · cases e
theorem ei_zip {elts : List Expr} {kk : Nat} (hg : Gl C "zip") (hm : C.mg "zip" = none) (ha : PA C [e, e2] (okA C.K ls fa)) (hs : starEach [e, e2] C.env = (false, eval e C.env) :: starEach [e2] C.env := by rfl) (hpl : (backTo pos (starEach [e2] C.env)).any (·.1) = false := by rfl) :
    PI C (.Tuple elts kk tpos) (.Call (.Name "zip" p) [e, e2] [] pos) (okI C.K (zipI fa)) := (pi_zipA hg hm ha hs hpl).gimp fun σ H R ⟨Γ, X, ds, Γ', F, S, e, k⟩ => by
  obtain ⟨⟨d, Γ1⟩, e1, e⟩ := bindS e
  refine ⟨Γ, X, d, Γ1, F, S, e1, fun H1 vs F1 hl _ S1 => ?_⟩
  dsimp only at e
  split at e
  · rename_i d1 d2
    match vs, hl, S1 with
    | [x, y], _, S1 =>
      have S1 : SL C.K H1 ((d1, x) :: (d2, y) :: (slots _ σ ++ X)) := S1
      split at e
      · rename_i qs rs eq er
        cases e
        have S2 := ((S1.frz eq).swp.frz er).swp
        obtain ⟨a, xs, rfl, hx, _, _⟩ := S2.itemsL
        obtain ⟨b, ys, rfl, hy, _, _⟩ := S2.drop.itemsL
        exact ⟨a, b, xs, ys, rfl, .inl ⟨hx, hy, k H1 _ _ F1 srv_zip S2⟩⟩
      · rename_i qs rs eq er
        cases e
        have S2 := ((S1.frz eq).swp.frz er).swp
        obtain ⟨a, xs, rfl, hx, _, _⟩ := S2.items
        obtain ⟨b, ys, rfl, hy, _, _⟩ := S2.drop.items
        exact ⟨a, b, xs, ys, rfl, .inr ⟨hx, hy, k H1 _ _ F1 srv_zipT S2⟩⟩
      · cases e
  · cases e
end
/-! ### list comprehensions -/
def wipeG (Γ : Nv) : List Nat → Nv
  | [] => Γ
  | v :: vs => (wipeG Γ vs).set v none
def lcF (own : List Nat) (t : MG) (c : MT) (e : M) : List PyData → Nv → List D → Option (List D × Nv)
  | [], Γ, acc => some (acc, Γ)
  | d :: ds, Γ, acc => (t (.p d) Γ).bind fun Γ1 => (c Γ1).bind fun r =>
      if r.1 = true then (e r.2).bind fun s => lcF own t c e ds (wipeG s.2 own) (acc ++ [s.1])
      else lcF own t c e ds (wipeG r.2 own) acc
def lcM (own : List Nat) (it : MI) (t : MG) (c : MT) (e : M) : M := fun Γ => (it Γ).bind fun r => if r.1.length ≤ 1000000 then (lcF own t c e r.1 (wipeG r.2 own) []).map fun s => (.l s.1, s.2) else none
def yesT : MT := fun Γ => some (true, Γ)
section
variable {K : PySem.W.Frag} {H : Hp} {Γ : Nv} {σ : St} {X : List (D × V)}
theorem wipe_get : ∀ {vs : List Nat} {σ : St} {i : Nat}, i ∉ vs → (wipe σ vs)[i]? = σ[i]?
  | [], _, _, _ => rfl
  | v :: vs, σ, i, h => by
    unfold wipe
    rw [List.getElem?_set_ne (fun z => h (by rw [z]; exact List.mem_cons_self))]
    exact wipe_get fun z => h (List.mem_cons_of_mem _ z)
theorem wipe_in : ∀ {vs : List Nat} {σ : St} {i : Nat}, i ∈ vs → (wipe σ vs)[i]? = if i < σ.length then some none else none
  | v :: vs, σ, i, h => by
    unfold wipe
    by_cases e : v = i
    · subst e
      by_cases hl : v < σ.length
      · rw [List.getElem?_set_self (by rw [wipe_length]; exact hl), if_pos hl]
      · rw [if_neg hl]
        exact List.getElem?_eq_none (by rw [List.length_set, wipe_length]; omega)
    · rw [List.getElem?_set_ne e]
      exact wipe_in ((List.mem_cons.mp h).resolve_left (fun z => e z.symm))
theorem wipe_of {vs : List Nat} {σ σ2 : St} (a : Agree (· ∉ vs) (wipe σ vs) σ2) : wipe σ2 vs = wipe σ vs := by
  have hl : σ2.length = σ.length := by rw [a.1, wipe_length]
  refine List.ext_getElem? fun i => ?_
  by_cases h : i ∈ vs
  · rw [wipe_in h, wipe_in h, hl]
  · rw [wipe_get h, a.2 i h]
theorem SL.wipe (own : List Nat) (h : SL K H (slots Γ σ ++ X)) (F : Fits Γ σ) : SL K H (slots (wipeG Γ own) (L2.wipe σ own) ++ X) ∧ Fits (wipeG Γ own) (L2.wipe σ own) := by
  induction own with
  | nil => exact ⟨h, F⟩
  | cons v vs ih => exact ⟨ih.1.forget ih.2, ih.2.forget⟩
theorem slots_wipe : ∀ {own : List Nat} {σ : St}, Fits Γ (L2.wipe σ own) → slots Γ (L2.wipe σ own) = slots Γ σ ∧ Fits Γ σ
  | [], _, F => ⟨rfl, F⟩
  | v :: vs, σ, F => by
    have F' : Fits Γ ((L2.wipe σ vs).set v none) := F
    have F1 : Fits Γ (L2.wipe σ vs) := ⟨by rw [F'.len, List.length_set], fun i d h => by
      obtain ⟨u, hu⟩ := F'.has i d h
      by_cases e : v = i
      · subst e
        have hl := (List.getElem?_eq_some_iff.mp hu).1
        rw [List.length_set] at hl
        rw [List.getElem?_set_self hl] at hu
        cases hu
      · rw [List.getElem?_set_ne e] at hu
        exact ⟨u, hu⟩⟩
    have e1 : slots Γ ((L2.wipe σ vs).set v none) = slots Γ (L2.wipe σ vs) := by
      by_cases hv : v < Γ.length
      · refine slots_none ?_
        rw [List.getElem?_eq_getElem hv]
        cases e : Γ[v] with
        | none => rfl
        | some d =>
          obtain ⟨u, hu⟩ := F'.has v d (by rw [List.getElem?_eq_getElem hv, e])
          rw [List.getElem?_set_self (by rw [← F1.len]; exact hv)] at hu
          cases hu
      · rw [set_out (by rw [← F1.len]; exact hv)]
    obtain ⟨e2, F2⟩ := slots_wipe F1
    exact ⟨e1.trans e2, F2⟩
end
section
variable {C : Cx} {elt tg iter : Expr} {ifs : List Expr} {scope : Scope} {own : List (Str × Nat)} {pos : Pos} {it : MI} {t : MG} {c : MT} {e : M}
theorem lc_run {σ : St} {H : Hp} {Q : VK} {vs : List Nat} (h : okE C.K (lcM vs it t c e) σ H Q) : tLc (okI C.K it) (okG C.K (· ∉ vs) t) (okT C.K c) (okE C.K e) vs σ H Q := by
  obtain ⟨Γ, X, d, Γ', F, S, e0, k⟩ := h
  obtain ⟨⟨ds, Γ1⟩, e1, e0⟩ := bindS e0
  dsimp only at e0
  split at e0
  · rename_i hlen
    obtain ⟨⟨acc, Γ2⟩, e2, e0⟩ := mapS e0
    cases e0
    refine ⟨Γ, X, ds, Γ1, F, S, e1, fun H1 J E F1 sv S1 => ?_⟩
    intro D hD
    have hz : sizeLine = 16777216 := by decide
    refine ⟨fun i m H' => i ≤ ds.length ∧ m = ds.length - i ∧ ∃ Γi accI, accI.length ≤ i ∧ Fits Γi (L2.wipe σ vs) ∧ SL C.K H' (E ++ (slots Γi (L2.wipe σ vs) ++ ((.l accI, .ref D) :: X))) ∧ lcF vs t c e (ds.drop i) Γi accI = some (acc, Γ2), ⟨ds.length, Nat.zero_le _, rfl, wipeG Γ1 vs, [], Nat.le_refl _, ?_, ?_, by rw [List.drop_zero]; exact e2⟩, ?_⟩
    · exact (SL.wipe vs (X := E ++ X) (S1.perm (swap3 _ _ _)) F1).2
    · have S2 : SL C.K (upd H1 D (.lst [])) ((.l [], .ref D) :: (E ++ (slots Γ1 σ ++ X))) := SL.close (vs := []) rfl (S1.newc hD)
      have S3 := (SL.wipe vs (X := (.l [], .ref D) :: (E ++ X)) (S2.perm ((List.Perm.cons _ (swap3 _ _ _)).trans List.perm_middle.symm)) F1).1
      refine S3.perm ?_
      refine List.perm_middle.trans ((List.Perm.cons _ (swap3 _ _ _)).trans ?_)
      rw [← List.append_assoc, ← List.append_assoc]
      exact List.perm_middle.symm
    · rintro i m H' ⟨hi, rfl, Γi, accI, ha, Fi, Si, ei⟩
      have out : ∀ {acc : List GH.D} {Γ : Nv}, Fits Γ (L2.wipe σ vs) → SL C.K H' (E ++ (slots Γ (L2.wipe σ vs) ++ ((.l acc, .ref D) :: X))) → SL C.K H' ((.l acc, .ref D) :: (slots Γ σ ++ X)) ∧ Fits Γ σ := fun {acc Γ} Fx Sx => by
        obtain ⟨e3, F3⟩ := slots_wipe Fx
        rw [e3] at Sx
        exact ⟨(SL.dropA Sx).perm List.perm_middle, F3⟩
      by_cases hlt : i < ds.length
      · refine .inr ⟨sv.go i H' _ Si hlt, ?_⟩
        have ed : ds.drop i = ds[i] :: ds.drop (i + 1) := List.drop_eq_getElem_cons hlt
        rw [ed] at ei
        obtain ⟨Γa, e3, ei⟩ := bindS (show (t (.p ds[i]) Γi).bind _ = some (acc, Γ2) from ei)
        obtain ⟨⟨b, Γb⟩, e4, ei⟩ := bindS ei
        refine ⟨fun H2 => ∃ m', m' < ds.length - i ∧ i + 1 ≤ ds.length ∧ m' = ds.length - (i + 1) ∧ ∃ Γi accI, accI.length ≤ i + 1 ∧ Fits Γi (L2.wipe σ vs) ∧ SL C.K H2 (E ++ (slots Γi (L2.wipe σ vs) ++ ((.l accI, .ref D) :: X))) ∧ lcF vs t c e (ds.drop (i + 1)) Γi accI = some (acc, Γ2), fun H2 h => h, fun x H2 y => ?_⟩
        have S2 := sv.yld i H' _ x H2 Si y ds[i] (List.getElem?_eq_getElem hlt)
        refine ⟨Γi, E ++ ((.l accI, .ref D) :: X), .p ds[i], Γa, Fi, S2.perm (List.Perm.cons _ (swap3 _ _ _)), e3, fun σ3 H3 a3 F3 S3 => ⟨wipe_of a3, Γa, E ++ ((.l accI, .ref D) :: X), b, Γb, F3, S3, e4, fun H4 F4 S4 => ?_⟩⟩
        have next : ∀ {Γ : Nv} {acc' : List GH.D} {H5 : Hp}, Fits Γ σ3 → SL C.K H5 (slots Γ σ3 ++ (E ++ ((.l acc', .ref D) :: X))) → Fits (wipeG Γ vs) (L2.wipe σ vs) ∧ SL C.K H5 (E ++ (slots (wipeG Γ vs) (L2.wipe σ vs) ++ ((.l acc', .ref D) :: X))) := fun {Γ acc' H5} Fx Sx => by
          obtain ⟨Sy, Fy⟩ := SL.wipe vs Sx Fx
          rw [wipe_of a3] at Sy Fy
          exact ⟨Fy, Sy.perm (swap3 _ _ _)⟩
        cases b with
        | true =>
          obtain ⟨⟨y, Γc⟩, e5, ei⟩ := bindS (show (e Γb).bind _ = some (acc, Γ2) from ei)
          refine L2.iteT ?_
          refine ⟨Γb, _, y, Γc, F4, S4, e5, fun H5 w F5 S5 => ?_⟩
          have S6 : SL C.K H5 ((.l accI, .ref D) :: ((y, w) :: (slots Γc σ3 ++ (E ++ X)))) := S5.perm ((List.Perm.cons _ ((List.Perm.append_left _ List.perm_middle).trans List.perm_middle)).trans (.swap _ _ _))
          obtain ⟨a, us, ea, hD5, hl5, S7⟩ := S6.open
          cases ea
          have hlu : us.length ≤ i := by rw [← hl5]; exact ha
          refine ⟨us, hD5, by omega, _, by omega, by omega, rfl, wipeG Γc vs, accI ++ [y], by simp; omega, ?_⟩
          have S8 : SL C.K (upd H5 D (.lst (us ++ [w]))) ((.l (accI ++ [y]), .ref D) :: (slots Γc σ3 ++ (E ++ X))) := by
            refine SL.close (ds := accI ++ [y]) (vs := us ++ [w]) (by simp [hl5]) ?_
            rw [zip_split hl5, List.append_assoc]
            exact SL.write (vs := us) S7
          obtain ⟨F9, S9⟩ := next F5 (S8.perm (List.perm_middle.symm.trans (List.Perm.append_left _ List.perm_middle.symm)))
          exact ⟨F9, S9, ei⟩
        | false =>
          refine L2.iteF ?_
          obtain ⟨F9, S9⟩ := next F4 S4
          exact ⟨_, by omega, by omega, rfl, wipeG Γb vs, accI, by omega, F9, S9, ei⟩
      · refine .inl ⟨?_, ?_⟩
        · have : i = ds.length := by omega
          subst this
          exact sv.stop H' _ Si
        · rw [List.drop_of_length_le (by omega)] at ei
          cases ei
          obtain ⟨S9, F9⟩ := out Fi Si
          exact k H' _ F9 S9
  · cases e0
theorem ets_nil {X : Cx} : PTs X [] (okT C.K yesT) := ⟨fun pins s σ H Q I ⟨Γ, Y, b, Γ', F, S, e, k⟩ => by
  cases e
  exact (pts_nil (X := X)).run pins s σ H Q I (k H F S)⟩
theorem ets_one {X : Cx} {cnd : Expr} (h : PT X cnd (okT C.K c)) : PTs X [cnd] (okT C.K c) := pts_one h
theorem ee_lc (hc : C.calm = true) (hN : C.N.Nodup) (hi : PI C tg iter (okI C.K it)) (ok : BlkOk C.N C.env.scope scope own)
    (hg : ∀ (s : Shared) (H : Hp) (A : Addr) (cl : List (Str × Addr)) (fp : List Addr), PG (C.blk s H scope (compEnvC scope cl A C.env) fp) tg (okG C.K (· ∉ own.map (·.2)) t))
    (ht : ∀ (s : Shared) (H : Hp) (A : Addr) (cl : List (Str × Addr)) (fp : List Addr), PTs (C.blk s H scope (compEnvC scope cl A C.env) fp) ifs (okT C.K c))
    (he : ∀ (s : Shared) (H : Hp) (A : Addr) (cl : List (Str × Addr)) (fp : List Addr), PE (C.blk s H scope (compEnvC scope cl A C.env) fp) elt (okE C.K e)) (hs : ∀ x, foldedSetIterable iter C.env x = pure x := by intro _; rfl) :
    PE C (.ListComp elt [⟨tg, iter, ifs, 0⟩] scope pos) (okE C.K (lcM (own.map (·.2)) it t c e)) := (pe_lc hc hN hi ok hg ht he hs).gimp fun σ H Q h => lc_run h
/-- y = [..] -/
theorem es_setLc {i : Nat} {ro : Nat → Prop} {st : Stmt} (h : PS C st (tAsg (tLc (okI C.K it) (okG C.K (· ∉ own.map (·.2)) t) (okT C.K c) (okE C.K e) (own.map (·.2))) (gName i))) (hi : ¬ ro i) : PS C st (okS C.K ro (asgS (lcM (own.map (·.2)) it t c e) (gnm i))) :=
  es_set (h.gimp fun D σ H q => lc_run q) hi
end
end GH
namespace GH
open PySem L2
/-! ### methods that change a list in a slot -/
def okM (K : PySem.W.Frag) (o : D → List D → Option (D × D)) : V → List V → Hp → VK → Prop := fun x vs H Q => ∃ L dx ds r, ds.length = vs.length ∧ SL K H ((dx, x) :: (ds.zip vs ++ L)) ∧ o dx ds = some r ∧ ∀ H' v, SL K H' ((r.1, v) :: (r.2, x) :: L) → Q v H'
def mutN (o : D → List D → Option (D × D)) (i : Nat) (fa : MA) : M := fun Γ => match Γ[i]? with
  | some (some (.l _)) => (fa Γ).bind fun r => match r.2[i]? with
    | some (some d) => (o d r.1).bind fun s => some (s.1, r.2.set i (some s.2))
    | _ => none
  | _ => none
/-- .. of the list at the place c of the list in a slot -/
def mutP (o : D → List D → Option (D × D)) (i c : Nat) (fa : MA) : M := fun Γ => match Γ[i]? with
  | some (some (.l xs)) => match xs[c]? with
    | some (.l ys) => (fa (Γ.set i none)).bind fun r => match r.2[i]? with
      | some none => (o (.l ys) r.1).bind fun s => some (s.1, r.2.set i (some (.l (xs.set c s.2))))
      | _ => none
    | _ => none
  | _ => none
def rdP (o : D → D → Option D) (i c : Nat) (g : M) : M := fun Γ => match Γ[i]? with
  | some (some (.l xs)) => match xs[c]? with
    | some y => (g (Γ.set i none)).bind fun r => match r.2[i]? with
      | some none => (o y r.1).bind fun d => some (d, r.2.set i (some (.l xs)))
      | _ => none
    | _ => none
  | _ => none
section
variable {C : Cx} {a b : Expr} {es : List Expr} {f g : M} {fa : MA} {pos p apos cpos : Pos} {i c : Nat} {ls : List (Option Nat)} {o : D → List D → Option (D × D)} {name : Str} {id T : String}
variable {K : PySem.W.Frag} {H : Hp} {Γ : Nv} {σ : St} {X L : List (D × V)}
theorem SL.tyL {xs : List D} {v : V} (h : SL K H ((.l xs, v) :: L)) : tyV K "list" v H := by
  obtain ⟨a, vs, rfl, ha, _, _⟩ := h.open
  exact .inl ⟨rfl, vs, .inl (.inl ha)⟩
theorem set_back {α : Type} {l : List α} {i : Nat} {x y : α} (h : l[i]? = some x) : (l.set i y).set i x = l := by rw [List.set_set, set_same h]
theorem mutN_run {Q : VK} {r : V → List V → Hp → VK → Prop} (hr : ∀ x vs H Q, okM K o x vs H Q → r x vs H Q) (h : okE K (mutN o i fa) σ H Q) : tBM K "list" r (tVar i) (okA K ls fa) σ H Q := by
  obtain ⟨Γ, X, d, Γ', F, S, e, k⟩ := h
  unfold mutN at e
  split at e
  · rename_i xs ex
    obtain ⟨⟨ds, Γ1⟩, e1, e⟩ := bindS e
    obtain ⟨v, hv, S0⟩ := S.take F ex
    refine ⟨v, hv, S0.tyL, Γ, X, ds, Γ1, F, S, e1, fun H1 vs F1 hl _ S1 => hr _ _ _ _ ?_⟩
    dsimp only at e
    split at e
    · rename_i x ex1
      obtain ⟨⟨d1, x1⟩, e2, e⟩ := bindS e
      cases e
      obtain ⟨v', hv', S2⟩ := SL.take (X := ds.zip vs ++ X) (S1.perm (swap3 _ _ _)) F1 ex1
      obtain rfl : v = v' := Option.some.inj (Option.some.inj (hv.symm.trans hv'))
      refine ⟨slots (Γ1.set i none) σ ++ X, x, ds, _, hl, S2.perm (List.Perm.cons _ (swap3 _ _ _)), e2, fun H2 w S3 => k H2 w (F1.put hv) ?_⟩
      have hi : i < Γ1.length := (List.getElem?_eq_some_iff.mp ex1).1
      have S4 := SL.back (i := i) (X := (_, w) :: X) ((S3.perm (.swap _ _ _)).perm (List.perm_middle.symm.cons _)) (get_set hi) hv
      rw [List.set_set] at S4
      exact S4.perm List.perm_middle
    · cases e
  · cases e
/-- x.m(e, ..) -/
theorem ee_mutN {r : V → List V → Hp → VK → Prop} {x : Str} (pa : PlainAttrs "list") (slot : Slot "list" name id) (hty : typeOf (.builtin id) = pure (.type "method_descriptor")) (hm : MtR C id r) (hr : ∀ x vs H Q, okM C.K o x vs H Q → r x vs H Q) (hv : PE C (.Name x p) (tVar i)) (ha : PA C (a :: es) (okA C.K ls fa))
    (hbase : attributeBase (.Name x p) name C.env (eval (.Name x p) C.env) = eval (.Name x p) C.env := by rfl)
    (hfew : ((backTo cpos (starEach (a :: es) C.env)).all (fun x => !x.1) && (backToKw cpos (keywordEach [] C.env)).all (fun x => x.1.isSome) && decide ((a :: es).length + ([] : List Keyword).length + (if ([] : List Keyword).isEmpty then 0 else 1) < 30)) = true := by rfl)
    (hline : (apos.endLine == cpos.line) = true := by rfl) (hs : starEach (a :: es) C.env = (false, eval a C.env) :: starEach es C.env := by rfl) (hplain : (backTo cpos (starEach es C.env)).any (·.1) = false := by rfl) :
    PE C (.Call (.Attribute (.Name x p) name apos) (a :: es) [] cpos) (okE C.K (mutN o i fa)) := (pe_bm pa slot hty hm hv ha hbase hfew hline hs hplain).gimp fun σ H Q h => mutN_run hr h
theorem ee_mutN0 {r : V → List V → Hp → VK → Prop} {x : Str} (pa : PlainAttrs "list") (slot : Slot "list" name id) (hty : typeOf (.builtin id) = pure (.type "method_descriptor")) (hm : MtR C id r) (hr : ∀ x vs H Q, okM C.K o x vs H Q → r x vs H Q) (hv : PE C (.Name x p) (tVar i))
    (hbase : attributeBase (.Name x p) name C.env (eval (.Name x p) C.env) = eval (.Name x p) C.env := by rfl) (hline : (apos.endLine == cpos.line) = true := by rfl) :
    PE C (.Call (.Attribute (.Name x p) name apos) [] [] cpos) (okE C.K (mutN o i argN)) := (pe_bm0 pa slot hty hm hv hbase hline).gimp fun σ H Q ⟨Γ, X, d, Γ', F, S, e, k⟩ => by
  obtain ⟨v, hv, ty, Γ2, X2, ds, Γ3, F2, S2, e2, k2⟩ := mutN_run (ls := []) hr ⟨Γ, X, d, Γ', F, S, e, k⟩
  cases e2
  exact ⟨v, hv, ty, k2 H [] F2 rfl trivial S2⟩
/-! the methods -/
def appendD : D → List D → Option (D × D)
  | .l xs, [d] => if xs.length < 1000000 then some (.p .none, .l (xs ++ [d])) else none
  | _, _ => none
def popAtD : D → List D → Option (D × D)
  | .l xs, [.p (.int i)] => if -(2 ^ 63) ≤ i ∧ i < 2 ^ 63 then (ixN xs.length i).bind fun k => (xs[k]?).map fun d => (d, .l (xs.eraseIdx k)) else none
  | _, _ => none
def popD : D → List D → Option (D × D)
  | .l xs, [] => (xs[xs.length - 1]?).map fun d => (d, .l xs.dropLast)
  | _, _ => none
def insertD : D → List D → Option (D × D)
  | .l xs, [.p (.int i), d] => if xs.length < 1000000 ∧ 0 ≤ i ∧ i < 2 ^ 63 then some (.p .none, .l (xs.take i.toNat ++ [d] ++ xs.drop i.toNat)) else none
  | _, _ => none
def extendD : D → List D → Option (D × D)
  | .l xs, [.l ys] => if xs.length + ys.length ≤ 1000000 then some (.p .none, .l (xs ++ ys)) else none
  | _, _ => none
theorem lineM : sizeLine = 16777216 := by decide
theorem m_append : ∀ x vs H Q, okM C.K appendD x vs H Q → rAppend x vs H Q := fun x vs H Q ⟨L, dx, ds, r, hl, S, e, k⟩ => by
  unfold appendD at e
  split at e
  · split at e
    · rename_i xs d h
      cases e
      match vs, hl, S with
      | [y], _, S =>
        have S : SL C.K H ((.l xs, x) :: (d, y) :: L) := S
        obtain ⟨a, us, rfl, ha, hu, S1⟩ := S.open
        refine ⟨a, us, y, rfl, rfl, ha, by rw [lineM]; omega, k _ _ ?_⟩
        refine SL.flat ?_ fun _ => .non
        refine SL.close (ds := xs ++ [d]) (vs := us ++ [y]) (by simp [hu]) ?_
        rw [zip_split hu, List.append_assoc]
        exact S1.write
    · cases e
  · cases e
theorem zip_erase {α β : Type} : ∀ {xs : List α} {us : List β} {k : Nat} {d : α} {y : β}, xs[k]? = some d → us[k]? = some y → (xs.zip us).Perm ((d, y) :: (xs.eraseIdx k).zip (us.eraseIdx k))
  | x :: xs, u :: us, 0, d, y, h, h' => by
    simp at h h'
    subst h h'
    exact .refl _
  | x :: xs, u :: us, k + 1, d, y, h, h' => by
    have ih := zip_erase (xs := xs) (us := us) (k := k) (d := d) (y := y) (by simpa using h) (by simpa using h')
    show ((x, u) :: xs.zip us).Perm ((d, y) :: (x, u) :: (xs.eraseIdx k).zip (us.eraseIdx k))
    exact (ih.cons _).trans (.swap _ _ _)
theorem m_popAt : ∀ x vs H Q, okM C.K popAtD x vs H Q → rPopAt x vs H Q := fun x vs H Q ⟨L, dx, ds, r, hl, S, e, k⟩ => by
  unfold popAtD at e
  split at e
  · split at e
    · rename_i xs i h
      obtain ⟨j, e1, e⟩ := bindS e
      obtain ⟨d, e2, e⟩ := mapS e
      cases e
      match vs, hl, S with
      | [y], _, S =>
        have S : SL C.K H ((.l xs, x) :: (.p (.int i), y) :: L) := S
        have z := S.drop.dp
        cases z
        obtain ⟨a, us, rfl, ha, hu, S1⟩ := S.open
        have hj : j < us.length := by rw [← hu]; exact ixN_lt e1
        obtain ⟨q1, _⟩ := ixN_seq e1
        refine ⟨a, us, i, j, us[j], rfl, rfl, ha, h.1, h.2, by rw [← hu]; exact q1, List.getElem?_eq_getElem hj, k _ _ ?_⟩
        have S2 := SL.write (vs' := us.eraseIdx j) S1
        have S3 := S2.perm (List.Perm.cons _ ((zip_erase e2 (List.getElem?_eq_getElem hj)).append_right _))
        have S4 : SL C.K _ ((.c (us.eraseIdx j), .ref a) :: ((xs.eraseIdx j).zip (us.eraseIdx j) ++ ((d, us[j]) :: (.p (.int i), .int i) :: L))) := S3.perm (List.Perm.cons _ List.perm_middle.symm)
        have S5 := SL.close (by rw [List.length_eraseIdx, List.length_eraseIdx, hu]) S4
        exact (S5.perm ((.swap _ _ _))).perm (List.Perm.cons _ (.swap _ _ _)) |>.perm (.swap _ _ _) |>.drop
    · cases e
  · cases e
theorem zip_last {α β : Type} {xs : List α} {us : List β} (hl : xs.length = us.length) {d : α} {y : β} (h : xs[xs.length - 1]? = some d) (h' : us[us.length - 1]? = some y) : (xs.zip us).Perm ((d, y) :: xs.dropLast.zip us.dropLast) := by
  have := zip_erase h (by rw [hl]; exact h')
  have e1 : xs.eraseIdx (xs.length - 1) = xs.dropLast := by rw [List.eraseIdx_length_sub_one]
  have e2 : us.eraseIdx (xs.length - 1) = us.dropLast := by rw [hl, List.eraseIdx_length_sub_one]
  rw [e1, e2] at this
  exact this
theorem m_pop : ∀ x vs H Q, okM C.K popD x vs H Q → rPop x vs H Q := fun x vs H Q ⟨L, dx, ds, r, hl, S, e, k⟩ => by
  unfold popD at e
  split at e
  · rename_i xs
    obtain ⟨d, e2, e⟩ := mapS e
    cases e
    match vs, hl, S with
    | [], _, S =>
      have S : SL C.K H ((.l xs, x) :: L) := S
      obtain ⟨a, us, rfl, ha, hu, S1⟩ := S.open
      have h0 := (List.getElem?_eq_some_iff.mp e2).1
      have hj : us.length - 1 < us.length := by omega
      refine ⟨a, us, us[us.length - 1], rfl, rfl, ha, List.getElem?_eq_getElem hj, k _ _ ?_⟩
      have S2 := SL.write (vs' := us.dropLast) S1
      have S3 := S2.perm (List.Perm.cons _ ((zip_last hu e2 (List.getElem?_eq_getElem hj)).append_right _))
      exact (SL.close (by simp [hu]) (S3.perm (List.Perm.cons _ List.perm_middle.symm))).swp
  · cases e
theorem m_insert : ∀ x vs H Q, okM C.K insertD x vs H Q → (∃ (l : Addr) (xs : List V) (i : Int) (y : V), x = .ref l ∧ vs = [.int i, y] ∧ H l = some (.lst xs) ∧ xs.length < sizeLine ∧ 0 ≤ i ∧ i < 2 ^ 63 ∧ Q .non (upd H l (.lst (xs.take i.toNat ++ [y] ++ xs.drop i.toNat)))) := fun x vs H Q ⟨L, dx, ds, r, hl, S, e, k⟩ => by
  unfold insertD at e
  split at e
  · split at e
    · rename_i xs i d h
      cases e
      match vs, hl, S with
      | [w, y], _, S =>
        have S : SL C.K H ((.l xs, x) :: (.p (.int i), w) :: (d, y) :: L) := S
        have z := S.drop.dp
        cases z
        obtain ⟨a, us, rfl, ha, hu, S1⟩ := S.swp.drop.open
        refine ⟨a, us, i, y, rfl, rfl, ha, by rw [lineM]; omega, h.2.1, h.2.2, k _ _ (SL.flat ?_ fun _ => .non)⟩
        refine SL.close (ds := xs.take i.toNat ++ [d] ++ xs.drop i.toNat) (vs := us.take i.toNat ++ [y] ++ us.drop i.toNat) (by simp [hu]) ?_
        have S2 := SL.write (vs' := us.take i.toNat ++ [y] ++ us.drop i.toNat) S1
        refine S2.perm (List.Perm.cons _ ?_)
        have ez : xs.zip us = (xs.take i.toNat).zip (us.take i.toNat) ++ (xs.drop i.toNat).zip (us.drop i.toNat) := by
          rw [← zip_split (by simp [hu]), List.take_append_drop, List.take_append_drop]
        rw [ez, List.append_assoc, List.append_assoc, List.append_assoc, zip_split (by simp [hu]), List.append_assoc]
        exact List.Perm.append_left _ List.perm_middle
    · cases e
  · cases e
theorem m_extend : ∀ x vs H Q, okM C.K extendD x vs H Q → rExtend x vs H Q := fun x vs H Q ⟨L, dx, ds, r, hl, S, e, k⟩ => by
  unfold extendD at e
  split at e
  · split at e
    · rename_i xs ys h
      cases e
      match vs, hl, S with
      | [y], _, S =>
        have S : SL C.K H ((.l xs, x) :: (.l ys, y) :: L) := S
        obtain ⟨b, ws, rfl, hb, hw, S1⟩ := S.swp.open
        have S2 : SL C.K H ((.l xs, x) :: ((.c ws, .ref b) :: (ys.zip ws ++ L))) := S1.perm ((List.Perm.cons _ List.perm_middle).trans (.swap _ _ _))
        obtain ⟨a, us, rfl, ha, hu, S3⟩ := S2.open
        refine ⟨a, b, us, ws, rfl, rfl, ha, hb, by rw [lineM]; omega, k _ _ (SL.flat ?_ fun _ => .non)⟩
        refine SL.close (ds := xs ++ ys) (vs := us ++ ws) (by simp [hu, hw]) ?_
        rw [zip_split hu, List.append_assoc]
        have S4 := SL.write (vs' := us ++ ws) S3
        exact (S4.perm ((List.Perm.cons _ List.perm_middle).trans (.swap _ _ _))).drop
    · cases e
  · cases e
/-! a list within the list in a slot -/
/-- the slot's list opened, the slot left empty -/
theorem SL.openAt {xs : List D} {y : D} (S : SL K H (slots Γ σ ++ X)) (F : Fits Γ σ) (ex : Γ[i]? = some (some (.l xs))) (hy : xs[c]? = some y) : ∃ a vs u, σ[i]? = some (some (.ref a)) ∧ H a = some (.lst vs) ∧ xs.length = vs.length ∧ vs[c]? = some u ∧ SL K H ((y, u) :: (slots (Γ.set i none) σ ++ ((.c vs, .ref a) :: ((xs.eraseIdx c).zip (vs.eraseIdx c) ++ X)))) := by
  obtain ⟨v, hv, S1⟩ := S.take F ex
  obtain ⟨a, vs, rfl, ha, hl, S2⟩ := S1.open
  have hc : c < vs.length := by rw [← hl]; exact (List.getElem?_eq_some_iff.mp hy).1
  refine ⟨a, vs, vs[c], hv, ha, hl, List.getElem?_eq_getElem hc, S2.perm ?_⟩
  refine (List.Perm.cons _ ((zip_erase hy (List.getElem?_eq_getElem hc)).append_right _)).trans ?_
  refine (List.Perm.swap _ _ _).trans (List.Perm.cons _ ?_)
  refine (List.Perm.cons _ (swap3 _ _ _)).trans ?_
  exact List.perm_middle.symm
theorem zip_put {α β : Type} : ∀ {xs : List α} {us : List β} {k : Nat} {d : α} {y : β}, k < xs.length → us[k]? = some y → ((d, y) :: (xs.eraseIdx k).zip (us.eraseIdx k)).Perm ((xs.set k d).zip us)
  | x :: xs, u :: us, 0, d, y, h, h' => by
    simp at h'
    subst h'
    exact .refl _
  | x :: xs, u :: us, k + 1, d, y, h, h' => by
    have ih := zip_put (xs := xs) (us := us) (k := k) (d := d) (y := y) (by simpa using h) (by simpa using h')
    show ((d, y) :: (x, u) :: (xs.eraseIdx k).zip (us.eraseIdx k)).Perm ((x, u) :: (xs.set k d).zip us)
    exact (List.Perm.swap _ _ _).trans (ih.cons _)
theorem SL.shut {a : Addr} {xs : List D} {vs : List V} {y : D} {u : V} (S : SL K H ((y, u) :: (slots Γ σ ++ ((.c vs, .ref a) :: ((xs.eraseIdx c).zip (vs.eraseIdx c) ++ X))))) (F : Fits Γ σ) (hn : Γ[i]? = some none) (hv : σ[i]? = some (some (.ref a))) (hl : xs.length = vs.length) (hc : c < xs.length) (hu : vs[c]? = some u) :
    SL K H (slots (Γ.set i (some (.l (xs.set c y)))) σ ++ X) := by
  have S1 : SL K H ((.c vs, .ref a) :: (((xs.set c y).zip vs) ++ (slots Γ σ ++ X))) := S.perm (by
    refine (List.Perm.cons _ List.perm_middle).trans ((List.Perm.swap _ _ _).trans (List.Perm.cons _ ?_))
    refine (List.Perm.cons _ (swap3 _ _ _)).trans ?_
    exact (zip_put (d := y) hc hu).append_right _)
  exact SL.back (SL.close (by simpa using hl) S1) hn hv
theorem mutP_run {Q : VK} {r : V → List V → Hp → VK → Prop} {te : TE} (hte : ∀ σ H Q v xs vs u, σ[i]? = some (some v) → v = .ref (show Addr from xs) → SqL K H xs vs → vs[c]? = some u → Q u H → te σ H Q) (hr : ∀ x vs H Q, okM K o x vs H Q → r x vs H Q) (h : okE K (mutP o i c fa) σ H Q) : tBM K "list" r te (okA K ls fa) σ H Q := by
  obtain ⟨Γ, X, d, Γ', F, S, e, k⟩ := h
  unfold mutP at e
  split at e
  · rename_i xs ex
    split at e
    · rename_i ys ey
      obtain ⟨⟨ds, Γ1⟩, e1, e⟩ := bindS e
      obtain ⟨a, vs, u, hv, ha, hl, hu, S1⟩ := S.openAt F ex ey
      refine hte σ H _ _ a vs u hv rfl (.inl (.inl ha)) hu ⟨S1.tyL, _, _, ds, Γ1, F.unset, S1.perm List.perm_middle.symm, e1, fun H1 us F1 hl1 _ S2 => hr _ _ _ _ ?_⟩
      dsimp only at e
      split at e
      · rename_i en
        obtain ⟨⟨d1, y1⟩, e2, e⟩ := bindS e
        cases e
        refine ⟨_, .l ys, ds, _, hl1, S2.perm ((List.Perm.append_left _ List.perm_middle).trans List.perm_middle), e2, fun H2 w S3 => k H2 w (F1.put hv) ?_⟩
        have hc : c < xs.length := (List.getElem?_eq_some_iff.mp ey).1
        have S4 := SL.shut (X := (_, w) :: X) (y := y1) (u := u) (a := a) (S3.perm (by
          refine (List.Perm.swap _ _ _).trans (List.Perm.cons _ ?_)
          refine List.Perm.trans ?_ (List.Perm.append_left _ (List.Perm.cons _ List.perm_middle.symm))
          refine List.Perm.trans ?_ (List.Perm.append_left _ (.swap _ _ _))
          exact List.perm_middle.symm)) F1 en hv hl hc hu
        exact S4.perm List.perm_middle
      · cases e
    · cases e
  · cases e
theorem atI_nat {α : Type} {xs : List α} {x : α} (h : xs[c]? = some x) : atI xs ((c : Nat) : Int) = some x := by
  have hc := (List.getElem?_eq_some_iff.mp h).1
  unfold atI ixN
  rw [if_pos (by omega), if_pos (by omega)]
  exact h
theorem ix_te {pj : Nat} : ∀ σ H Q v xs vs u, σ[i]? = some (some v) → v = .ref (show Addr from xs) → SqL K H xs vs → vs[c]? = some u → Q u H → tOp (rIxL K) (tVar i) (tC (.int ((c : Nat) : Int))) σ H Q := fun σ H Q v xs vs u hv ev hq hu q => by
  subst ev
  exact ⟨_, hv, xs, vs, _, u, rfl, rfl, hq, atI_nat hu, q⟩
theorem ee_mutP {r : V → List V → Hp → VK → Prop} {bx : Expr} (pa : PlainAttrs "list") (slot : Slot "list" name id) (hty : typeOf (.builtin id) = pure (.type "method_descriptor")) (hm : MtR C id r) (hr : ∀ x vs H Q, okM C.K o x vs H Q → r x vs H Q) (hv : PE C bx (tOp (rIxL C.K) (tVar i) (tC (.int ((c : Nat) : Int))))) (ha : PA C (a :: es) (okA C.K ls fa))
    (hbase : attributeBase bx name C.env (eval bx C.env) = eval bx C.env := by rfl)
    (hfew : ((backTo cpos (starEach (a :: es) C.env)).all (fun x => !x.1) && (backToKw cpos (keywordEach [] C.env)).all (fun x => x.1.isSome) && decide ((a :: es).length + ([] : List Keyword).length + (if ([] : List Keyword).isEmpty then 0 else 1) < 30)) = true := by rfl)
    (hline : (apos.endLine == cpos.line) = true := by rfl) (hs : starEach (a :: es) C.env = (false, eval a C.env) :: starEach es C.env := by rfl) (hplain : (backTo cpos (starEach es C.env)).any (·.1) = false := by rfl) :
    PE C (.Call (.Attribute bx name apos) (a :: es) [] cpos) (okE C.K (mutP o i c fa)) := (pe_bm pa slot hty hm hv ha hbase hfew hline hs hplain).gimp fun σ H Q h => mutP_run (ix_te (pj := 0)) hr h
theorem rdP_run {Q : VK} {oo : D → D → Option D} {te : TE} (hte : ∀ σ H Q v xs vs u, σ[i]? = some (some v) → v = .ref (show Addr from xs) → SqL K H xs vs → vs[c]? = some u → Q u H → te σ H Q) (h : okE K (rdP oo i c g) σ H Q) : tOp (okR K oo) te (okE K g) σ H Q := by
  obtain ⟨Γ, X, d, Γ', F, S, e, k⟩ := h
  unfold rdP at e
  split at e
  · rename_i xs ex
    split at e
    · rename_i y ey
      obtain ⟨⟨z, Γ1⟩, e1, e⟩ := bindS e
      obtain ⟨a, vs, u, hv, ha, hl, hu, S1⟩ := S.openAt F ex ey
      refine hte σ H _ _ a vs u hv rfl (.inl (.inl ha)) hu ⟨_, _, z, Γ1, F.unset, S1.perm List.perm_middle.symm, e1, fun H1 w F1 S2 => ?_⟩
      dsimp only at e
      split at e
      · rename_i en
        obtain ⟨d1, e2, e⟩ := bindS e
        cases e
        refine ⟨_, y, z, _, S2.perm (List.Perm.cons _ List.perm_middle), e2, fun H2 t S3 => k H2 t (F1.put hv) ?_⟩
        have hc : c < xs.length := (List.getElem?_eq_some_iff.mp ey).1
        have S4 := SL.shut (X := (_, t) :: X) (y := y) (u := u) (a := a) (S3.perm (by
          refine (List.Perm.swap _ _ _).trans (List.Perm.cons _ ?_)
          refine List.Perm.trans ?_ (List.Perm.append_left _ (List.Perm.cons _ List.perm_middle.symm))
          refine List.Perm.trans ?_ (List.Perm.append_left _ (.swap _ _ _))
          exact List.perm_middle.symm)) F1 en hv hl hc hu
        rw [set_same ey] at S4
        exact S4.perm List.perm_middle
      · cases e
    · cases e
  · cases e
theorem et_cmpP {op : CmpOp} {oo : D → D → Option D} {bx : Expr} (ho : OpR C (compareOp op) (okR C.K oo)) (hv : PE C bx (tOp (rIxL C.K) (tVar i) (tC (.int ((c : Nat) : Int))))) (hb : PE C b (okE C.K g)) (hm : behindInMarks op b = false) : PT C (.Compare bx [op] [b] pos) (okT C.K (isT (rdP oo i c g))) :=
  (pt_cmpR ho hv hb hm).gimp fun σ H Q h => rdP_run (ix_te (pj := 0)) (isT_run h)
/-! x[e] = .. -/
def gset (i : Nat) (g : M) : MG := fun d Γ => match Γ[i]? with
  | some (some (.l _)) => (g Γ).bind fun r => match r.2[i]?, r.1 with
    | some (some (.l xs)), .p (.int k) => (ixN xs.length k).map fun j => r.2.set i (some (.l (xs.set j d)))
    | _, _ => none
  | _ => none
theorem eg_set {ro : Nat → Prop} {x : Str} (h : PG C (.Subscript (.Name x p) b pos) (gSub (tVar i) (okE C.K g) rSetL)) : PG C (.Subscript (.Name x p) b pos) (okG C.K ro (gset i g)) := h.gimp fun v σ H Q ⟨Γ, X, d, Γ', F, S, e, k⟩ => by
  unfold gset at e
  split at e
  · rename_i xs0 ex0
    obtain ⟨⟨z, Γ1⟩, e1, e⟩ := bindS e
    obtain ⟨u, hu⟩ := F.has _ _ ex0
    refine ⟨u, hu, Γ, (d, v) :: X, z, Γ1, F, S.perm List.perm_middle.symm, e1, fun H1 w F1 S1 => ?_⟩
    dsimp only at e
    split at e
    · rename_i xs n ex
      obtain ⟨j, e2, e⟩ := mapS e
      cases e
      have zz := S1.dp
      cases zz
      obtain ⟨u', hu', S2⟩ := SL.take S1.drop F1 ex
      obtain rfl : u = u' := Option.some.inj (Option.some.inj (hu.symm.trans hu'))
      obtain ⟨a, vs, rfl, ha, hl, S3⟩ := S2.open
      have hj : j < xs.length := ixN_lt e2
      refine ⟨a, vs, n, j, rfl, rfl, ha, by rw [← hl]; exact e2, k σ _ .refl (F1.put hu) ?_⟩
      have hj' : j < vs.length := by rw [← hl]; exact hj
      have S4 := SL.write (vs' := vs.set j v) S3
      have S5 : SL C.K (upd H1 a (.lst (vs.set j v))) ((.c (vs.set j v), .ref a) :: ((xs.set j d).zip (vs.set j v) ++ (slots (Γ1.set i none) σ ++ X))) := by
        have P1 := zip_erase (List.getElem?_eq_getElem hj) (List.getElem?_eq_getElem hj')
        have P2 : ((d, v) :: (xs.eraseIdx j).zip (vs.eraseIdx j)).Perm ((xs.set j d).zip (vs.set j v)) := by
          have q := zip_put (xs := xs) (us := vs.set j v) (k := j) (d := d) (y := v) hj (get_set hj')
          rwa [List.eraseIdx_set_eq] at q
        have S6 := (S4.perm (List.Perm.cons _ (P1.append_right _))).swp.drop
        refine S6.perm (List.Perm.cons _ ?_)
        refine ((List.Perm.append_left _ List.perm_middle).trans List.perm_middle).trans ?_
        exact P2.append_right _
      have S7 := SL.back (i := i) (SL.close (by simpa using hl) S5) (get_set (List.getElem?_eq_some_iff.mp ex).1) hu
      rw [List.set_set] at S7
      exact S7
    · cases e
  · cases e
end
end GH
namespace L2
open PySem PySem.Spec PyProof.Rows
theorem tuple_mulW1 (l : Addr) (items : Array Value) (n : Nat) (dd : Option Addr) (sl : Array (Option Value)) (u : Tok) :
    Meets (Builtin.«tuple.__mul__» ⟨[.ref l, .int 1 u], []⟩) (fun _ R s => s.heap.get? l = some { cls := .type "tuple", dict := dd, data := .seq items n, slots := sl } ∧ R (.ok (.ret (Value.ref l))) s) :=
  .of_wp fun prog w A R s h => by
    obtain ⟨hp, g, d, tk, os⟩ := s
    obtain ⟨hl, h⟩ := h
    have f1 := AutoSeq1.idx_int
    have c0 : (decide ((1 : Int) < -(2 ^ 63)) || decide ((1 : Int) ≥ 2 ^ 63)) = false := by decide
    have c1 : (items.isEmpty || (1 : Int) == 1) = true := by simp
    wp_walk using wpAny_loadPart' hl
    repeat (first
      | (refine wpAny_ite_false (decide_eq_false (by rw [c0]; exact Bool.false_ne_true)) ?_; wp_walk using wpAny_loadPart' hl)
      | (refine wpAny_ite_true (decide_eq_true (by rw [c1])) ?_; wp_walk using wpAny_loadPart' hl))
    exact ⟨_, rfl, h⟩
def rRepT1 (K : PySem.W.Frag) : R2 := fun x y H Q => ∃ l xs, x = .ref l ∧ y = .int 1 ∧ SqT K H l xs ∧ Q (.ref l) H
theorem op_repT1 {X : Cx} : OpR X (binaryOp .Mult) (rRepT1 X.K) := by
  intro pins s σ H x y v u Q I rx ry h
  obtain ⟨l, xs, rfl, rfl, hT, q⟩ := h
  cases rx
  obtain ⟨t, rfl⟩ := ry
  obtain ⟨its, r, ⟨⟨cls, dd, data, sl⟩, ho, hc, n, hd⟩, hs⟩ := I.tuple hT
  simp only at hc hd
  subst hc hd
  refine wpAny_binaryOp_repeat_ref (T := "tuple") (U := "int") (by decide) ⟨_, ho, rfl⟩ (fun s' => typeIs_int s' 1 t) noFill_tuple_mul F.fills_int_mul F.slot_int_rmul repeat_tuple F.slot_int_index.lookup
    (call_meets F.slot_int_rmul (typeIs_int s 1 t) F.entry_int_rmul (F.args_int_rmul_2 _ _) (int_rmul_tuple 1 t l its.toArray n dd sl)
      ⟨ho, rfl, ⟨_, ho, rfl⟩, call_meets F.slot_tuple_mul ⟨_, ho, rfl⟩ F.entry_tuple_mul (F.args_tuple_mul_2 _ _) (tuple_mulW1 l its.toArray n dd sl t) ⟨ho, ?_⟩⟩)
  exact ⟨.ref l, H, I, rfl, q⟩
theorem tuple_mulW0 (l : Addr) (items : Array Value) (n : Nat) (dd : Option Addr) (sl : Array (Option Value)) (x : Int) (u : Tok) (c0 : (decide (x < -(2 ^ 63)) || decide (x ≥ 2 ^ 63)) = false) (c1 : (items.isEmpty || x == 1) = false) (c2 : (decide (x ≤ 0) || items.isEmpty) = true) :
    Meets (Builtin.«tuple.__mul__» ⟨[.ref l, .int x u], []⟩) (fun _ R s => s.heap.get? l = some { cls := .type "tuple", dict := dd, data := .seq items n, slots := sl } ∧
      R (.ok (.ret (Value.ref s.heap.objs.size))) { s with heap := s.heap.push { cls := Value.type "tuple", data := Data.seq #[] }, toks := s.toks }) :=
  .of_wp fun prog w A R s h => by
    obtain ⟨hp, g, d, tk, os⟩ := s
    obtain ⟨hl, h⟩ := h
    have f1 := AutoSeq1.idx_int
    wp_walk using wpAny_loadPart' hl
    repeat (first
      | (refine wpAny_ite_false (decide_eq_false (by rw [c0]; exact Bool.false_ne_true)) ?_; wp_walk using wpAny_loadPart' hl)
      | (refine wpAny_ite_false (decide_eq_false (by rw [c1]; exact Bool.false_ne_true)) ?_; wp_walk using wpAny_loadPart' hl)
      | (refine wpAny_ite_true (decide_eq_true (by rw [c2])) ?_; wp_walk using wpAny_loadPart' hl))
    exact ⟨_, rfl, h⟩
def rRepT0 (K : PySem.W.Frag) : R2 := fun x y H Q => ∃ l k xs, x = .ref l ∧ y = .int k ∧ SqT K H l xs ∧ xs ≠ [] ∧ -1000 ≤ k ∧ k ≤ 0 ∧ ∀ p, H p = none → Q (.ref p) (upd H p (.tup []))
theorem op_repT0 {X : Cx} : OpR X (binaryOp .Mult) (rRepT0 X.K) := by
  intro pins s σ H x y v u Q I rx ry h
  obtain ⟨l, k, xs, rfl, rfl, hT, hne, h1, h2, q⟩ := h
  cases rx
  obtain ⟨t, rfl⟩ := ry
  obtain ⟨its, r, ⟨⟨cls, dd, data, sl⟩, ho, hc, n, hd⟩, hs⟩ := I.tuple hT
  simp only at hc hd
  subst hc hd
  have hi : its.toArray.isEmpty = false := by
    cases its with
    | nil =>
      cases r
      exact absurd rfl hne
    | cons a b => rfl
  have c0 : (decide (k < -(2 ^ 63)) || decide (k ≥ 2 ^ 63)) = false := by
    rw [decide_eq_false (by omega), decide_eq_false (by omega)] <;> rfl
  have c1 : (its.toArray.isEmpty || k == 1) = false := by
    rw [hi, Bool.false_or]
    exact beq_eq_false_iff_ne.mpr (by omega)
  have c2 : (decide (k ≤ 0) || its.toArray.isEmpty) = true := by
    rw [decide_eq_true h2]
    rfl
  refine wpAny_binaryOp_repeat_ref (T := "tuple") (U := "int") (by decide) ⟨_, ho, rfl⟩ (fun s' => typeIs_int s' k t) noFill_tuple_mul F.fills_int_mul F.slot_int_rmul repeat_tuple F.slot_int_index.lookup
    (call_meets F.slot_int_rmul (typeIs_int s k t) F.entry_int_rmul (F.args_int_rmul_2 _ _) (int_rmul_tuple k t l its.toArray n dd sl)
      ⟨ho, rfl, ⟨_, ho, rfl⟩, call_meets F.slot_tuple_mul ⟨_, ho, rfl⟩ F.entry_tuple_mul (F.args_tuple_mul_2 _ _) (tuple_mulW0 l its.toArray n dd sl k t c0 c1 c2) ⟨ho, ?_⟩⟩)
  refine ⟨.ref s.heap.objs.size, _, I.laid (t' := s.toks) (o := .tup []) (fun b ob q => Heap.get?_push_of_some _ q) (Nat.le_refl _) ?_, rfl, q _ (I.hok.fresh (Nat.le_refl _))⟩
  exact ⟨Nat.zero_le _, [], .nil, IsTup.new _ _⟩
end L2
namespace HT
open PySem PyProof.Rows
open PySem.SeqAt
open PySem.MeetsSeq PySem.MeetsSeq2 PySem.MeetsSeq3
section
variable {prog : Program} {w : World} {A : Around} {E : Value → Shared → Prop} {s : Shared}
/-- the whole of a tuple is the tuple itself -/
theorem gh_whole {t sl : Addr} {items : Array Value} {vl vu : Value} {lo hi : Option Int} {Q : Value → Shared → Prop} (ht : IsTup s.heap t items) (hs : s.heap.IsSliceOf sl vl vu .none) (pl : IsPart vl lo) (pu : IsPart vu hi)
    (hw : sIx items.size 0 lo = 0 ∧ sIx items.size items.size hi = items.size) (h : Q (.ref t) s) : wpAny (model prog w) A (getItem (.ref t) (.ref sl)) Q E s := by
  obtain ⟨os, hos, hcs, hds⟩ := id hs
  have slT : s.TypeIs (.ref sl) "slice" := ⟨os, hos, hcs⟩
  unfold getItem
  try with_reducible refine wpAny_holding ?_
  first | refine wpAny_bind (wpAny_pure ?_) | skip
  refine wpAny_bind (wpAny_sequenceKey ht.typeIs (by decide) (wpAny_bind ?_))
  refine wpAny_callSpecial?_slot (name := Str.ofString "__getitem__") ht.typeIs PyProof.Rows.slot_tuple_getitem ?_
  refine wpAny_call_entry PyProof.Rows.slot_tuple_getitem ht.typeIs entry_tuple_getitem ?_ (args_tuple_getitem _ _)
  show wpAny _ _ (Builtin.Tuple.tupleItemsOf (.ref t) >>= _) _ _ s
  refine wpAny_bind (tupleItemsOf_ ht (wpAny_bind (wpAny_typeOf slT ?_)))
  rw [if_pos (by decide)]
  refine wpAny_bind (sliceApplied_gen hs pl pu ?_)
  have yes : (((sIx items.size 0 lo : Nat) : Int) == 0 && (1 : Int) == 1 && (sIx items.size items.size hi - sIx items.size 0 lo) == items.size) = true := by
    rw [hw.1, hw.2]
    simp
  show wpAny _ _ (if (((sIx items.size 0 lo : Nat) : Int) == 0 && (1 : Int) == 1 && (sIx items.size items.size hi - sIx items.size 0 lo) == items.size) = true then _ else _) _ _ s
  rw [if_pos yes]
  refine wpAny_bind ?_
  show wpAny _ _ (do return (← typeOf (.ref t)) == .type "tuple") _ _ s
  refine wpAny_bind (wpAny_typeOf ht.typeIs (wpAny_pure ?_))
  rw [if_pos (by decide)]
  exact wpAny_bind (wpAny_rule (wpAny_pure ⟨_, rfl, wpAny_pure h⟩))
end
end HT
namespace GH
open PySem L2
/-! ### slices -/
def flatP : List D → Option (List PyData)
  | [] => some []
  | .p q :: xs => (flatP xs).map (q :: ·)
  | _ :: _ => none
theorem flatP_eq : ∀ {xs : List D} {ds : List PyData}, flatP xs = some ds → xs = ds.map .p
  | [], _, e => by
    cases e
    rfl
  | .p q :: xs, _, e => by
    obtain ⟨ds, e1, rfl⟩ := mapS e
    rw [flatP_eq e1]
    rfl
def cutD : D → Option Int → Option Int → Option D
  | .p (.tuple ds), lo, hi => some (.p (.tuple (cutL ds lo hi)))
  | .p (.list ds), lo, hi => some (.l ((cutL ds lo hi).map .p))
  | .p (.str s), lo, hi => if s.length ≤ sizeLine then some (.p (.str (cutS s lo hi))) else none
  | .l xs, lo, hi => (flatP xs).map fun ds => .l ((cutL ds lo hi).map .p)
  | _, _, _ => none
abbrev MP := Nv → Option (Option Int × Nv)
def okP (K : PySem.W.Frag) (p : MP) : TO := fun σ H Q => ∃ Γ X o Γ', Fits Γ σ ∧ SL K H (slots Γ σ ++ X) ∧ p Γ = some (o, Γ') ∧ ∀ H', Fits Γ' σ → SL K H' (slots Γ' σ ++ X) → Q o H'
def noP : MP := fun Γ => some (none, Γ)
def someP (f : M) : MP := fun Γ => (f Γ).bind fun r => match r.1 with
  | .p (.int i) => some (some i, r.2)
  | _ => none
def sliceM (f : M) (lo hi : MP) : M := fun Γ => (f Γ).bind fun r => (lo r.2).bind fun l => (hi l.2).bind fun h => (cutD r.1 l.1 h.1).map fun d => (d, h.2)
def sliceN (i : Nat) (lo hi : MP) : M := fun Γ => match Γ[i]? with
  | some (some _) => (lo Γ).bind fun l => (hi l.2).bind fun h => match h.2[i]? with
    | some (some x) => (cutD x l.1 h.1).map fun d => (d, h.2)
    | _ => none
  | _ => none
section
variable {C : Cx} {e : Expr} {f : M} {lo hi : Option Expr} {ml mh : MP} {pos p p2 : Pos} {i : Nat}
theorem eo_none : PO C none (okP C.K noP) := ⟨fun pins s σ H Q I ⟨Γ, X, o, Γ', F, S, e, k⟩ => by
  cases e
  exact po_none.run pins s σ H Q I (k H F S)⟩
theorem eo_some (h : PE C e (okE C.K f)) : PO C (some e) (okP C.K (someP f)) := ⟨fun pins s σ H Q I ⟨Γ, X, o, Γ', F, S, e, k⟩ => by
  obtain ⟨⟨d, Γ1⟩, e1, e⟩ := bindS e
  dsimp only at e
  split at e
  · rename_i n
    cases e
    refine (po_some h).run pins s σ H Q I ⟨Γ, X, _, _, F, S, e1, fun H1 v F1 S1 => ?_⟩
    have z := S1.dp
    cases z
    exact ⟨n, rfl, k H1 F1 S1.drop⟩
  · cases e⟩
theorem sl_tupW : SlR C (fun x lo hi H Q => ∃ a xs, x = .ref a ∧ SqT C.K H a xs ∧ (HT.sIx xs.length 0 lo = 0 ∧ HT.sIx xs.length xs.length hi = xs.length) ∧ Q x H) := by
  intro pins s σ H x v vl vu lo hi sl Q I rx hs pl pu h
  obtain ⟨a, xs, rfl, hx, hw, q⟩ := h
  cases rx
  obtain ⟨its, r, ht, hz⟩ := I.tuple hx
  have hlen : its.toArray.size = xs.length := by rw [List.size_toArray]; exact r.length.symm
  exact ⟨"tuple", _, PyProof.Rows.slot_tuple_getitem.lookup, ht.typeIs, HT.gh_whole ht hs pl pu (by rw [hlen]; exact hw) ⟨.ref a, H, I, rfl, q⟩⟩
theorem cutL_map {α β : Type} (g : α → β) (xs : List α) (lo hi : Option Int) : cutL (xs.map g) lo hi = (cutL xs lo hi).map g := by
  unfold cutL
  rw [List.length_map, List.map_take, List.map_drop]
theorem zip_cut {α β : Type} {xs : List α} {us : List β} (h : xs.length = us.length) (lo hi : Option Int) : (cutL xs lo hi).zip (cutL us lo hi) = cutL (xs.zip us) lo hi := by
  have e : (xs.zip us).length = xs.length := by simp [h]
  unfold cutL
  rw [e, ← h]
  simp only [List.zip_eq_zipWith, List.drop_zipWith, List.take_zipWith]
theorem cutL_len {α β : Type} {xs : List α} {us : List β} (h : xs.length = us.length) (lo hi : Option Int) : (cutL xs lo hi).length = (cutL us lo hi).length := by
  unfold cutL
  rw [List.length_take, List.length_take, List.length_drop, List.length_drop, h]
theorem cutL_sub {α : Type} (xs : List α) (lo hi : Option Int) : (cutL xs lo hi).Sublist xs := (List.take_sublist _ _).trans (List.drop_sublist _ _)
/-- frozen items are copied, all of them -/
theorem SL.dupAll {K : PySem.W.Frag} {H : Hp} : ∀ {ds : List PyData} {xs : List V} {L : List (D × V)}, ds.length = xs.length → SL K H ((ds.map D.p).zip xs ++ L) → SL K H ((ds.map D.p).zip xs ++ ((ds.map D.p).zip xs ++ L))
  | [], [], _, _, S => S
  | d :: ds, x :: xs, L, h, S => by
    have S1 : SL K H ((.p d, x) :: (.p d, x) :: ((ds.map D.p).zip xs ++ L)) := SL.dup S
    have S2 := SL.dupAll (L := (.p d, x) :: (.p d, x) :: L) (Nat.succ.inj h) (S1.perm ((List.Perm.cons _ List.perm_middle.symm).trans List.perm_middle.symm))
    refine S2.perm ?_
    show ((ds.map D.p).zip xs ++ ((ds.map D.p).zip xs ++ (.p d, x) :: (.p d, x) :: L)).Perm ((.p d, x) :: ((ds.map D.p).zip xs ++ ((.p d, x) :: ((ds.map D.p).zip xs ++ L))))
    refine (List.Perm.append_left _ (List.perm_middle.trans (List.Perm.cons _ List.perm_middle))).trans ?_
    exact List.perm_middle
theorem r_slice : SlR C (fun x lo hi H Q => ∃ L dx d, SL C.K H ((dx, x) :: L) ∧ cutD dx lo hi = some d ∧ ∀ H' v, SL C.K H' ((d, v) :: (dx, x) :: L) → Q v H') := by
  intro pins s σ H x v vl vu lo hi sl Q I rx hs pl pu h
  obtain ⟨L, dx, d, S, e, k⟩ := h
  refine ((sl_tup.or sl_tupW).or (sl_list.or sl_str)) pins s σ H x v vl vu lo hi sl Q I rx hs pl pu ?_
  unfold cutD at e
  split at e
  · rename_i ds
    cases e
    obtain ⟨a, xs, rfl, hx, hl, S1⟩ := S.items
    by_cases hw : HT.sIx xs.length 0 lo = 0 ∧ HT.sIx xs.length xs.length hi = xs.length
    · refine .inl (.inr ⟨a, xs, rfl, hx, hw, k _ _ ?_⟩)
      have : cutL ds lo hi = ds := by
        unfold cutL
        rw [hl, hw.1, hw.2, Nat.sub_zero, List.drop_zero, ← hl, List.take_length]
      rw [this]
      exact S.dup
    · refine .inl (.inl ⟨a, xs, rfl, hx, hw, fun p hp => k _ _ ?_⟩)
      refine SL.tup (cutL_len hl lo hi) ?_ hp
      refine S1.sub ?_
      rw [← cutL_map]
      show ((cutL (ds.map D.p) lo hi).zip (cutL xs lo hi) ++ _).Sublist _
      rw [zip_cut (by simpa using hl)]
      exact (cutL_sub _ _ _).append_right _
  · rename_i ds
    cases e
    obtain ⟨a, xs, rfl, hx, hl, S1⟩ := S.itemsL
    refine .inr (.inl ⟨a, xs, rfl, hx, fun p hp => k _ _ ?_⟩)
    refine SL.close (by simpa [cutL_V] using cutL_len hl lo hi) (SL.newc ?_ hp)
    refine S1.sub ?_
    rw [← cutL_map]
    show ((cutL (ds.map D.p) lo hi).zip (cutL xs lo hi) ++ _).Sublist _
    rw [zip_cut (by simpa using hl)]
    exact (cutL_sub _ _ _).append_right _
  · split at e
    · rename_i h
      cases e
      have z := S.dp
      cases z
      exact .inr (.inr ⟨_, rfl, h, k _ _ (S.flat fun _ => .str _)⟩)
    · cases e
  · rename_i xs0
    obtain ⟨ds, e1, rfl⟩ := mapS e
    have e2 := flatP_eq e1
    subst e2
    obtain ⟨a, xs, rfl, hx, hl, S1⟩ := S.open
    have hl' : ds.length = xs.length := by simpa using hl
    refine .inr (.inl ⟨a, xs, rfl, .inl (.inl hx), fun p hp => k _ _ ?_⟩)
    refine SL.close (by simpa [cutL_V] using cutL_len hl' lo hi) (SL.newc ?_ hp)
    have S2 := SL.dupAll (L := (.c xs, .ref a) :: L) hl' (S1.perm List.perm_middle.symm)
    have S3 : SL C.K H ((ds.map D.p).zip xs ++ ((.l (ds.map .p), .ref a) :: L)) := by
      have := SL.close (L := (ds.map D.p).zip xs ++ L) hl (S2.perm (by
        refine (List.Perm.append_left _ List.perm_middle).trans (List.perm_middle.trans (List.Perm.cons _ ?_))
        exact .refl _))
      exact this.perm List.perm_middle.symm
    refine S3.sub ?_
    rw [← cutL_map]
    show ((cutL (ds.map D.p) lo hi).zip (cutL xs lo hi) ++ _).Sublist _
    rw [zip_cut hl]
    exact (cutL_sub _ _ _).append_right _
  · cases e
theorem ee_slice (he : PE C e (okE C.K f)) (hl : PO C lo (okP C.K ml)) (hh : PO C hi (okP C.K mh)) : PE C (.Subscript e (.Slice lo hi none p2) pos) (okE C.K (sliceM f ml mh)) := (pe_slice r_slice he hl hh).gimp fun σ H Q ⟨Γ, X, d, Γ', F, S, e, k⟩ => by
  obtain ⟨⟨x, Γ1⟩, e1, e⟩ := bindS e
  obtain ⟨⟨l, Γ2⟩, e2, e⟩ := bindS e
  obtain ⟨⟨h, Γ3⟩, e3, e⟩ := bindS e
  obtain ⟨d', e4, e⟩ := mapS e
  cases e
  refine ⟨Γ, X, x, Γ1, F, S, e1, fun H1 v F1 S1 => ⟨Γ1, (x, v) :: X, l, Γ2, F1, S1.perm List.perm_middle.symm, e2, fun H2 F2 S2 => ⟨Γ2, (x, v) :: X, h, _, F2, S2, e3, fun H3 F3 S3 => ?_⟩⟩⟩
  exact ⟨_, x, _, S3.perm List.perm_middle, e4, fun H4 w S4 => k H4 w F3 (S4.swp.drop)⟩
theorem ee_sliceN {x : Str} (hv : PE C (.Name x p) (tVar i)) (hl : PO C lo (okP C.K ml)) (hh : PO C hi (okP C.K mh)) : PE C (.Subscript (.Name x p) (.Slice lo hi none p2) pos) (okE C.K (sliceN i ml mh)) := (pe_slice r_slice hv hl hh).gimp fun σ H Q ⟨Γ, X, d, Γ', F, S, e, k⟩ => by
  unfold sliceN at e
  split at e
  · rename_i x0 ex0
    obtain ⟨⟨l, Γ2⟩, e2, e⟩ := bindS e
    obtain ⟨⟨h, Γ3⟩, e3, e⟩ := bindS e
    dsimp only at e
    split at e
    · rename_i y ey
      obtain ⟨d', e4, e⟩ := mapS e
      cases e
      obtain ⟨v, hv⟩ := F.has _ _ ex0
      refine ⟨v, hv, Γ, X, l, Γ2, F, S, e2, fun H2 F2 S2 => ⟨Γ2, X, h, _, F2, S2, e3, fun H3 F3 S3 => ?_⟩⟩
      obtain ⟨v', hv', S4⟩ := S3.take F3 ey
      obtain rfl : v = v' := Option.some.inj (Option.some.inj (hv.symm.trans hv'))
      refine ⟨_, y, _, S4, e4, fun H4 w S5 => k H4 w F3 ?_⟩
      have hi : i < Γ'.length := (List.getElem?_eq_some_iff.mp ey).1
      have S6 := SL.back (i := i) (X := (_, w) :: X) (S5.swp.perm (List.perm_middle.symm.cons _)) (get_set hi) hv
      rw [List.set_set, set_same ey] at S6
      exact S6.perm List.perm_middle
    · cases e
  · cases e
end
/-! ### more operators -/
def smulD : D → D → Option D
  | .p (.str x), .p (.int n) => if 0 ≤ n ∧ n ≤ 1000 ∧ x.length ≤ 1000 then some (.p (.str (Txt.mul x n))) else none
  | .l xs, .p (.int n) => if 0 ≤ n ∧ n ≤ 1000 ∧ xs.length ≤ 1000 then (flatP xs).map fun ds => .l ((List.replicate n.toNat ds).flatten.map .p) else none
  | .p (.tuple ds), .p (.int n) => if ds ≠ [] ∧ -1000 ≤ n ∧ n ≤ 1000 ∧ ds.length ≤ 1000 then some (.p (.tuple (List.replicate n.toNat ds).flatten)) else none
  | x, y => mulD x y
theorem op_mulS {C : Cx} : OpR C (binaryOp .Mult) (fun x y H Q => ∃ z n, x = .str z ∧ y = .int n ∧ 0 ≤ n ∧ n ≤ 1000 ∧ z.length ≤ 1000 ∧ Q (.str (Txt.mul z n)) H) := by
  intro pins s σ H x y v u Q I rx ry h
  obtain ⟨z, n, rfl, rfl, h0, h1, h2, q⟩ := h
  obtain ⟨t, rfl⟩ := rx
  obtain ⟨t', rfl⟩ := ry
  refine SB.mul ⟨?_, fun a b => ?_, fun a b => ?_⟩ fun t' k => ⟨.str _, H, I.tok _, ⟨_, rfl⟩, q⟩
  · rw [decide_eq_false (by omega), decide_eq_false (by omega)]
    rfl
  · have h3 : (z.length : Int) * n ≤ 1000 * 1000 := Int.mul_le_mul (by omega) h1 h0 (by omega)
    have h4 : (z.length : Int) ≤ (2 ^ 63 - 1) / n := Int.le_ediv_of_mul_le (by omega) (by omega)
    omega
  · unfold PySem.Builtin.Str.tooLong
    have : z.length * n.toNat ≤ 1000 * 1000 := Nat.mul_le_mul h2 (by omega)
    have e2 : sizeLine = 16777216 := by decide
    simp
    omega
theorem zip_rep {α β : Type} {xs : List α} {us : List β} (h : xs.length = us.length) : ∀ n : Nat, (List.replicate n xs).flatten.zip (List.replicate n us).flatten = (List.replicate n (xs.zip us)).flatten
  | 0 => rfl
  | n + 1 => by
    rw [List.replicate_succ, List.replicate_succ, List.replicate_succ, List.flatten_cons, List.flatten_cons, List.flatten_cons, zip_split h, zip_rep h n]
theorem SL.rep {K : PySem.W.Frag} {H : Hp} {ds : List PyData} {xs : List V} {L : List (D × V)} (h : ds.length = xs.length) (S : SL K H ((ds.map D.p).zip xs ++ L)) : ∀ n : Nat, SL K H ((List.replicate n ((ds.map D.p).zip xs)).flatten ++ ((ds.map D.p).zip xs ++ L))
  | 0 => S
  | n + 1 => by
    have S1 := SL.rep h S n
    have S2 := SL.dupAll (L := (List.replicate n ((ds.map D.p).zip xs)).flatten ++ L) h (S1.perm (swap3 _ _ _))
    rw [List.replicate_succ, List.flatten_cons, List.append_assoc]
    exact S2.perm (List.Perm.append_left _ (swap3 _ _ _))
theorem map_rep {ds : List PyData} (n : Nat) : (List.replicate n ds).flatten.map D.p = (List.replicate n (ds.map D.p)).flatten := by
  rw [List.map_flatten, List.map_replicate]
theorem len_rep {α : Type} {xs : List α} : ∀ n : Nat, (List.replicate n xs).flatten.length = n * xs.length := fun n => by simp
theorem o_smul {C : Cx} : OpR C (binaryOp .Mult) (okO C.K smulD) := oI ((op_mulG.galt op_mulS).galt (op_rep.galt (op_repT.galt (op_repT1.galt op_repT0)))) fun {dx dy d x y H Q} e L S k => by
  unfold smulD at e
  split at e
  · split at e
    · rename_i h
      cases e
      obtain ⟨a, b, S'⟩ := two S
      cases a
      cases b
      exact .inl (.inr ⟨_, _, rfl, rfl, h.1, h.2.1, h.2.2, k _ _ (S'.flat fun _ => .str _)⟩)
    · cases e
  · split at e
    · rename_i xs n h
      obtain ⟨ds, e1, rfl⟩ := mapS e
      have e2 := flatP_eq e1
      subst e2
      have z := S.dp
      cases z
      obtain ⟨a, us, rfl, ha, hl, S1⟩ := S.drop.open
      have hl' : ds.length = us.length := by simpa using hl
      have hb : us.length * n.toNat ≤ 1000 * 1000 := Nat.mul_le_mul (by rw [← hl]; exact h.2.2) (by omega)
      refine .inr (.inl ⟨a, n, us, rfl, rfl, ha, by omega, by omega, by rw [lineM]; omega, fun p hp => k _ _ ?_⟩)
      refine SL.close (by rw [List.length_map, len_rep, len_rep, hl']) (SL.newc ?_ hp)
      rw [map_rep, zip_rep (by simpa using hl')]
      have S2 := SL.rep (L := L) hl' S1.drop n.toNat
      exact S2.sub (List.Sublist.append_left (List.sublist_append_right _ _) _)
    · cases e
  · split at e
    · rename_i ds n h
      cases e
      have z := S.dp
      cases z
      by_cases h1 : n = 1
      · subst h1
        have e1 : (List.replicate (1 : Int).toNat ds).flatten = ds := by simp
        rw [e1] at k
        have S0 := S.drop
        obtain ⟨a, us, rfl, ha, hl, S1⟩ := S.drop.items
        exact .inr (.inr (.inr (.inl ⟨a, us, rfl, rfl, ha, k _ _ S0⟩)))
      by_cases h2 : n ≤ 0
      · obtain ⟨a, us, rfl, ha, hl, S1⟩ := S.drop.items
        refine .inr (.inr (.inr (.inr ⟨a, n, us, rfl, rfl, ha, ?_, h.2.1, h2, fun p hp => k _ _ ?_⟩)))
        · intro z
          rw [z] at hl
          exact h.1 (List.eq_nil_of_length_eq_zero hl)
        · have e0 : (List.replicate n.toNat ds).flatten = [] := by
            rw [show n.toNat = 0 by omega]
            rfl
          rw [e0]
          exact SL.tup (ds := []) (vs := []) rfl S1.dropA.drop hp
      obtain ⟨a, us, rfl, ha, hl, S1⟩ := S.drop.items
      refine .inr (.inr (.inl ⟨a, n, us, rfl, rfl, ha, ?_, by omega, h.2.2.1, by rw [← hl]; exact h.2.2.2, fun p hp => k _ _ ?_⟩))
      · intro z
        rw [z] at hl
        exact h.1 (List.eq_nil_of_length_eq_zero hl)
      · refine SL.tup (by rw [len_rep, len_rep, hl]) ?_ hp
        rw [map_rep, zip_rep (by simpa using hl)]
        have S2 := SL.rep hl S1 n.toNat
        refine S2.sub (List.Sublist.append_left ?_ _)
        exact (List.sublist_cons_self _ _).trans (List.sublist_append_right _ _)
    · cases e
  · unfold mulD at e
    split at e
    · split at e
      · rename_i h
        cases e
        obtain ⟨rfl, rfl, S'⟩ := ints2 S
        exact .inl (.inl ⟨_, _, rfl, rfl, h, k _ _ (S'.flat fun _ => .int _)⟩)
      · cases e
    · cases e
def max2D : List D → Option D
  | [.p (.int i), .p (.int j)] => some (.p (.int (if j > i then j else i)))
  | _ => none
def min2D : List D → Option D
  | [.p (.int i), .p (.int j)] => some (.p (.int (if j < i then j else i)))
  | _ => none
section
variable {C : Cx}
theorem c_max2 (hc : C.calm = true) : CallR C (.builtin "max") (okC C.K max2D) := (call_max2 hc).gimp fun vs H Q ⟨L, ds, d, hl, S, e, k⟩ => by
  unfold max2D at e
  split at e
  · cases e
    obtain ⟨rfl, S'⟩ := argInts hl S
    exact ⟨_, _, rfl, k _ _ (S'.flat fun _ => .int _)⟩
  · cases e
theorem c_min2 (hc : C.calm = true) : CallR C (.builtin "min") (okC C.K min2D) := (call_min2 hc).gimp fun vs H Q ⟨L, ds, d, hl, S, e, k⟩ => by
  unfold min2D at e
  split at e
  · cases e
    obtain ⟨rfl, S'⟩ := argInts hl S
    exact ⟨_, _, rfl, k _ _ (S'.flat fun _ => .int _)⟩
  · cases e
end
/-! ### calls with keywords -/
/-- n positional values, keywords ks; the parameter j takes the pi_j-th of all values -/
structure KwB (K : PySem.W.Frag) (fd : FuncData) (ps : List Str) (n : Nat) (ks : List Str) (pi : List Nat) : Prop where
  to : ∀ (s : Shared) (us ws : List Value), K.In s.heap → us.length = n → ws.length = ks.length → BindsTo s fd ⟨us, ks.zip ws⟩ (ps.zip (pi.map fun i => (us ++ ws).getD i .none))
def okKw (K : PySem.W.Frag) (f : MA) : TA := okA K [] f
section
variable {C : Cx} {k n : Nat} {f : Addr} {fd : FuncData} {ps ks : List Str} {sem : Fn} {x : Str} {p pos kpos : Pos} {e : Expr} {es : List Expr} {kws : List Keyword} {fa fk : MA} {g : M} {ls : List (Option Nat)} {pi : List Nat} {nm : Option Str}
theorem ek_nil : PK C [] (okKw C.K argN) := ⟨fun pos pins s σ H Q I ⟨Γ, X, ds, Γ', F, S, e, k⟩ => by
  cases e
  exact pk_nil.run pos pins s σ H Q I (k H [] F rfl trivial S)⟩
theorem ek_cons (ha : PE C e (okE C.K g)) (hr : PK C kws (okKw C.K fk)) : PK C (⟨nm, e, kpos⟩ :: kws) (okKw C.K (argC g fk)) := ⟨fun pos pins s σ H Q I ⟨Γ, X, ds, Γ', F, S, e, k⟩ => by
  obtain ⟨⟨x, Γ1⟩, e1, e⟩ := bindS e
  obtain ⟨⟨xs, Γ2⟩, e2, e⟩ := bindS e
  cases e
  refine (pk_cons ha hr).run pos pins s σ H Q I ⟨Γ, X, x, Γ1, F, S, e1, fun H1 v F1 S1 => ⟨Γ1, (x, v) :: X, xs, _, F1, S1.perm List.perm_middle.symm, e2, fun H2 vs F2 hl hL S2 => ?_⟩⟩
  refine k H2 (v :: vs) F2 (congrArg (· + 1) hl) trivial (S2.perm ?_)
  rw [← List.append_assoc]
  show ((xs.zip vs ++ slots _ σ) ++ (x, v) :: X).Perm ((x, v) :: (xs.zip vs ++ (slots _ σ ++ X)))
  rw [← List.append_assoc]
  exact List.perm_middle⟩
def callK (sem : Fn) (n m : Nat) (pi : List Nat) (fa fk : MA) : M := fun Γ => (fa Γ).bind fun r => (fk r.2).bind fun s => if r.1.length = n ∧ s.1.length = m then (sem (pi.map fun i => (r.1 ++ s.1).getD i (.p .none))).bind fun t => some (t.1, s.2) else none
theorem vals_pi {vs : List V} {us : List Value} (r : Vals vs us) : ∀ pi : List Nat, Vals (pi.map fun i => vs.getD i .non) (pi.map fun i => us.getD i .none)
  | [] => .nil
  | i :: pi => .cons (by
      by_cases h : i < vs.length
      · obtain ⟨u, h1, h2⟩ := Vals.get r (List.getElem?_eq_getElem h)
        show RelV (vs.getD i .non) (us.getD i .none)
        rw [List.getD_eq_getElem?_getD, List.getD_eq_getElem?_getD, h1, List.getElem?_eq_getElem h]
        exact h2
      · show RelV (vs.getD i .non) (us.getD i .none)
        rw [List.getD_eq_getElem?_getD, List.getD_eq_getElem?_getD, List.getElem?_eq_none (by omega), List.getElem?_eq_none (by rw [← r.length]; omega)]
        rfl) (vals_pi r pi)
theorem zip_range {ds : List D} {vs : List V} (h : ds.length = vs.length) : (List.range ds.length).map (fun i => (ds.getD i (.p .none), vs.getD i .non)) = ds.zip vs := by
  refine List.ext_getElem (by simp [h]) fun i h1 h2 => ?_
  have hi : i < ds.length := by simpa using h1
  simp [List.getD_eq_getElem?_getD, hi, h ▸ hi]
theorem map_zip {pi : List Nat} {ds : List D} {vs : List V} : (pi.map fun i => ds.getD i (.p .none)).zip (pi.map fun i => vs.getD i .non) = pi.map fun i => (ds.getD i (.p .none), vs.getD i .non) := by
  induction pi with
  | nil => rfl
  | cons i r ih => exact congrArg (List.cons _) ih
theorem kw_run {H : Hp} {σ : St} {Q : VK} (hp : pi.Perm (List.range (n + ks.length))) (h : okE C.K (callK sem n ks.length pi fa fk) σ H Q) : (okA C.K ls fa) σ H fun vs H1 => (okKw C.K fk) σ H1 fun zs H2 => vs.length = n ∧ zs.length = ks.length ∧ okFn C.K sem (pi.map fun i => (vs ++ zs).getD i .non) H2 Q E0 := by
  obtain ⟨Γ, X, d, Γ', F, S, e, k⟩ := h
  obtain ⟨⟨ds, Γ1⟩, e1, e⟩ := bindS e
  obtain ⟨⟨es, Γ2⟩, e2, e⟩ := bindS e
  dsimp only at e
  split at e
  · rename_i hn
    obtain ⟨⟨d1, outs⟩, e3, e⟩ := bindS e
    have e5 : d1 = d := congrArg Prod.fst (Option.some.inj e)
    have e6 : Γ2 = Γ' := congrArg Prod.snd (Option.some.inj e)
    subst e5 e6
    refine ⟨Γ, X, ds, Γ1, F, S, e1, fun H1 vs F1 hl hL S1 => ⟨Γ1, ds.zip vs ++ X, es, Γ2, F1, S1.perm (swap3 _ _ _), e2, fun H2 zs F2 hl2 _ S2 => ⟨by rw [← hl]; exact hn.1, by rw [← hl2]; exact hn.2, ?_⟩⟩⟩
    have hlen : (ds ++ es).length = (vs ++ zs).length := by simp [hl, hl2]
    refine ⟨_, slots Γ2 σ ++ X, d1, outs, by simp, ?_, e3, fun H3 v S3 => k H3 v F2 ?_⟩
    · rw [map_zip]
      have p1 := hp.map fun i => ((ds ++ es).getD i (.p .none), (vs ++ zs).getD i .non)
      have e4 : n + ks.length = (ds ++ es).length := by simp [hn.1, hn.2]
      rw [e4, zip_range hlen, zip_split hl] at p1
      refine S2.perm ?_
      refine List.Perm.trans ?_ (p1.symm.append_right _)
      rw [List.append_assoc]
      refine (List.Perm.append_left _ (swap3 _ _ _)).trans ?_
      exact swap3 _ _ _
    · exact SL.dropA (A := slots outs (List.map some (List.map (fun i => (vs ++ zs).getD i V.non) pi))) (S3.perm List.perm_middle.symm)
  · cases e
/-- f(e, .., k = v, ..), nothing lent -/
theorem ee_callKw (F : FnG C.prog C.w C.K C.mg C.base CX0 k f fd ps (okFn C.K sem)) (gd : C.A.guards = some []) (hr : Room k C.A) (hg : Gl C x) (hm : C.mg x = some (.ref f)) (hk : PySem.W.keepIn C.K (.ref f) = true) (hb : KwB C.K fd ps n ks pi) (hp : pi.Perm (List.range (n + ks.length)))
    (ha : PA C (e :: es) (okA C.K ls fa)) (hkw : PK C kws (okKw C.K fk)) (hall : (backToKw pos (keywordEach kws C.env)).all (·.1.isSome) = true := by rfl) (hks : (backToKw pos (keywordEach kws C.env)).filterMap (·.1) = ks := by rfl)
    (hdb : (x == ("__debug__" : Str)) = false := by decide) (he : starEach (e :: es) C.env = (false, eval e C.env) :: starEach es C.env := by rfl)
    (hpl : ((backTo pos (starEach (e :: es) C.env)).any (·.1) || (backToKw pos (keywordEach kws C.env)).any (·.1.isNone)) = false := by rfl) :
    PE C (.Call (.Name x p) (e :: es) kws pos) (okE C.K (callK sem n ks.length pi fa fk)) := by
  constructor
  intro pins s σ H Q I h
  refine wpAny_Call_Name_kw (ld_glob I hg hm ?_ hdb)
  refine PySem.W.callWith_KW (h₀ := C.base) I.ok.mod.kin hk hall (thn (ha.run pos pins s σ H _ I (kw_run (ls := ls) hp h)) ?_) hpl he
  rintro us s1 ⟨vs, H1, I1, r, q⟩
  refine thn (hkw.run pos pins s1 σ H1 _ I1 q) ?_
  rintro ws s2 ⟨zs, H2, I2, rz, l1, l2, q2⟩
  refine ⟨I2.kIn, ?_⟩
  rw [hks]
  refine wpAny_call (codeAny_mono (F.go C.A C.stack s2 H2 _ _ _ Q E0 gd hr I2.env0 (hb.to s2 _ ws I2.kIn (by rw [List.nil_append, ← r.length]; exact l1) (by rw [← rz.length]; exact l2)) (vals_pi (r.append rz) pi) q2) ?_)
  intro r s' hq
  match r, hq with
  | .ok (.ret u), hq => exact I2.after hq
/-- f(k = v, ..) -/
theorem ee_callKw0 (F : FnG C.prog C.w C.K C.mg C.base CX0 k f fd ps (okFn C.K sem)) (gd : C.A.guards = some []) (hr : Room k C.A) (hg : Gl C x) (hm : C.mg x = some (.ref f)) (hk : PySem.W.keepIn C.K (.ref f) = true) (hb : KwB C.K fd ps 0 ks pi) (hp : pi.Perm (List.range (0 + ks.length)))
    (hkw : PK C kws (okKw C.K fk)) (hall : (backToKw pos (keywordEach kws C.env)).all (·.1.isSome) = true := by rfl) (hks : (backToKw pos (keywordEach kws C.env)).filterMap (·.1) = ks := by rfl)
    (hdb : (x == ("__debug__" : Str)) = false := by decide) (hpl : ((backTo pos (starEach [] C.env)).any (·.1) || (backToKw pos (keywordEach kws C.env)).any (·.1.isNone)) = false := by rfl) :
    PE C (.Call (.Name x p) [] kws pos) (okE C.K (callK sem 0 ks.length pi argN fk)) := by
  constructor
  intro pins s σ H Q I h
  refine wpAny_Call_Name_kw (ld_glob I hg hm ?_ hdb)
  have q := kw_run (ls := []) hp h
  obtain ⟨Γ, X, ds, Γ', F1, S1, e1, k1⟩ := q
  cases e1
  have q := k1 H [] F1 rfl trivial S1
  refine PySem.W.callWith_KW0 (h₀ := C.base) I.ok.mod.kin hk hall (thn (hkw.run pos pins s σ H _ I q) ?_) hpl
  rintro ws s2 ⟨zs, H2, I2, rz, l1, l2, q2⟩
  refine ⟨I2.kIn, ?_⟩
  rw [hks]
  refine wpAny_call (codeAny_mono (F.go C.A C.stack s2 H2 _ _ _ Q E0 gd hr I2.env0 (hb.to s2 [] ws I2.kIn rfl (by rw [← rz.length]; exact l2)) (vals_pi (Vals.append .nil rz) pi) q2) ?_)
  intro r s' hq
  match r, hq with
  | .ok (.ret u), hq => exact I2.after hq
end
end GH
namespace GH
open PySem L2 RZ
/-! ### any list, tuple, text is walked -/
def iAny (K : PySem.W.Frag) (tl : TE) : TI := fun σ H R => tl σ H fun x H1 => (∃ a, x = .ref a ∧ (∃ xs, SqL K H1 a xs) ∧ R (Itl K a) H1) ∨ (∃ a, x = .ref a ∧ (∃ xs, SqT K H1 a xs) ∧ R (Itt K a) H1) ∨ (∃ z, x = .str z ∧ R (Its z) H1)
/-- the signs of a text -/
def signsD (z : Str) : List PyData := z.cps.toList.map fun c => .str ⟨#[c]⟩
section
variable {C : Cx} {tg e a b : Expr} {es : List Expr} {f g : M} {fa : MA} {ls : List (Option Nat)} {p pos tpos : Pos} {i : Nat}
theorem pi_any {tl : TE} (hl : PE C e tl) : PI C tg e (iAny C.K tl) := by
  constructor
  intro pins s σ H R I h
  refine thn (hl.run pins s σ H _ I h) ?_
  rintro v s1 ⟨x, H1, I1, r1, q⟩
  have new : ∀ {s2 : Shared} {b : Addr}, b ∈ [s1.heap.objs.size] → FpOk C pins H1 b := by
    intro s2 b hb
    obtain rfl : b = s1.heap.objs.size := by simpa using hb
    exact I1.fpOk (Nat.le_refl _) (I1.hok.fresh (Nat.le_refl _))
  rcases q with ⟨a, rfl, ⟨xs, hq⟩, q⟩ | ⟨a, rfl, ⟨xs, hq⟩, q⟩ | ⟨z, rfl, q⟩
  · cases r1
    obtain ⟨its, rv, pl, hz⟩ := I1.list hq
    exact wpAny_pyIter_list pl.isList ⟨_, _, _, _, H1, rfl, I1.kept (t' := s1.toks) (fun b o e => Heap.get?_push_of_some _ e), turn_list a _, ⟨_, Heap.get?_push_size _ rfl, rfl, rfl⟩, fun b hb => new (s2 := s1) hb, q⟩
  · cases r1
    obtain ⟨its, rv, pt, hz⟩ := I1.tuple hq
    exact wpAny_pyIter_tuple (show s1.heap.IsTuple a its.toArray from pt) ⟨_, _, _, _, H1, rfl, I1.kept (t' := s1.toks) (fun b o e => Heap.get?_push_of_some _ e), turn_tuple a _, ⟨_, Heap.get?_push_size _ rfl, rfl, rfl⟩, fun b hb => new (s2 := s1) hb, q⟩
  · obtain ⟨t, rfl⟩ := r1
    cases ha : z.cps.all (· < 128)
    · exact PySem.wpAny_pyIter_wide ha ⟨_, _, _, _, H1, rfl, I1.kept (t' := s1.toks) (fun b o e => Heap.get?_push_of_some _ e), turn_str _ z t "str_iterator" (.inr rfl), ⟨_, Heap.get?_push_size _ rfl, rfl, rfl⟩, fun b hb => new (s2 := s1) hb, q⟩
    · exact PySem.wpAny_pyIter_ascii ha ⟨_, _, _, _, H1, rfl, I1.kept (t' := s1.toks) (fun b o e => Heap.get?_push_of_some _ e), turn_str _ z t "str_ascii_iterator" (.inl rfl), ⟨_, Heap.get?_push_size _ rfl, rfl, rfl⟩, fun b hb => new (s2 := s1) hb, q⟩
def anyI (f : M) : MI := fun Γ => (f Γ).bind fun r => match fz r.1 with
  | some (.list ds) => some (ds, r.2)
  | some (.tuple ds) => some (ds, r.2)
  | some (.str z) => some (signsD z, r.2)
  | _ => none
theorem ei_any (h : PE C e (okE C.K f)) : PI C tg e (okI C.K (anyI f)) := (pi_any h).gimp fun σ H R ⟨Γ, X, ds, Γ', F, S, e, k⟩ => by
  obtain ⟨⟨d, Γ1⟩, e1, e⟩ := bindS e
  dsimp only at e
  split at e
  · rename_i qs eq
    cases e
    refine ⟨Γ, X, d, _, F, S, e1, fun H1 v F1 S1 => ?_⟩
    have S2 := S1.frz eq
    obtain ⟨a, xs, rfl, hx, _, _⟩ := S2.itemsL
    exact .inl ⟨a, rfl, ⟨xs, hx⟩, k H1 _ _ F1 srv_list S2⟩
  · rename_i qs eq
    cases e
    refine ⟨Γ, X, d, _, F, S, e1, fun H1 v F1 S1 => ?_⟩
    have S2 := S1.frz eq
    obtain ⟨a, xs, rfl, hx, _, _⟩ := S2.items
    exact .inr (.inl ⟨a, rfl, ⟨xs, hx⟩, k H1 _ _ F1 srv_tup S2⟩)
  · rename_i z eq
    cases e
    refine ⟨Γ, X, d, _, F, S, e1, fun H1 v F1 S1 => ?_⟩
    have S2 := S1.frz eq
    have hz := S2.dp
    cases hz
    exact .inr (.inr ⟨z, rfl, k H1 _ [] F1 srv_str S2.drop⟩)
  · cases e
/-! and, or, not as values -/
def andM (f g : M) : M := fun Γ => (f Γ).bind fun r => match r.1 with
  | .p (.bool true) => g r.2
  | .p (.bool false) => some (.p (.bool false), r.2)
  | _ => none
def orM (f g : M) : M := fun Γ => (f Γ).bind fun r => match r.1 with
  | .p (.bool false) => g r.2
  | .p (.bool true) => some (.p (.bool true), r.2)
  | _ => none
theorem ee_one {op} (h : PE C a (okE C.K f)) : PE C (.BoolOp op [a] pos) (okE C.K f) := pe_one h
theorem ee_and (ha : PE C a (okE C.K f)) (hb : PE C (.BoolOp .And (b :: es) pos) (okE C.K g)) : PE C (.BoolOp .And (a :: b :: es) pos) (okE C.K (andM f g)) := (pe_and ha hb).gimp fun σ H Q ⟨Γ, X, d, Γ', F, S, e, k⟩ => by
  obtain ⟨⟨x, Γ1⟩, e1, e⟩ := bindS e
  refine ⟨Γ, X, x, Γ1, F, S, e1, fun H1 v F1 S1 => ?_⟩
  dsimp only at e
  split at e
  · have z := S1.dp
    cases z
    exact ⟨true, rfl, iteT ⟨Γ1, X, d, Γ', F1, S1.drop, e, k⟩⟩
  · have z := S1.dp
    cases z
    cases e
    exact ⟨false, rfl, iteF (k H1 _ F1 S1)⟩
  · cases e
theorem ee_or (ha : PE C a (okE C.K f)) (hb : PE C (.BoolOp .Or (b :: es) pos) (okE C.K g)) : PE C (.BoolOp .Or (a :: b :: es) pos) (okE C.K (orM f g)) := (pe_or ha hb).gimp fun σ H Q ⟨Γ, X, d, Γ', F, S, e, k⟩ => by
  obtain ⟨⟨x, Γ1⟩, e1, e⟩ := bindS e
  refine ⟨Γ, X, x, Γ1, F, S, e1, fun H1 v F1 S1 => ?_⟩
  dsimp only at e
  split at e
  · have z := S1.dp
    cases z
    exact ⟨false, rfl, iteF ⟨Γ1, X, d, Γ', F1, S1.drop, e, k⟩⟩
  · have z := S1.dp
    cases z
    cases e
    exact ⟨true, rfl, iteT (k H1 _ F1 S1)⟩
  · cases e
theorem ee_not (ha : PE C a (okE C.K f)) : PE C (.UnaryOp .Not a pos) (okE C.K (una notD f)) := (pe_not ha).gimp fun σ H Q ⟨Γ, X, d, Γ', F, S, e, k⟩ => by
  obtain ⟨⟨x, Γ1⟩, e1, e⟩ := bindS e
  obtain ⟨z, e3, e⟩ := mapS e
  cases e
  refine ⟨Γ, X, x, _, F, S, e1, fun H1 v F1 S1 => ?_⟩
  unfold notD at e3
  dsimp only at e3
  split at e3
  · cases e3
    have z := S1.dp
    cases z
    exact ⟨_, rfl, k H1 _ F1 (S1.drop.flat fun _ => .bl _)⟩
  · cases e3
/-- a name of the module with a flat value -/
theorem ee_glob {x : Str} {q : PyData} {v : V} {u : Value} (hg : Gl C x) (hm : C.mg x = some u) (r : RelV v u) (hv : ∀ H, Dq C.K H v q) (hd : (x == ("__debug__" : Str)) = false := by decide) : PE C (.Name x pos) (okE C.K (ret (.p q))) := (pe_glob hg hm r hd).gimp fun σ H Q ⟨Γ, X, d, Γ', F, S, e, k⟩ => by
  cases e
  exact k H v F (S.flat hv)
end
/-! names stored from a written tuple that is made -/
def setAll : List Nat → List D → Nv → Nv
  | i :: is, d :: ds, Γ => setAll is ds (Γ.set i (some d))
  | _, _, Γ => Γ
def parL (is : List Nat) (fa : MA) : MS := fun Γ => (fa Γ).bind fun r => if r.1.length = is.length ∧ is.all (fun i => decide (i < r.2.length)) = true then some (.nx (setAll is r.1 r.2)) else none
def gNms : List Nat → TGs
  | [] => gNil
  | i :: is => gCons (gName i) (gNms is)
theorem gNms_run {K : PySem.W.Frag} {ro : Nat → Prop} : ∀ {is : List Nat} {ds : List D} {vs : List V} {Γ : Nv} {σ : St} {H : Hp} {X : List (D × V)} {Q : St → Hp → Prop}, ds.length = is.length → ds.length = vs.length → (∀ i ∈ is, i < Γ.length ∧ ¬ ro i) → Fits Γ σ → SL K H (ds.zip vs ++ (slots Γ σ ++ X)) →
    (∀ σ', Agree ro σ σ' → Fits (setAll is ds Γ) σ' → SL K H (slots (setAll is ds Γ) σ' ++ X) → Q σ' H) → gNms is vs σ H Q
  | [], [], [], Γ, σ, H, X, Q, _, _, _, F, S, k => ⟨rfl, k σ .refl F S⟩
  | i :: is, d :: ds, v :: vs, Γ, σ, H, X, Q, h1, h2, h3, F, S, k => by
    refine ⟨v, vs, rfl, ?_⟩
    obtain ⟨hi, hr⟩ := h3 i List.mem_cons_self
    have S1 : SL K H ((d, v) :: (slots Γ σ ++ (ds.zip vs ++ X))) := S.perm (List.Perm.cons _ (swap3 _ _ _))
    refine gNms_run (is := is) (ds := ds) (Γ := Γ.set i (some d)) (Nat.succ.inj h1) (Nat.succ.inj h2) (fun j hj => ⟨by rw [List.length_set]; exact (h3 j (List.mem_cons_of_mem _ hj)).1, (h3 j (List.mem_cons_of_mem _ hj)).2⟩) F.store ((S1.store F hi).perm (swap3 _ _ _)) ?_
    exact fun σ' a F' S' => k σ' ((Agree.set hr).trans a) F' S'
theorem es_parT {C : Cx} {ro : Nat → Prop} {st : Stmt} {is : List Nat} {n : Nat} {fa : MA} {ls : List (Option Nat)} (h : PS C st (tAsg (tTup (okA C.K ls fa)) (gTup C.K n (gNms is)))) (hn : n = is.length) (hr : ∀ i ∈ is, ¬ ro i) (hz : n ≤ 1000 := by decide) : PS C st (okS C.K ro (parL is fa)) := h.gimp fun D σ H ⟨Γ, X, out, F, S, e, k⟩ => by
  obtain ⟨⟨ds, Γ1⟩, e1, e⟩ := bindS e
  refine ⟨Γ, X, ds, Γ1, F, S, e1, fun H1 vs F1 hl _ S1 => ?_⟩
  dsimp only at e
  split at e
  · rename_i hh
    cases e
    have hlen : vs.length = is.length := by rw [← hl]; exact hh.1
    refine ⟨?_, fun p hp => ?_⟩
    · rw [hlen, ← hn]
      exact le_line hz
    refine ⟨p, vs, rfl, .inl (.inl upd_same), by rw [hlen, hn], ?_⟩
    refine gNms_run hh.1 hl (fun i hi => ⟨by simpa using List.all_eq_true.mp hh.2 i hi, hr i hi⟩) F1 (S1.grow (same_upd hp)) ?_
    exact fun σ' a F' S' => k _ σ' a F' S'
  · cases e
/-! ### a def of the text, with what it computes -/
structure Has (P : Program) (w : World) (K : PySem.W.Frag) (mg : Str → Option Value) (base : Heap) (k : Nat) (x : Str) (st : Stmt) (ps : List Str) (sem : Fn) : Prop where
  ex : ∃ f fd, Fun K x x st f fd ∧ FnG P w K mg base CX0 k f fd ps (okFn K sem) ∧ mg x = some (.ref f) ∧ PySem.W.keepIn K (.ref f) = true ∧ Binds K fd ps []
section
variable {C : Cx} {k j n : Nat} {ps ks : List Str} {sem : Fn} {x : Str} {st : Stmt} {p pos : Pos} {e : Expr} {es : List Expr} {kws : List Keyword} {fa fk : MA} {ls : List (Option Nat)} {pi : List Nat}
theorem ee_callH (h : Has C.prog C.w C.K C.mg C.base j x st ps sem) (gd : C.A.guards = some []) (hr : Room k C.A) (hjk : j ≤ k) (hg : Gl C x) (ha : PA C (e :: es) (okA C.K ls fa)) (hdb : (x == ("__debug__" : Str)) = false := by decide)
    (he : starEach (e :: es) C.env = (false, eval e C.env) :: starEach es C.env := by rfl) (hpl : (backTo pos (starEach es C.env)).any (·.1) = false := by rfl) : PE C (.Call (.Name x p) (e :: es) [] pos) (okE C.K (callM sem ls fa)) := by
  obtain ⟨f, fd, _, F, hm, hk, hb⟩ := h.ex
  exact ee_callG F gd (hr.mono hjk) hg hm hk hb ha hdb he hpl
/-- how keywords bind, by the def's own text -/
def KwOk (st : Stmt) (x : Str) (ps : List Str) (n : Nat) (ks : List Str) (pi : List Nat) : Prop := ∀ (kV doc pm : Value) (an : Option Addr) (cdv ct : Value) (us ws : List Value), us.length = n → ws.length = ks.length →
  bindArgs (PySem.W.fnOf x x (defArgs st) (defBody st) (defScope st) .none kV doc pm an cdv ct) ⟨us, ks.zip ws⟩ = pure (ps.zip (pi.map fun i => (us ++ ws).getD i .none))
theorem kwB_of {K : PySem.W.Frag} {f : Addr} {fd : FuncData} (F : Fun K x x st f fd) (h : KwOk st x ps n ks pi) : KwB K fd ps n ks pi := by
  obtain ⟨oc, od, kV, doc, pm, an, cdv, ct, osl, rfl, lk, hcd⟩ := F.ex
  exact ⟨fun s us ws _ h1 h2 => .of_eq (h kV doc pm an cdv ct us ws h1 h2)⟩
theorem ee_callHK (h : Has C.prog C.w C.K C.mg C.base j x st ps sem) (gd : C.A.guards = some []) (hr : Room k C.A) (hjk : j ≤ k) (hg : Gl C x) (hb : KwOk st x ps n ks pi) (hp : pi.Perm (List.range (n + ks.length))) (ha : PA C (e :: es) (okA C.K ls fa)) (hkw : PK C kws (okKw C.K fk))
    (hall : (backToKw pos (keywordEach kws C.env)).all (·.1.isSome) = true := by rfl) (hks : (backToKw pos (keywordEach kws C.env)).filterMap (·.1) = ks := by rfl)
    (hdb : (x == ("__debug__" : Str)) = false := by decide) (he : starEach (e :: es) C.env = (false, eval e C.env) :: starEach es C.env := by rfl)
    (hpl : ((backTo pos (starEach (e :: es) C.env)).any (·.1) || (backToKw pos (keywordEach kws C.env)).any (·.1.isNone)) = false := by rfl) : PE C (.Call (.Name x p) (e :: es) kws pos) (okE C.K (callK sem n ks.length pi fa fk)) := by
  obtain ⟨f, fd, F0, F, hm, hk, _⟩ := h.ex
  exact ee_callKw F gd (hr.mono hjk) hg hm hk (kwB_of F0 hb) hp ha hkw hall hks hdb he hpl
theorem ee_callHK0 (h : Has C.prog C.w C.K C.mg C.base j x st ps sem) (gd : C.A.guards = some []) (hr : Room k C.A) (hjk : j ≤ k) (hg : Gl C x) (hb : KwOk st x ps 0 ks pi) (hp : pi.Perm (List.range (0 + ks.length))) (hkw : PK C kws (okKw C.K fk))
    (hall : (backToKw pos (keywordEach kws C.env)).all (·.1.isSome) = true := by rfl) (hks : (backToKw pos (keywordEach kws C.env)).filterMap (·.1) = ks := by rfl)
    (hdb : (x == ("__debug__" : Str)) = false := by decide) (hpl : ((backTo pos (starEach [] C.env)).any (·.1) || (backToKw pos (keywordEach kws C.env)).any (·.1.isNone)) = false := by rfl) : PE C (.Call (.Name x p) [] kws pos) (okE C.K (callK sem 0 ks.length pi argN fk)) := by
  obtain ⟨f, fd, F0, F, hm, hk, _⟩ := h.ex
  exact ee_callKw0 F gd (hr.mono hjk) hg hm hk (kwB_of F0 hb) hp hkw hall hks hdb hpl
end
/-- a name is lent, and read again before the call -/
def argL (i : Nat) (g : MA) : MA := fun Γ => match Γ[i]? with
  | some (some _) => (g Γ).bind fun s => (mvM i s.2).map fun r => (r.1 :: s.1, r.2)
  | _ => none
theorem ea_late {C : Cx} {es : List Expr} {fa : MA} {ls : List (Option Nat)} {i : Nat} {p : Pos} {x : Str} (hv : PE C (.Name x p) (tVar i)) (hr : PA C es (okA C.K ls fa)) (hs : starEach ((.Name x p) :: es) C.env = (false, eval (.Name x p) C.env) :: starEach es C.env := by rfl) : PA C ((.Name x p) :: es) (okA C.K (some i :: ls) (argL i fa)) :=
  (pa_cons hv hr hs).gimp fun σ H Q ⟨Γ, X, ds, Γ', F, S, e, k⟩ => by
    unfold argL at e
    split at e
    · rename_i d0 e0
      obtain ⟨⟨xs, Γ2⟩, e2, e⟩ := bindS e
      obtain ⟨⟨d, Γ3⟩, e3, e⟩ := mapS e
      cases e
      obtain ⟨v, hv⟩ := F.has i d0 e0
      refine ⟨v, hv, ⟨Γ, X, xs, _, F, S, e2, fun H2 vs F2 hl hL S2 => ?_⟩⟩
      obtain ⟨v', hv', F3, S3⟩ := mv_run F2 (S2.perm (swap3 _ _ _)) e3
      obtain rfl : v = v' := Option.some.inj (Option.some.inj (hv.symm.trans hv'))
      exact k H2 (v :: vs) F3 (congrArg (· + 1) hl) ⟨hv, hL⟩ (S3.perm (List.Perm.cons _ (swap3 _ _ _)))
    · cases e
/-- the facts of the top about one def -/
structure Def (K : PySem.W.Frag) (mg : Str → Option Value) (x : Str) (st : Stmt) : Prop where
  ex : ∃ f fd, Fun K x x st f fd ∧ mg x = some (.ref f) ∧ PySem.W.keepIn K (.ref f) = true
theorem Def.has {P : Program} {w : World} {K : PySem.W.Frag} {mg : Str → Option Value} {base : Heap} {k : Nat} {x : Str} {st : Stmt} {ps : List Str} {sem : Fn} (d : Def K mg x st)
    (hb : ∀ (kV doc pm : Value) (an : Option Addr) (cdv ct : Value) (us : List Value), us.length = ps.length → bindArgs (PySem.W.fnOf x x (defArgs st) (defBody st) (defScope st) .none kV doc pm an cdv ct) ⟨us, []⟩ = pure (ps.zip us))
    (ok : ∀ {f : Addr} {fd : FuncData}, Fun K x x st f fd → FnG P w K mg base CX0 k f fd ps (okFn K sem)) : Has P w K mg base k x st ps sem := by
  obtain ⟨f, fd, F, hm, hk⟩ := d.ex
  exact ⟨f, fd, F, ok F, hm, hk, F.binds hb⟩
theorem Def.of {K : PySem.W.Frag} {h : Heap} {mg : Str → Option Value} (X : K.In h) (G : h.Ns mainGlobals mg) {x : Str} {st : Stmt} {f : Addr} {oc : Value} {od an : Option Addr} {osl : Array (Option Value)} {kV doc pm cdv ct : Value}
    (a : PySem.W.nsIn K mainGlobals x = some (some (.ref f))) (l : K.lookup f = some ⟨oc, od, .func (PySem.W.fnOf x x (defArgs st) (defBody st) (defScope st) .none kV doc pm an cdv ct), osl⟩) (c : PySem.W.codeIn K cdv x = true) (k : PySem.W.keepIn K (.ref f) = true) : Def K mg x st :=
  ⟨f, _, fun_mk l c k, PySem.W.mg_of X G a, k⟩
end GH
namespace HT
open PySem PySem.Spec PyProof.Rows L2
section
variable {prog : Program} {w : World} {A : Around} {E : Value → Shared → Prop} {s : Shared}
theorem fm_congr {α β : Type} {f g : α → Option β} : ∀ {l : List α}, (∀ x ∈ l, f x = g x) → l.filterMap f = l.filterMap g
  | [], _ => rfl
  | x :: l, h => by
    rw [List.filterMap_cons, List.filterMap_cons, h x List.mem_cons_self, fm_congr fun y hy => h y (List.mem_cons_of_mem _ hy)]
theorem adjust_rev (n : Nat) : Builtin.Slice.sliceAdjust none none (-1) (n : Int) = ((n : Int) - 1, -1) := rfl
theorem places_rev (n : Nat) : Builtin.Slice.slicePlaces ((n : Int) - 1) (-1) (-1) = n := by
  unfold Builtin.Slice.slicePlaces
  have h1 : ¬ ((-1 : Int) > 0) := by decide
  simp only [h1, if_false]
  have e : (- -1 : Int) = 1 := by decide
  rw [e, Int.ediv_one]
  split <;> omega
theorem sliceApplied_rev {sl : Addr} {vs : Value} {n : Nat} {Q : Int × Int × Nat → Shared → Prop} (hs : s.heap.IsSliceOf sl .none .none vs) (ps : IsPart vs (some (-1)))
    (h : Q (((n : Int) - 1), -1, n) s) : wpAny (model prog w) A (Builtin.Slice.sliceApplied (.ref sl) (pure (n : Int))) Q E s := by
  obtain ⟨os, hos, hcs, hds⟩ := id hs
  unfold Builtin.Slice.sliceApplied Builtin.Slice.sliceFields
  refine wpAny_bind (wpAny_bind (wpAny_field hos hds (x := .none) rfl (wpAny_bind (wpAny_field hos hds (x := .none) rfl (wpAny_bind (wpAny_field hos hds (x := vs) rfl (wpAny_pure ?_)))))))
  refine wpAny_bind (slicePart_ ps ?_)
  show wpAny _ _ (if ((-1 : Int) == 0) = true then _ else _) _ _ s
  rw [if_neg (by decide)]
  refine wpAny_bind (slicePart_none (wpAny_bind (slicePart_none (wpAny_bind (wpAny_pure ?_)))))
  show wpAny _ _ (match Builtin.Slice.sliceAdjust none none (-1) (n : Int) with | (lo, hi) => pure (lo, (-1 : Int), Builtin.Slice.slicePlaces lo hi (-1))) _ _ s
  rw [adjust_rev]
  show wpAny _ _ (pure (((n : Int) - 1), (-1 : Int), Builtin.Slice.slicePlaces ((n : Int) - 1) (-1) (-1))) _ _ s
  rw [places_rev]
  exact wpAny_pure h
theorem pick_rev (xs : Array Value) : ((List.range xs.size).filterMap fun (k : Nat) => xs[(((xs.size : Int) - 1) + (k : Int) * (-1)).toNat]?).toArray = xs.toList.reverse.toArray := by
  congr 1
  have e : ((List.range xs.size).filterMap fun (k : Nat) => xs[(((xs.size : Int) - 1) + (k : Int) * (-1)).toNat]?) = ((List.range xs.size).map fun k => xs.size - 1 - k).filterMap (xs[·]?) := by
    rw [List.filterMap_map]
    refine fm_congr fun k hk => ?_
    have := List.mem_range.mp hk
    have e : (((xs.size : Int) - 1) + (k : Int) * (-1)).toNat = xs.size - 1 - k := by omega
    rw [e]
    rfl
  rw [e, PySem.W.krv_range, List.filterMap_reverse, PySem.W.krv_all]
theorem getItem_tuple_rev {t sl : Addr} {items : Array Value} {vs : Value} {Q : Value → Shared → Prop} (ht : IsTup s.heap t items) (hs : s.heap.IsSliceOf sl .none .none vs) (ps : IsPart vs (some (-1)))
    (h : Q (.ref s.heap.objs.size) { s with heap := s.heap.push { cls := .type "tuple", data := .seq items.toList.reverse.toArray } })
    (hsz : items.size ≤ sizeLine) : wpAny (model prog w) A (getItem (.ref t) (.ref sl)) Q E s := by
  have htake : sizeOk (.seq items.toList.reverse.toArray) := by
    show items.toList.reverse.toArray.size ≤ sizeLine
    rw [List.size_toArray, List.length_reverse, Array.length_toList]
    exact hsz
  obtain ⟨os, hos, hcs, hds⟩ := id hs
  have hTs : s.TypeIs (.ref sl) "slice" := ⟨os, hos, hcs⟩
  unfold getItem
  try with_reducible refine wpAny_holding ?_
  first | refine wpAny_bind (wpAny_pure ?_) | skip
  refine wpAny_bind (wpAny_sequenceKey ht.typeIs (by decide) ?_)
  refine wpAny_bind (wpAny_callSpecial?_slot (name := Str.ofString "__getitem__") ht.typeIs PyProof.Rows.slot_tuple_getitem
    (wpAny_call_entry PyProof.Rows.slot_tuple_getitem ht.typeIs entry_tuple_getitem ?_ (args_tuple_getitem _ _)))
  show wpAny _ _ (Builtin.Tuple.tupleItemsOf (.ref t) >>= _) _ _ s
  refine wpAny_bind (tupleItemsOf_ ht ?_)
  refine wpAny_bind (wpAny_typeOf hTs ?_)
  rw [if_pos (by decide)]
  refine wpAny_bind (sliceApplied_rev hs ps ?_)
  have hno : ¬ ((((items.size : Int) - 1) == 0 && (-1 : Int) == 1 && items.size == items.size) = true) := by
    intro q
    rw [Bool.and_eq_true, Bool.and_eq_true] at q
    exact absurd q.1.2 (by decide)
  show wpAny _ _ (if (((items.size : Int) - 1) == 0 && (-1 : Int) == 1 && items.size == items.size) = true then _ else _) _ _ s
  rw [if_neg hno, pick_rev]
  first
    | exact wpAny_bind (m := Builtin.Tuple.tupleExact _) (wpAny_newObj_type (wpAny_pure ⟨_, rfl, wpAny_pure h⟩) htake)
    | exact wpAny_bind (m := Builtin.Tuple.tupleExact _) (wpAny_newObj_type (wpAny_bind (wpAny_pure (wpAny_pure ⟨_, rfl, wpAny_pure h⟩))) htake)
    | exact wpAny_bind (wpAny_bind (m := Builtin.Tuple.tupleExact _) (wpAny_newObj_type (wpAny_pure (wpAny_pure ⟨_, rfl, wpAny_pure h⟩)) htake))
    | exact wpAny_bind (wpAny_bind (m := Builtin.Tuple.tupleExact _) (wpAny_newObj_type (wpAny_pure ⟨_, rfl, wpAny_pure h⟩) htake))
end
end HT
namespace L2
open PySem PySem.Spec PyProof.Rows
section
variable {X : Cx}
/-! xs[::-1], a list or a tuple -/
def tRevA (K : PySem.W.Frag) (te : TE) : TE := fun σ H Q => te σ H fun x H1 => ∃ a xs, x = .ref a ∧ ((SqL K H1 a xs ∧ ∀ p, H1 p = none → Q (.ref p) (upd H1 p (.lst xs.reverse))) ∨ (SqT K H1 a xs ∧ ∀ p, H1 p = none → Q (.ref p) (upd H1 p (.tup xs.reverse))))
theorem pe_revA {e : Expr} {te : TE} {k : Nat} {p1 p2 p3 pos : Pos} (he : PE X e te) : PE X (.Subscript e (.Slice none none (some (.UnaryOp .USub (.Constant (.int 1) k p1) p2)) p3) pos) (tRevA X.K te) := by
  refine ⟨fun pins s σ H Q I h => ?_⟩
  refine Subscript_ (thn (he.run pins s σ H _ I h) fun v s1 ⟨x, H1, I1, r1, q1⟩ => ?_)
  obtain ⟨a, xs, ex, q⟩ := q1
  subst ex
  cases r1
  have hst : PO X (some (.UnaryOp .USub (.Constant (.int 1) k p1) p2)) (tPart (tUn (rU fun i => .int (-i)) (tC (.int 1)))) := po_some (pe_un un_neg pe_int)
  refine wpAny_Slice (thn (po_none.run pins s1 σ H1 (fun o H2 => o = none ∧ H2 = H1) I1 ⟨rfl, rfl⟩) fun vl s2 ⟨l, H2, I2, pl, el, e2⟩ => ?_)
  subst el e2
  refine thn (po_none.run pins s2 σ H2 (fun o H3 => o = none ∧ H3 = H2) I2 ⟨rfl, rfl⟩) fun vu s3 ⟨u, H3, I3, pu, eu, e3⟩ => ?_
  subst eu e3
  refine thn (hst.run pins s3 σ H3 (fun o H4 => o = some (-1) ∧ H4 = H3) I3 ⟨1, rfl, -1, rfl, rfl, rfl⟩) fun vs s4 ⟨o, H4, I4, ps, eo, e4⟩ => ?_
  subst eo e4
  have I5 : Inv X pins σ H4 { s4 with heap := s4.heap.push { cls := .type "slice", data := .fields #[vl, vu, vs] } } := I4.kept (t' := s4.toks) fun b ob q => Heap.get?_push_of_some _ q
  show wpAny (model X.prog X.w) X.A (subscriptTail e (.Slice none none (some (.UnaryOp .USub (.Constant (.int 1) k p1) p2)) p3) (.ref a) (.ref s4.heap.objs.size)) (EP X pins σ Q) X.xe { s4 with heap := s4.heap.push { cls := .type "slice", data := .fields #[vl, vu, vs] } }
  rcases q with ⟨hx, q⟩ | ⟨hx, q⟩
  · obtain ⟨its, r, ht, hz⟩ := I5.list hx
    have hlen := r.length
    refine tail_any (ops := [.ref a, .ref s4.heap.objs.size]) ht.isList.typeIs (PySem.slot_list_getitem.lookup) ?_ (by with_unfolding_all rfl)
    refine wpAny_getItem_list_slice ht.isList (Heap.IsSliceOf.new _ vl vu vs) pl pu ps (by decide) ?_ (by rw [List.size_toArray]; omega)
    rw [PySem.W.krv_pick]
    refine ⟨.ref _, _, I5.laid (t' := s4.toks) (o := .lst xs.reverse) (fun b ob q => Heap.get?_push_of_some _ q) (Nat.le_refl _) ?_, rfl, q _ (I5.hok.fresh (Nat.le_refl _))⟩
    exact ⟨by rw [List.length_reverse]; exact hz, _, 0, r.reverse, Heap.get?_push_size _ rfl⟩
  · obtain ⟨its, r, ht, hz⟩ := I5.tuple hx
    have hlen := r.length
    cases pl
    cases pu
    refine tail_any (ops := [.ref a, .ref s4.heap.objs.size]) ht.typeIs (PyProof.Rows.slot_tuple_getitem.lookup) ?_ (by with_unfolding_all rfl)
    refine HT.getItem_tuple_rev ht (Heap.IsSliceOf.new _ .none .none vs) ps ?_ (by rw [List.size_toArray]; omega)
    refine ⟨.ref _, _, I5.laid (t' := s4.toks) (o := .tup xs.reverse) (fun b ob q => Heap.get?_push_of_some _ q) (Nat.le_refl _) ?_, rfl, q _ (I5.hok.fresh (Nat.le_refl _))⟩
    exact ⟨by rw [List.length_reverse]; exact hz, its.reverse, r.reverse, IsTup.new _ _⟩
end
end L2
namespace GH
open PySem L2 RZ
/-! ### xs[::-1] of a list -/
def revD (d : D) : Option D := match fz d with
  | some (.list ds) => some (.l (ds.reverse.map .p))
  | some (.tuple ds) => some (.p (.tuple ds.reverse))
  | _ => none
theorem ee_rev {C : Cx} {e : Expr} {f : M} {k : Nat} {p1 p2 p3 pos : Pos} (h : PE C e (okE C.K f)) : PE C (.Subscript e (.Slice none none (some (.UnaryOp .USub (.Constant (.int 1) k p1) p2)) p3) pos) (okE C.K (una revD f)) := (pe_revA h).gimp fun σ H Q ⟨Γ, X, d, Γ', F, S, e, k⟩ => by
  obtain ⟨⟨x, Γ1⟩, e1, e⟩ := bindS e
  obtain ⟨z, e3, e⟩ := mapS e
  cases e
  refine ⟨Γ, X, x, _, F, S, e1, fun H1 v F1 S1 => ?_⟩
  unfold revD at e3
  split at e3
  · rename_i qs eq
    cases e3
    have S2 := S1.frz eq
    obtain ⟨a, xs, rfl, hx, hl, S3⟩ := S2.itemsL
    refine ⟨a, xs, rfl, .inl ⟨hx, fun p hp => k _ _ F1 ?_⟩⟩
    have hz : (qs.reverse.map D.p).zip xs.reverse = ((qs.map D.p).zip xs).reverse := by
      rw [List.zip_eq_zipWith, List.zip_eq_zipWith, List.reverse_zipWith (by simpa using hl), List.map_reverse]
    have S4 := ((S3.perm List.perm_middle).drop)
    refine SL.close (by simpa using hl) (SL.newc ?_ hp)
    rw [hz]
    exact S4.perm ((List.reverse_perm _).symm.append_right _)
  · rename_i qs eq
    cases e3
    have S2 := S1.frz eq
    obtain ⟨a, xs, rfl, hx, hl, S3⟩ := S2.items
    refine ⟨a, xs, rfl, .inr ⟨hx, fun p hp => k _ _ F1 ?_⟩⟩
    have hz : (qs.reverse.map D.p).zip xs.reverse = ((qs.map D.p).zip xs).reverse := by
      rw [List.zip_eq_zipWith, List.zip_eq_zipWith, List.reverse_zipWith (by simpa using hl), List.map_reverse]
    have S4 := ((S3.perm List.perm_middle).drop)
    refine SL.tup (by simpa using hl) ?_ hp
    rw [hz]
    exact S4.perm ((List.reverse_perm _).symm.append_right _)
  · cases e3
/-! ### s.join(xs) -/
def allStrs : List PyData → Option (List Str)
  | [] => some []
  | .str x :: ds => (allStrs ds).map (x :: ·)
  | _ :: _ => none
def joinL (a : Str) (ds : List PyData) : Option D := (allStrs ds).bind fun ys => if (ys.map (·.length)).sum + ys.length * a.length ≤ 16777216 then some (.p (.str (Txt.join a ys))) else none
def joinD : D → D → Option D
  | .p (.str a), d => match fz d with
    | some (.list ds) => joinL a ds
    | some (.tuple ds) => joinL a ds
    | _ => none
  | _, _ => none
theorem allStrs_dp {K : PySem.W.Frag} {H : Hp} : ∀ {ds : List PyData} {ys : List Str} {vs : List V}, allStrs ds = some ys → DqAll K H vs ds → vs = ys.map V.str
  | [], _, _, e, h => by
    cases e
    cases h
    rfl
  | .str x :: ds, _, _, e, h => by
    obtain ⟨ys, e1, rfl⟩ := mapS e
    cases h with
    | cons h1 h2 =>
      cases h1
      rw [allStrs_dp e1 h2]
      rfl
theorem ee_join {C : Cx} {o e : Expr} {f g : M} {apos pos : Pos} (ho : PE C o (okE C.K f)) (he : PE C e (okE C.K g)) (hs : starEach [e] C.env = [(false, eval e C.env)] := by rfl) (hbase : attributeBase o "join" C.env (eval o C.env) = eval o C.env := by rfl) (hline : (apos.endLine == pos.line) = true := by rfl) : PE C (.Call (.Attribute o "join" apos) [e] [] pos) (okE C.K (bin joinD f g)) := (pe_join ho he hs hbase hline).gimp fun σ H Q ⟨Γ, X, d, Γ', F, S, e, k⟩ => by
  obtain ⟨⟨x, Γ1⟩, e1, e⟩ := bindS e
  obtain ⟨⟨y, Γ2⟩, e2, e⟩ := bindS e
  obtain ⟨z, e3, e⟩ := mapS e
  cases e
  refine ⟨Γ, X, x, Γ1, F, S, e1, fun H1 v F1 S1 => ?_⟩
  unfold joinD at e3
  dsimp only at e3
  split at e3
  · rename_i a
    have z1 := S1.dp
    cases z1
    refine ⟨⟨_, rfl⟩, Γ1, X, y, Γ2, F1, S1.drop, e2, fun H2 w F2 S2 => ?_⟩
    split at e3
    · rename_i ds eq
      obtain ⟨ys, e4, e3⟩ := bindS e3
      split at e3
      · rename_i hl
        cases e3
        have hd := S2.dpz eq
        cases hd with
        | @lst p vs _ hq ha =>
          have := allStrs_dp e4 ha
          subst this
          exact ⟨_, p, ys, rfl, rfl, .inl hq, hl, k _ _ F2 (S2.drop.flat fun _ => .str _)⟩
      · cases e3
    · rename_i ds eq
      obtain ⟨ys, e4, e3⟩ := bindS e3
      split at e3
      · rename_i hl
        cases e3
        have hd := S2.dpz eq
        cases hd with
        | @tup p vs _ hq ha =>
          have := allStrs_dp e4 ha
          subst this
          exact ⟨_, p, ys, rfl, rfl, .inr hq, hl, k _ _ F2 (S2.drop.flat fun _ => .str _)⟩
      · cases e3
    · cases e3
  · cases e3
/-! ### three names stored at once -/
theorem es_par3 {C : Cx} {ro : Nat → Prop} {st : Stmt} {i j l : Nat} {fa : MA} {ls : List (Option Nat)} (h : PS C st (tPar3 i j l (okA C.K ls fa))) (hr : ∀ a ∈ [i, j, l], ¬ ro a) : PS C st (okS C.K ro (parL [i, j, l] fa)) := h.gimp fun D σ H ⟨Γ, X, out, F, S, e, k⟩ => by
  obtain ⟨⟨ds, Γ1⟩, e1, e⟩ := bindS e
  refine ⟨Γ, X, ds, Γ1, F, S, e1, fun H1 vs F1 hl _ S1 => ?_⟩
  dsimp only at e
  split at e
  · rename_i hh
    cases e
    have g : gNms [i, j, l] vs σ H1 (fun σ' H' => D.nx σ' H') := gNms_run (ro := ro) hh.1 hl (fun a ha => ⟨by simpa using List.all_eq_true.mp hh.2 a ha, hr a ha⟩) F1 S1 fun σ' a F' S' => k _ σ' a F' S'
    obtain ⟨u, us, rfl, v, vs, rfl, w, ws, rfl, rfl, z⟩ := g
    exact ⟨u, v, w, rfl, z⟩
  · cases e
end GH
namespace L2
open PySem PySem.Spec PyProof.Rows
def trV : V → Option Bool
  | .bl b => some b
  | .int i => some (i != 0)
  | .non => some false
  | _ => none
def trVs : List V → Option (List Bool)
  | [] => some []
  | x :: xs => (trV x).bind fun b => (trVs xs).map (b :: ·)
theorem trVs_get : ∀ {xs : List V} {bs : List Bool}, trVs xs = some bs → xs.length = bs.length ∧ ∀ (i : Nat) x, xs[i]? = some x → ∃ b, bs[i]? = some b ∧ trV x = some b
  | [], _, e => by
    cases e
    exact ⟨rfl, fun i x h => by simp at h⟩
  | x :: xs, bs, e => by
    obtain ⟨b, e1, e2⟩ := Option.bind_eq_some_iff.mp (show (trV x).bind (fun b => (trVs xs).map (b :: ·)) = some bs from e)
    obtain ⟨bs', e3, rfl⟩ := Option.map_eq_some_iff.mp e2
    obtain ⟨h1, h2⟩ := trVs_get e3
    refine ⟨congrArg (· + 1) h1, fun i y h => ?_⟩
    cases i with
    | zero =>
      simp at h
      exact ⟨b, rfl, h ▸ e1⟩
    | succ i => exact h2 i y (by simpa using h)
theorem trV_true {prog : Program} {w : World} {A : Around} {s : Shared} {Q : Bool → Shared → Prop} {E : Value → Shared → Prop} {x : V} {u : Value} {b : Bool} (h : trV x = some b) (r : RelV x u) (q : Q b s) : wpAny (model prog w) A (truthy u) Q E s := by
  cases x with
  | bl c => cases h; cases r; exact wpAny_truthy_bool q
  | int i =>
    cases h
    obtain ⟨t, rfl⟩ := r
    exact PySem.P.truthy_int q
  | non => cases h; cases r; exact fun _ _ _ => q
  | str y => cases h
  | byt y => cases h
  | flt y => cases h
  | ref y => cases h
  | ty y => cases h
theorem range_any (bs : List Bool) : (List.range bs.length).any (fun i => bs[i]?.getD false) = bs.any id := by
  rw [Bool.eq_iff_iff, List.any_eq_true, List.any_eq_true]
  constructor
  · rintro ⟨i, hi, h⟩
    have hi' := List.mem_range.mp hi
    rw [List.getElem?_eq_getElem hi'] at h
    exact ⟨_, List.getElem_mem hi', h⟩
  · rintro ⟨b, hb, h⟩
    obtain ⟨i, hi, e⟩ := List.getElem_of_mem hb
    refine ⟨i, List.mem_range.mpr hi, ?_⟩
    rw [List.getElem?_eq_getElem hi, e]
    exact h
theorem range_all (bs : List Bool) : (List.range bs.length).all (fun i => bs[i]?.getD false) = bs.all id := by
  rw [Bool.eq_iff_iff, List.all_eq_true, List.all_eq_true]
  constructor
  · intro h b hb
    obtain ⟨i, hi, e⟩ := List.getElem_of_mem hb
    have := h i (List.mem_range.mpr hi)
    rw [List.getElem?_eq_getElem hi, e] at this
    exact this
  · intro h i hi
    have hi' := List.mem_range.mp hi
    rw [List.getElem?_eq_getElem hi']
    exact h _ (List.getElem_mem hi')
def rTr (K : PySem.W.Frag) (f : List Bool → Bool) : List V → Hp → VK → Prop := fun vs H Q => ∃ a xs bs, vs = [.ref a] ∧ (SqL K H a xs ∨ SqT K H a xs) ∧ trVs xs = some bs ∧ Q (.bl (f bs)) H
section
variable {X : Cx}
theorem walk_tr {prog : Program} {w : World} {A : Around} {xs : List V} {its : List Value} {bs : List Bool} (r : Vals xs its) (h : trVs xs = some bs) :
    TruthOf prog w A (fun i v => its.toArray[i]? = some v) (fun i => bs[i]?.getD false) := by
  intro i v s Q E hv q
  have hv' : its[i]? = some v := by simpa using hv
  obtain ⟨hl, hg⟩ := trVs_get h
  have hi : i < xs.length := by rw [r.length]; exact (List.getElem?_eq_some_iff.mp hv').1
  obtain ⟨u, hu, hr⟩ := r.get (List.getElem?_eq_getElem hi)
  rw [hv'] at hu
  cases hu
  obtain ⟨b, hb, ht⟩ := hg i _ (List.getElem?_eq_getElem hi)
  have q : Q (bs[i]?.getD false) s := q
  rw [hb] at q
  exact trV_true ht hr q
theorem gr_any (hc : X.calm = true) : CallR X (.builtin "any") (rTr X.K fun bs => bs.any id) := by
  intro pins s σ H vs us Q I r h
  obtain ⟨a, xs, bs, rfl, hs, ht, q⟩ := h
  rw [Vals.ref1 r]
  have hh : X.A.in1.handled = none := I.ok.hd hc
  rcases hs with hs | hs
  · obtain ⟨its, rv, hl, _⟩ := I.list hs
    have hlen : its.length = bs.length := rv.length.symm.trans (trVs_get ht).1
    refine call_any_walk (wpAny_pyIter_list hl.isList ?_)
    have la : a < s.heap.objs.size := by obtain ⟨o, ho, _⟩ := hl.isList; exact Heap.lt_size ho
    refine ⟨_, _, _, _, _, _, _, rfl, Walks.list hh _ a (Nat.ne_of_lt la) its.toArray, ⟨⟨_, Heap.get?_push_size _ rfl, rfl, rfl⟩, hl.isList.push _⟩, walk_tr rv ht, fun h' tk hk => ?_⟩
    rw [List.size_toArray, hlen, range_any]
    exact ⟨.bl _, H, I.kept fun b o e => hk b o (fun hm => Nat.ne_of_lt (Heap.lt_size e) (List.mem_singleton.mp hm)) (Heap.get?_push_of_some _ e), rfl, q⟩
  · obtain ⟨its, rv, hl, _⟩ := I.tuple hs
    have hlen : its.length = bs.length := rv.length.symm.trans (trVs_get ht).1
    refine call_any_walk (wpAny_pyIter_tuple hl ?_)
    have la : a < s.heap.objs.size := by obtain ⟨o, ho, _⟩ := hl; exact Heap.lt_size ho
    refine ⟨_, _, _, _, _, _, _, rfl, Walks.tuple hh _ a (Nat.ne_of_lt la) its.toArray, ⟨⟨_, Heap.get?_push_size _ rfl, rfl, rfl⟩, hl.push _⟩, walk_tr rv ht, fun h' tk hk => ?_⟩
    rw [List.size_toArray, hlen, range_any]
    exact ⟨.bl _, H, I.kept fun b o e => hk b o (fun hm => Nat.ne_of_lt (Heap.lt_size e) (List.mem_singleton.mp hm)) (Heap.get?_push_of_some _ e), rfl, q⟩
theorem gr_all (hc : X.calm = true) : CallR X (.builtin "all") (rTr X.K fun bs => bs.all id) := by
  intro pins s σ H vs us Q I r h
  obtain ⟨a, xs, bs, rfl, hs, ht, q⟩ := h
  rw [Vals.ref1 r]
  have hh : X.A.in1.handled = none := I.ok.hd hc
  rcases hs with hs | hs
  · obtain ⟨its, rv, hl, _⟩ := I.list hs
    have hlen : its.length = bs.length := rv.length.symm.trans (trVs_get ht).1
    refine call_all_walk (wpAny_pyIter_list hl.isList ?_)
    have la : a < s.heap.objs.size := by obtain ⟨o, ho, _⟩ := hl.isList; exact Heap.lt_size ho
    refine ⟨_, _, _, _, _, _, _, rfl, Walks.list hh _ a (Nat.ne_of_lt la) its.toArray, ⟨⟨_, Heap.get?_push_size _ rfl, rfl, rfl⟩, hl.isList.push _⟩, walk_tr rv ht, fun h' tk hk => ?_⟩
    rw [List.size_toArray, hlen, range_all]
    exact ⟨.bl _, H, I.kept fun b o e => hk b o (fun hm => Nat.ne_of_lt (Heap.lt_size e) (List.mem_singleton.mp hm)) (Heap.get?_push_of_some _ e), rfl, q⟩
  · obtain ⟨its, rv, hl, _⟩ := I.tuple hs
    have hlen : its.length = bs.length := rv.length.symm.trans (trVs_get ht).1
    refine call_all_walk (wpAny_pyIter_tuple hl ?_)
    have la : a < s.heap.objs.size := by obtain ⟨o, ho, _⟩ := hl; exact Heap.lt_size ho
    refine ⟨_, _, _, _, _, _, _, rfl, Walks.tuple hh _ a (Nat.ne_of_lt la) its.toArray, ⟨⟨_, Heap.get?_push_size _ rfl, rfl, rfl⟩, hl.push _⟩, walk_tr rv ht, fun h' tk hk => ?_⟩
    rw [List.size_toArray, hlen, range_all]
    exact ⟨.bl _, H, I.kept fun b o e => hk b o (fun hm => Nat.ne_of_lt (Heap.lt_size e) (List.mem_singleton.mp hm)) (Heap.get?_push_of_some _ e), rfl, q⟩
end
end L2
namespace GH
open PySem L2
def truths : List PyData → Option (List Bool)
  | [] => some []
  | .bool b :: ds => (truths ds).map (b :: ·)
  | .int i :: ds => (truths ds).map ((i != 0) :: ·)
  | .none :: ds => (truths ds).map (false :: ·)
  | _ :: _ => none
theorem truths_dp {K : PySem.W.Frag} {H : Hp} : ∀ {ds : List PyData} {bs : List Bool} {vs : List V}, truths ds = some bs → DqAll K H vs ds → trVs vs = some bs
  | [], _, _, e, h => by
    cases e
    cases h
    rfl
  | .bool b :: ds, _, _, e, h => by
    obtain ⟨ns, e1, rfl⟩ := mapS e
    cases h with
    | cons h1 h2 =>
      cases h1
      show (some b).bind _ = _
      rw [truths_dp e1 h2]
      rfl
  | .int i :: ds, _, _, e, h => by
    obtain ⟨ns, e1, rfl⟩ := mapS e
    cases h with
    | cons h1 h2 =>
      cases h1
      show (some (i != 0)).bind _ = _
      rw [truths_dp e1 h2]
      rfl
  | .none :: ds, _, _, e, h => by
    obtain ⟨ns, e1, rfl⟩ := mapS e
    cases h with
    | cons h1 h2 =>
      cases h1
      show (some false).bind _ = _
      rw [truths_dp e1 h2]
      rfl
def trD (f : List Bool → Bool) (d : D) : Option D := match fz d with
  | some (.list ds) => (truths ds).map fun bs => .p (.bool (f bs))
  | some (.tuple ds) => (truths ds).map fun bs => .p (.bool (f bs))
  | _ => none
def anyD : D → Option D := trD fun bs => bs.any id
def allD : D → Option D := trD fun bs => bs.all id
section
variable {C : Cx}
theorem c_tr {id : String} {f : List Bool → Bool} (h : CallR C (.builtin id) (rTr C.K f)) : CallR C (.builtin id) (okK C.K (trD f)) := h.gimp fun vs H Q ⟨L, dx, x, d, ev, S, e, k⟩ => by
  subst ev
  unfold trD at e
  split at e
  · rename_i ds eq
    obtain ⟨bs, e1, rfl⟩ := mapS e
    have hd := S.dpz eq
    cases hd with
    | @lst a vs _ hq ha =>
      exact ⟨a, vs, bs, rfl, .inl hq, truths_dp e1 ha, k _ _ (S.flat fun _ => .bl _)⟩
  · rename_i ds eq
    obtain ⟨bs, e1, rfl⟩ := mapS e
    have hd := S.dpz eq
    cases hd with
    | @tup a vs _ hq ha =>
      exact ⟨a, vs, bs, rfl, .inr hq, truths_dp e1 ha, k _ _ (S.flat fun _ => .bl _)⟩
  · cases e
theorem c_any (hc : C.calm = true) : CallR C (.builtin "any") (okK C.K anyD) := c_tr (gr_any hc)
theorem c_all (hc : C.calm = true) : CallR C (.builtin "all") (okK C.K allD) := c_tr (gr_all hc)
end
end GH
namespace L2
open PySem PySem.Spec PyProof.Rows
/-- the tuple at a, its items numbered from k0 in new pairs -/
def IteT (K : PySem.W.Frag) (a : Addr) (k0 : Int) : It :=
  ⟨fun i H => ∃ (xs : List V) (x : V), SqT K H a xs ∧ xs[i]? = some x, fun i H v H' => ∃ T x, v = .ref T ∧ H T = none ∧ H' = upd H T (.tup [.int (k0 + (i : Nat)), x]) ∧ ∀ xs, SqT K H a xs → xs[i]? = some x, fun i H => ∃ xs : List V, SqT K H a xs ∧ xs.length ≤ i⟩
theorem turn_enumT {P : Program} {w : World} {K : PySem.W.Frag} {elts : List Expr} {kk : Nat} {tpos : Pos} (a e it : Addr) (k0 : Int) (hea : e ≠ a) (hia : it ≠ a) :
    Turn P w K (.Tuple elts kk tpos) (IteT K a k0) [e, it] e (fun i h => (∃ old, IsEnum h e it (k0 + ((i : Nat) : Int)) old) ∧ h.IsTupleIter it a i ∧ e ≠ it) where
  mem := by simp
  obj := fun i h st b hb => by
    obtain ⟨⟨old, he⟩, ⟨o, ho, hc, hd⟩, _⟩ := st
    have e' : b = e ∨ b = it := by simpa using hb
    rcases e' with z | z
    · rw [z]; exact ⟨_, he, fun v q => nomatch q⟩
    · rw [z]; exact ⟨o, ho, fun v q => by rw [hd] at q; cases q⟩
  keep := fun i h h' st k => let ⟨⟨old, he⟩, hi, hne⟩ := st; ⟨⟨old, k e (by simp) _ he⟩, hi.at fun o q => k it (by simp) o q, hne⟩
  item := by
    intro X hP hw hK hc i pins s σ H E I hf st hg
    subst hP hw hK
    obtain ⟨⟨old, he⟩, hit, hne⟩ := st
    obtain ⟨xs, x, hq, hx⟩ := hg
    obtain ⟨its, rv, p, hz⟩ := I.tuple hq
    obtain ⟨u, hu, ru⟩ := rv.get hx
    have hel : e < s.heap.objs.size := Heap.lt_size he
    have hil : it < s.heap.objs.size := by obtain ⟨_, q, _⟩ := hit; exact Heap.lt_size q
    have hlt : i < its.toArray.size := by
      have := (List.getElem?_eq_some_iff.mp hu).1
      simpa using this
    have hh1 : X.A.in1.handled = none := I.ok.hd hc
    refine wpAny_pyNext_enum_itemC (Draws.tuple hh1 it a (Ne.symm hia) its.toArray) he ⟨hit, p⟩ hlt hne (by simp [hne, hea]) fun y h' tk hy ho hit' hT hsz hk => ?_
    have hyu : u = y := by
      have : its[i]? = some y := by simpa using hy
      rw [hu] at this
      exact Option.some.inj this
    subst hyu
    refine ⟨_, rfl, wpAny_letOwnedTupleGo_enum (s := { s with heap := h', toks := tk + 1 }) ho fun h'' he' sb => ?_⟩
    have hT2 : h''.get? s.heap.objs.size = some { cls := .type "tuple", data := .seq #[.int (k0 + ((i : Nat) : Int)) tk, u] } := (sb.2 _ (Nat.ne_of_gt hel)).trans hT
    have new : ObjOk X.prog X.w (upd H s.heap.objs.size (.tup [.int (k0 + (i : Nat)), x])) h'' s.heap.objs.size (.tup [.int (k0 + (i : Nat)), x]) :=
      ⟨by show 2 ≤ sizeLine; decide, [.int (k0 + ((i : Nat) : Int)) tk, u], .cons ⟨_, rfl⟩ (.cons ru .nil), ⟨_, hT2, rfl, _, rfl⟩⟩
    have I1 : Inv X pins σ (upd H s.heap.objs.size (.tup [.int (k0 + (i : Nat)), x])) { s with heap := h'', toks := tk + 1 } :=
      I.turnedNew (ch := [e, it]) (fun b ob hb q => (sb.2 b (fun z => hb (by simp [z]))).trans (hk b ob (fun z => hb (by simp [z])) (fun z => hb (by simp [z])) q)) hf (Nat.le_refl _) new
    refine ⟨.ref s.heap.objs.size, _, I1, rfl, ⟨_, x, rfl, I.hok.fresh (Nat.le_refl _), rfl, fun ys hy => by rw [I.tuple_inj hy hq]; exact hx⟩, ⟨⟨u, ?_⟩, hit'.1.at fun o q => (sb.2 it (Ne.symm hne)).trans q, hne⟩, fun b hb => ?_⟩
    · have e1 : k0 + ((i + 1 : Nat) : Int) = k0 + (i : Int) + 1 := by omega
      rw [e1]; exact he'
    · have hb' : b < s.heap.objs.size := by
        have e' : b = e ∨ b = it := by simpa using hb
        rcases e' with z | z
        · rw [z]; exact hel
        · rw [z]; exact hil
      rw [upd_ne (Nat.ne_of_lt hb')]
      exact (hf b hb).1
  done := by
    intro X hP hw hK hc i pins s σ H E I hf st hg
    subst hP hw hK
    obtain ⟨⟨old, he⟩, hit, hne⟩ := st
    obtain ⟨xs, hq, hx⟩ := hg
    obtain ⟨its, rv, p, hz⟩ := I.tuple hq
    obtain ⟨f0, f1, f2, f3, f4, f5⟩ := hf it (by simp)
    have hl := rv.length
    have hnone : its.toArray[i]? = none := by simp; omega
    have hstop : ∀ (m : Nat), m = i → its.toArray.size ≤ m → True := fun _ _ _ => trivial
    have hT : s.TypeIs (.ref e) "enumerate" := ⟨_, he, rfl⟩
    unfold pyNext
    refine wpAny_bind (wpAny_attempt (wpAny_callSpecial?_slot (name := Str.ofString "__next__") hT F.slot_enumerate_next
      (wpAny_call_entry F.slot_enumerate_next hT F.entry_enumerate_next ?_ (F.args_enumerate_next_1 _))))
    show wpAny _ _ (field (.ref e) 2 >>= _) _ _ _
    refine wpAny_bind (wpAny_field he rfl (x := .ref it) rfl ?_)
    refine wpAny_bind (wpAny_nextOf_tuple_end (I.ok.hd hc) hit p hnone fun h' x he' hx' => ?_)
    obtain ⟨o, ho, hc'⟩ := hx'
    refine wpAny_bind (wpAny_isInstance (T := "StopIteration") (b := true) ⟨o, ho, hc'⟩ isSubtype_stop ?_)
    exact wpAny_pure ⟨rfl, I.turned (t' := s.toks) (fun b o hb q => he' b o hb q) f0 f1 f3 f4 f5⟩
  self := fun A i s Q E st h => let ⟨⟨_, he⟩, _⟩ := st; wpAny_pyIter_enum he h
def iEnumT (K : PySem.W.Frag) (ta : TA) : TI := fun σ H R => ta σ H fun vs H1 => ∃ a xs k0, vs = [.ref a, .int k0] ∧ -(2 ^ 63) ≤ k0 ∧ k0 < 2 ^ 63 ∧ SqT K H1 a xs ∧ R (IteT K a k0) H1
theorem pi_enumT {X : Cx} {e e2 : Expr} {ta : TA} {p pos tpos : Pos} {elts : List Expr} {kk : Nat} (hg : Gl X "enumerate") (hm : X.mg "enumerate" = none) (ha : PA X [e, e2] ta) (hs : starEach [e, e2] X.env = (false, eval e X.env) :: starEach [e2] X.env := by rfl) (hpl : (backTo pos (starEach [e2] X.env)).any (·.1) = false := by rfl) :
    PI X (.Tuple elts kk tpos) (.Call (.Name "enumerate" p) [e, e2] [] pos) (iEnumT X.K ta) := by
  refine ⟨fun pins s σ H R I h => ?_⟩
  refine Call_ (ld_blt I hg hm boot_enumerate (PyProof.Rows.callWith_type1 (thn (ha.run pos pins s σ H _ I h) fun us s1 ⟨vs, H1, I1, r1, q1⟩ => ?_) hs hpl))
  obtain ⟨a, xs, k0, ex, hk0, hk1, hq, q⟩ := q1
  subst ex
  cases r1 with
  | cons r rr =>
    cases rr with
    | cons r2 rr =>
      cases rr
      cases r
      obtain ⟨t, rfl⟩ := r2
      obtain ⟨its, rv, p', hz⟩ := I1.tuple hq
      have la : a < s1.heap.objs.size := p'.lt
      refine enum_begins (begins_tuple a its.toArray) p' hk0 hk1 fun h' he hit hsz hk => wpAny_pyIter_enum he ?_
      have I2 : Inv X pins σ H1 { s1 with heap := h' } := I1.kept (t' := s1.toks) hk
      refine ⟨s1.heap.objs.size + 1, [s1.heap.objs.size + 1, s1.heap.objs.size], _, _, H1, rfl, I2, turn_enumT a (s1.heap.objs.size + 1) s1.heap.objs.size k0 (Nat.ne_of_gt (Nat.lt_succ_of_lt la)) (Nat.ne_of_gt la), ⟨⟨.none, by simpa using he⟩, ⟨_, hit, rfl, rfl⟩, Nat.succ_ne_self _⟩, fun b hb => ?_, q⟩
      have e' : b = s1.heap.objs.size + 1 ∨ b = s1.heap.objs.size := by simpa using hb
      have hle : s1.heap.objs.size ≤ b := by
        rcases e' with z | z
        · rw [z]; exact Nat.le_add_right _ _
        · rw [z]; exact Nat.le_refl _
      exact I1.fpOk hle (I1.hok.fresh hle)
end L2
namespace GH
open PySem L2
def enumC (k : Int) : List PyData → List PyData
  | [] => []
  | d :: ds => .tuple [.int k, d] :: enumC (k + 1) ds
theorem enumC_len : ∀ {ds : List PyData} {i : Int}, (enumC i ds).length = ds.length
  | [], _ => rfl
  | _ :: ds, i => congrArg (· + 1) (enumC_len (ds := ds))
theorem enumC_get : ∀ {ds : List PyData} {k : Int} {i : Nat} {d : PyData}, (enumC k ds)[i]? = some d → ∃ q, ds[i]? = some q ∧ d = .tuple [.int (k + (i : Nat)), q]
  | [], _, _, _, h => by simp [enumC] at h
  | q :: ds, k, 0, d, h => ⟨q, rfl, by simp [enumC] at h; simp [← h]⟩
  | q :: ds, k, i + 1, d, h => by
    obtain ⟨q', h1, h2⟩ := enumC_get (ds := ds) (k := k + 1) (i := i) (by simpa [enumC] using h)
    exact ⟨q', by simpa using h1, by rw [h2]; congr 3; omega⟩
section
variable {K : PySem.W.Frag} {ds : List PyData} {a : Addr}
theorem srv_enumT {k : Int} : Srv K (IteT K a k) [(.p (.tuple ds), .ref a)] (enumC k ds) where
  go := fun i H L S hi => by
    obtain ⟨xs, hx, hl, _⟩ := SL.atT S
    rw [enumC_len] at hi
    exact ⟨xs, xs[i], hx, List.getElem?_eq_getElem (by omega)⟩
  yld := fun i H L x H' S y d hd => by
    obtain ⟨T, z, rfl, hT, rfl, y⟩ := y
    obtain ⟨xs, hx, hl, S'⟩ := SL.atT S
    obtain ⟨q, hq, rfl⟩ := enumC_get hd
    exact SL.pair ((S'.pickL hq (y xs hx)).flat fun _ => .int _) hT
  stop := fun H L S => by
    obtain ⟨xs, hx, hl, _⟩ := SL.atT S
    exact ⟨xs, hx, by rw [enumC_len]; omega⟩
end
def enumI2 (fa : MA) : MI := fun Γ => (fa Γ).bind fun r => match r.1 with
  | [d, .p (.int k)] => match fz d with
    | some (.tuple ds) => if -(2 ^ 62) ≤ k ∧ k < 2 ^ 62 then some (enumC k ds, r.2) else none
    | _ => none
  | _ => none
section
variable {C : Cx} {tg e e2 : Expr} {f : M} {fa : MA} {ls : List (Option Nat)} {p pos tpos : Pos}
theorem ei_enum2 {elts : List Expr} {kk : Nat} (hg : Gl C "enumerate") (hm : C.mg "enumerate" = none) (ha : PA C [e, e2] (okA C.K ls fa)) (hs : starEach [e, e2] C.env = (false, eval e C.env) :: starEach [e2] C.env := by rfl) (hpl : (backTo pos (starEach [e2] C.env)).any (·.1) = false := by rfl) :
    PI C (.Tuple elts kk tpos) (.Call (.Name "enumerate" p) [e, e2] [] pos) (okI C.K (enumI2 fa)) := (pi_enumT hg hm ha hs hpl).gimp fun σ H R ⟨Γ, X, ds, Γ', F, S, e, k⟩ => by
  obtain ⟨⟨d, Γ1⟩, e1, e⟩ := bindS e
  refine ⟨Γ, X, d, Γ1, F, S, e1, fun H1 vs F1 hl _ S1 => ?_⟩
  dsimp only at e
  split at e
  · rename_i dd k0
    split at e
    · rename_i qs eq
      split at e
      · rename_i hk
        cases e
        match vs, hl, S1 with
        | [x, y], _, S1 =>
          have S1 : SL C.K H1 ((dd, x) :: (.p (.int k0), y) :: (slots _ σ ++ X)) := S1
          have S2 := S1.frz eq
          obtain ⟨a, xs, rfl, hx, _, _⟩ := S2.items
          have S3 := S2.swp
          have z := S3.dp
          cases z
          exact ⟨a, xs, k0, rfl, by omega, by omega, hx, k H1 _ _ F1 srv_enumT S3.drop⟩
      · cases e
    · cases e
  · cases e
end
end GH
namespace PySem
open AutoSeq1 (wpAny_loadPart')
theorem meets_enumerate_newT (l : Addr) (items : Array Value) (n : Nat) (dct : Option Addr) (sl : Array (Option Value)) :
    Meets (Builtin.«enumerate.__new__» ⟨[.type "enumerate", .ref l], []⟩) (fun _ R s => s.heap.get? l = some { cls := .type "tuple", dict := dct, data := .seq items n, slots := sl } ∧
      R (.ok (.ret (.ref (s.heap.push { cls := .type "tuple_iterator", data := .fields #[.ref l, .int 0 0] }).objs.size)))
        { s with heap := (s.heap.push { cls := .type "tuple_iterator", data := .fields #[.ref l, .int 0 0] }).push { cls := .type "enumerate", data := .fields #[.none, .bool false, .ref s.heap.objs.size, rawInt 0, .none, .none] } }) :=
  .of_wp fun prog w A R s h => by
    obtain ⟨hp, g, d, tk, os⟩ := s; obtain ⟨hl, h⟩ := h
    have hsub := sub_enumerate
    have hL : Heap.IsTuple (Shared.heap ⟨hp, g, d, tk, os⟩) l items := ⟨_, hl, rfl, n, rfl⟩
    wp_walk using wpAny_loadPart' hl
    refine wpAny_stack_any fun st => wpAny_pure ?_
    split
    · rename_i c _ _ _ _ _
      cases (c == Value.type "enumerate")
      · wp_walk using wpAny_loadPart' hl, wpAny_pyIter_tuple hL
        exact ⟨_, rfl, h⟩
      · wp_walk using wpAny_loadPart' hl, wpAny_pyIter_tuple hL
        exact ⟨_, rfl, h⟩
    · wp_walk using wpAny_loadPart' hl, wpAny_pyIter_tuple hL
      exact ⟨_, rfl, h⟩
theorem call_enumerate_tuple {prog : Program} {w : World} {A : Around} {E : Value → Shared → Prop} {s : Shared} {l : Addr} {items : Array Value} {Q : Value → Shared → Prop} (hL : s.heap.IsTuple l items)
    (h : ∀ h', IsEnum h' (s.heap.objs.size + 1) s.heap.objs.size 0 .none → h'.IsTupleIter s.heap.objs.size l 0 → h'.objs.size = s.heap.objs.size + 2 →
      (∀ b o, s.heap.get? b = some o → h'.get? b = some o) → Q (.ref (s.heap.objs.size + 1)) { s with heap := h' }) :
    wpAny (model prog w) A (call (.type "enumerate") [.ref l]) Q E s := by
  obtain ⟨⟨c, dct, dt, sl⟩, hl, hc, n, hd⟩ := hL
  replace hc : c = .type "tuple" := hc
  replace hd : dt = .seq items n := hd
  subst hc hd
  refine callType_new F.called_enumerate (by decide) (F.typeCall_enumerate_1 _) (F.newCall_enumerate_1 _) (fun obj => F.args_object_init_2 obj _) F.entry_enumerate_new
    (meets_enumerate_newT l items n dct sl) ⟨hl, ?_⟩
  have hz : (s.heap.push { cls := .type "tuple_iterator", data := .fields #[.ref l, .int 0 0] }).objs.size = s.heap.objs.size + 1 := Heap.size_push ..
  show _ ∧ _
  rw [hz]
  have he : IsEnum ((s.heap.push { cls := .type "tuple_iterator", data := .fields #[.ref l, .int 0 0] }).push
      { cls := .type "enumerate", data := .fields #[.none, .bool false, .ref s.heap.objs.size, rawInt 0, .none, .none] }) (s.heap.objs.size + 1) s.heap.objs.size 0 .none := by
    have := Heap.get?_push_size (s.heap.push { cls := .type "tuple_iterator", data := .fields #[.ref l, .int 0 0] })
      (o := { cls := .type "enumerate", data := .fields #[.none, .bool false, .ref s.heap.objs.size, rawInt 0, .none, .none] }) rfl
    rw [hz] at this; exact this
  refine ⟨⟨_, he, rfl⟩, h _ he ⟨_, Heap.get?_push_of_some _ (Heap.get?_push_size _ rfl), rfl, rfl⟩ (by rw [Heap.size_push, hz]) fun b o y => Heap.get?_push_of_some _ (Heap.get?_push_of_some _ y)⟩
end PySem
namespace L2
open PySem PySem.Spec PyProof.Rows
/-- the signs of a text, numbered in new pairs -/
def IteS (z : Str) : It :=
  ⟨fun i H => i < z.cps.size, fun i H v H' => ∃ T c, v = .ref T ∧ H T = none ∧ z.cps[i]? = some c ∧ H' = upd H T (.tup [.int (i : Nat), .str ⟨#[c]⟩]), fun i H => i = z.cps.size⟩
theorem turn_enumS {P : Program} {w : World} {K : PySem.W.Frag} {elts : List Expr} {kk : Nat} {tpos : Pos} (z : Str) (t : Tok) (e it : Addr) :
    Turn P w K (.Tuple elts kk tpos) (IteS z) [e, it] e (fun i h => (∃ old, IsEnum h e it ((i : Nat) : Int) old) ∧ h.IsStrIter it (strIterType z) z t i ∧ e ≠ it) where
  mem := by simp
  obj := fun i h st b hb => by
    obtain ⟨⟨old, he⟩, ⟨o, ho, hc, hd⟩, _⟩ := st
    have e' : b = e ∨ b = it := by simpa using hb
    rcases e' with q | q
    · rw [q]; exact ⟨_, he, fun v q => nomatch q⟩
    · rw [q]; exact ⟨o, ho, fun v q => by rw [hd] at q; cases q⟩
  keep := fun i h h' st k => let ⟨⟨old, he⟩, ⟨o, ho, r⟩, hne⟩ := st; ⟨⟨old, k e (by simp) _ he⟩, ⟨o, k it (by simp) o ho, r⟩, hne⟩
  item := by
    intro X hP hw hK hc i pins s σ H E I hf st hg
    subst hP hw hK
    obtain ⟨⟨old, he⟩, hit, hne⟩ := st
    have hel : e < s.heap.objs.size := Heap.lt_size he
    have hil : it < s.heap.objs.size := by obtain ⟨_, q, _⟩ := hit; exact Heap.lt_size q
    have hh1 : X.A.in1.handled = none := I.ok.hd hc
    refine wpAny_pyNext_enum_itemC (Draws.text hh1 it z t) he hit hg hne (by simp [hne]) fun y h' tk hy ho hit' hT hsz hk => ?_
    obtain ⟨c, u, hcx, rfl⟩ := hy
    refine ⟨_, rfl, wpAny_letOwnedTupleGo_enum (s := { s with heap := h', toks := tk + 1 }) ho fun h'' he' sb => ?_⟩
    have hT2 : h''.get? s.heap.objs.size = some { cls := .type "tuple", data := .seq #[.int ((i : Nat) : Int) tk, .str ⟨#[c]⟩ u] } := (sb.2 _ (Nat.ne_of_gt hel)).trans hT
    have new : ObjOk X.prog X.w (upd H s.heap.objs.size (.tup [.int (i : Nat), .str ⟨#[c]⟩])) h'' s.heap.objs.size (.tup [.int (i : Nat), .str ⟨#[c]⟩]) :=
      ⟨by show 2 ≤ sizeLine; decide, [.int ((i : Nat) : Int) tk, .str ⟨#[c]⟩ u], .cons ⟨_, rfl⟩ (.cons ⟨_, rfl⟩ .nil), ⟨_, hT2, rfl, _, rfl⟩⟩
    have I1 : Inv X pins σ (upd H s.heap.objs.size (.tup [.int (i : Nat), .str ⟨#[c]⟩])) { s with heap := h'', toks := tk + 1 } :=
      I.turnedNew (ch := [e, it]) (fun b ob hb q => (sb.2 b (fun z => hb (by simp [z]))).trans (hk b ob (fun z => hb (by simp [z])) (fun z => hb (by simp [z])) q)) hf (Nat.le_refl _) new
    obtain ⟨oi, ho2, r2⟩ := hit'
    refine ⟨.ref s.heap.objs.size, _, I1, rfl, ⟨_, c, rfl, I.hok.fresh (Nat.le_refl _), hcx, rfl⟩, ⟨⟨.str ⟨#[c]⟩ u, ?_⟩, ⟨oi, (sb.2 it (Ne.symm hne)).trans ho2, r2⟩, hne⟩, fun b hb => ?_⟩
    · have e1 : ((i + 1 : Nat) : Int) = (i : Int) + 1 := by omega
      rw [e1]; exact he'
    · have hb' : b < s.heap.objs.size := by
        have e' : b = e ∨ b = it := by simpa using hb
        rcases e' with z | z
        · rw [z]; exact hel
        · rw [z]; exact hil
      rw [upd_ne (Nat.ne_of_lt hb')]
      exact (hf b hb).1
  done := by
    intro X hP hw hK hc i pins s σ H E I hf st hg
    subst hP hw hK
    obtain ⟨⟨old, he⟩, hit, hne⟩ := st
    have hi : i = z.cps.size := hg
    subst hi
    obtain ⟨f0, f1, f2, f3, f4, f5⟩ := hf it (by simp)
    have hh1 : X.A.in1.handled = none := I.ok.hd hc
    exact wpAny_pyNext_enum_endD (Draws.text hh1 it z t) he hit fun h' eb => ⟨rfl, I.turned (t' := s.toks) (fun b o hb q => eb b o hb q) f0 f1 f3 f4 f5⟩
  self := fun A i s Q E st h => let ⟨⟨_, he⟩, _⟩ := st; wpAny_pyIter_enum he h
def iEnumA (K : PySem.W.Frag) (ta : TA) : TI := fun σ H R => ta σ H fun vs H1 => (∃ a xs, vs = [.ref a] ∧ SqL K H1 a xs ∧ R (Ite K a) H1) ∨ (∃ a xs, vs = [.ref a] ∧ SqT K H1 a xs ∧ R (IteT K a 0) H1) ∨ (∃ z, vs = [.str z] ∧ R (IteS z) H1)
theorem pi_enumA {X : Cx} {e : Expr} {ta : TA} {p pos tpos : Pos} {elts : List Expr} {kk : Nat} (hg : Gl X "enumerate") (hm : X.mg "enumerate" = none) (ha : PA X [e] ta) (hs : starEach [e] X.env = [(false, eval e X.env)] := by rfl) :
    PI X (.Tuple elts kk tpos) (.Call (.Name "enumerate" p) [e] [] pos) (iEnumA X.K ta) := by
  refine ⟨fun pins s σ H R I h => ?_⟩
  refine Call_ (ld_blt I hg hm boot_enumerate (PyProof.Rows.callWith_type1 (thn (ha.run pos pins s σ H _ I h) fun us s1 ⟨vs, H1, I1, r1, q1⟩ => ?_) hs rfl))
  have hle : ∀ {b : Addr}, b ∈ [s1.heap.objs.size + 1, s1.heap.objs.size] → s1.heap.objs.size ≤ b := by
    intro b hb
    have e' : b = s1.heap.objs.size + 1 ∨ b = s1.heap.objs.size := by simpa using hb
    rcases e' with z | z
    · rw [z]; exact Nat.le_add_right _ _
    · rw [z]; exact Nat.le_refl _
  rcases q1 with ⟨a, xs, ex, hq, q⟩ | ⟨a, xs, ex, hq, q⟩ | ⟨z, ex, q⟩
  · subst ex
    cases r1 with
    | cons r rr =>
      cases rr
      cases r
      obtain ⟨its, rv, p', hz⟩ := I1.list hq
      refine call_enumerate_list p'.isList fun h' he hit hsz hk => wpAny_pyIter_enum he ?_
      have I2 : Inv X pins σ H1 { s1 with heap := h' } := I1.kept (t' := s1.toks) hk
      exact ⟨s1.heap.objs.size + 1, [s1.heap.objs.size + 1, s1.heap.objs.size], _, _, H1, rfl, I2, turn_enum a (s1.heap.objs.size + 1) s1.heap.objs.size, ⟨⟨.none, he⟩, hit, Nat.succ_ne_self _⟩, fun b hb => I1.fpOk (hle hb) (I1.hok.fresh (hle hb)), q⟩
  · subst ex
    cases r1 with
    | cons r rr =>
      cases rr
      cases r
      obtain ⟨its, rv, p', hz⟩ := I1.tuple hq
      have la : a < s1.heap.objs.size := p'.lt
      refine call_enumerate_tuple p' fun h' he hit hsz hk => wpAny_pyIter_enum he ?_
      have I2 : Inv X pins σ H1 { s1 with heap := h' } := I1.kept (t' := s1.toks) hk
      exact ⟨s1.heap.objs.size + 1, [s1.heap.objs.size + 1, s1.heap.objs.size], _, _, H1, rfl, I2, turn_enumT a (s1.heap.objs.size + 1) s1.heap.objs.size 0 (Nat.ne_of_gt (Nat.lt_succ_of_lt la)) (Nat.ne_of_gt la), ⟨⟨.none, by simpa using he⟩, hit, Nat.succ_ne_self _⟩, fun b hb => I1.fpOk (hle hb) (I1.hok.fresh (hle hb)), q⟩
  · subst ex
    cases r1 with
    | cons r rr =>
      cases rr
      obtain ⟨t, rfl⟩ := r
      refine call_enumerate_str fun h' he hit hsz hk => wpAny_pyIter_enum he ?_
      have I2 : Inv X pins σ H1 { s1 with heap := h' } := I1.kept (t' := s1.toks) hk
      exact ⟨s1.heap.objs.size + 1, [s1.heap.objs.size + 1, s1.heap.objs.size], _, _, H1, rfl, I2, turn_enumS z t (s1.heap.objs.size + 1) s1.heap.objs.size, ⟨⟨.none, he⟩, hit, Nat.succ_ne_self _⟩, fun b hb => I1.fpOk (hle hb) (I1.hok.fresh (hle hb)), q⟩
end L2
namespace GH
open PySem L2
theorem enumC_L : ∀ (ds : List PyData) (i : Nat), enumC (i : Int) ds = enumL i ds
  | [], _ => rfl
  | d :: ds, i => by
    show PyData.tuple [.int (i : Int), d] :: enumC ((i : Int) + 1) ds = .tuple [.int (i : Int), d] :: enumL (i + 1) ds
    rw [← enumC_L ds (i + 1)]
    rfl
theorem srv_enumS {K : PySem.W.Frag} {z : Str} : Srv K (IteS z) [] (enumL 0 (signsD z)) where
  go := fun i H L S hi => by
    show i < z.cps.size
    rw [enumL_len] at hi
    simpa [signsD] using hi
  yld := fun i H L x H' S y d hd => by
    obtain ⟨T, c, rfl, hT, hc, rfl⟩ := y
    obtain ⟨q, hq, rfl⟩ := enumL_get hd
    have e : q = .str ⟨#[c]⟩ := by
      unfold signsD at hq
      rw [List.getElem?_map] at hq
      have h2 : z.cps.toList[i]? = some c := by simpa using hc
      rw [h2] at hq
      exact (Option.some.inj hq).symm
    subst e
    rw [Nat.zero_add]
    exact SL.pair ((S.flat fun _ => .str _).flat fun _ => .int _) hT
  stop := fun H L S => by
    show _ = z.cps.size
    rw [enumL_len]
    simp [signsD]
def enumA (fa : MA) : MI := fun Γ => (fa Γ).bind fun r => match r.1 with
  | [d] => match fz d with
    | some (.list ds) => some (enumL 0 ds, r.2)
    | some (.tuple ds) => some (enumL 0 ds, r.2)
    | some (.str z) => some (enumL 0 (signsD z), r.2)
    | _ => none
  | _ => none
section
variable {C : Cx} {tg e e2 : Expr} {f : M} {fa : MA} {ls : List (Option Nat)} {p pos tpos : Pos}
theorem ei_enumA {elts : List Expr} {kk : Nat} (hg : Gl C "enumerate") (hm : C.mg "enumerate" = none) (ha : PA C [e] (okA C.K ls fa)) (hs : starEach [e] C.env = [(false, eval e C.env)] := by rfl) :
    PI C (.Tuple elts kk tpos) (.Call (.Name "enumerate" p) [e] [] pos) (okI C.K (enumA fa)) := (pi_enumA hg hm ha hs).gimp fun σ H R ⟨Γ, X, ds, Γ', F, S, e, k⟩ => by
  obtain ⟨⟨d, Γ1⟩, e1, e⟩ := bindS e
  refine ⟨Γ, X, d, Γ1, F, S, e1, fun H1 vs F1 hl _ S1 => ?_⟩
  dsimp only at e
  split at e
  · rename_i dd
    match vs, hl, S1 with
    | [x], _, S1 =>
      have S1 : SL C.K H1 ((dd, x) :: (slots _ σ ++ X)) := S1
      split at e
      · rename_i qs eq
        cases e
        have S2 := S1.frz eq
        obtain ⟨a, xs, rfl, hx, _, _⟩ := S2.itemsL
        exact .inl ⟨a, xs, rfl, hx, k H1 _ _ F1 srv_enum S2⟩
      · rename_i qs eq
        cases e
        have S2 := S1.frz eq
        obtain ⟨a, xs, rfl, hx, _, _⟩ := S2.items
        have sv := srv_enumT (K := C.K) (ds := qs) (a := a) (k := 0)
        rw [show enumC 0 qs = enumL 0 qs from enumC_L qs 0] at sv
        exact .inr (.inl ⟨a, xs, rfl, hx, k H1 _ _ F1 sv S2⟩)
      · rename_i z eq
        cases e
        have S2 := S1.frz eq
        have hz := S2.dp
        cases hz
        exact .inr (.inr ⟨z, rfl, k H1 _ [] F1 srv_enumS S2.drop⟩)
      · cases e
  · cases e
end
end GH
namespace GH
open PySem L2
/-! ### isinstance of data, by a built-in type -/
def tyName : PyData → String
  | .none => "NoneType"
  | .bool _ => "bool"
  | .int _ => "int"
  | .str _ => "str"
  | .list _ => "list"
  | .tuple _ => "tuple"
  | .dict _ => "dict"
def isiD (T : String) (d : D) : Option D := (fz d).bind fun q => (kitB (tyName q) T).map fun b => .p (.bool b)
theorem Dq.tyX {K : PySem.W.Frag} {H : Hp} {v : V} {q : PyData} (h : Dq K H v q) : TyX K H v (.type (tyName q)) := by
  cases h with
  | non => exact .base .non
  | bl b => exact .base (.bl b)
  | int i => exact .base (.int i)
  | str x => exact .base (.str x)
  | lst h _ =>
    rcases h with (h | ⟨o, h⟩) | ⟨o, its, n, h, c, _⟩
    · exact .base (.lst h)
    · exact .base (.frz h)
    · exact .kList h c
  | tup h _ =>
    rcases h with (h | ⟨o, h⟩) | ⟨o, its, n, h, c, _⟩
    · exact .base (.tup h)
    · exact .fTuple h
    · exact .kTuple h c
  | dct h _ =>
    rcases h with h | ⟨o, h⟩
    · exact .base (.dK h)
    · exact .fDict h
section
variable {C : Cx} {e : Expr} {f : M} {p p2 pos : Pos} {x : Str} {i : Nat}
theorem pe_tyName {T : String} (hg : Gl C x) (hm : C.mg x = none) (hv : bootBuiltins x = some (.type T)) (hn : x ≠ "__name__" := by decide) (hdb : (x == ("__debug__" : Str)) = false := by decide) : PE C (.Name x p) (tC (.ty T)) :=
  ⟨fun pins s σ H Q I h => ld_blt I hg hm hv ⟨.ty T, H, I, rfl, h⟩ hn hdb⟩
theorem ee_isi {T : String} (hg : Gl C "isinstance") (hm : C.mg "isinstance" = none) (hg2 : Gl C x) (hm2 : C.mg x = none) (hv : bootBuiltins x = some (.type T)) (h : PE C e (okE C.K f))
    (he : starEach [e, .Name x p2] C.env = (false, eval e C.env) :: starEach [.Name x p2] C.env := by rfl) (he2 : starEach [.Name x p2] C.env = (false, eval (.Name x p2) C.env) :: starEach [] C.env := by rfl) (hpl : (backTo pos (starEach [.Name x p2] C.env)).any (·.1) = false := by rfl) (hn : x ≠ "__name__" := by decide) (hdb : (x == ("__debug__" : Str)) = false := by decide) :
    PE C (.Call (.Name "isinstance" p) [e, .Name x p2] [] pos) (okE C.K (una (isiD T) f)) :=
  (pe_callB (call_isi (X := C)) hg hm (by rfl) (pa_cons h (pa_cons (pe_tyName hg2 hm2 hv hn hdb) pa_nil he2) he) (by decide) (by decide) he hpl).gimp fun σ H Q ⟨Γ, X, d, Γ', F, S, e, k⟩ => by
    obtain ⟨⟨x, Γ1⟩, e1, e⟩ := bindS e
    obtain ⟨d1, e2, e⟩ := mapS e
    cases e
    obtain ⟨q, e3, e4⟩ := bindS e2
    obtain ⟨b, e5, rfl⟩ := mapS e4
    refine ⟨Γ, X, x, Γ1, F, S, e1, fun H1 v F1 S1 => ?_⟩
    have hd := S1.dpz e3
    exact ⟨v, .ty T, .type (tyName q), .type T, b, rfl, .ty T, hd.tyX, kit_ty e5, k _ _ F1 (S1.drop.flat fun _ => .bl _)⟩
/-! ### dicts, as they are written -/
theorem SL.dict {K : PySem.W.Frag} {H : Hp} {L : List (D × V)} {a : Addr} {ks : List (Key × V)} {kvs : List (PyData × PyData)} (h : SL K H L) (hk : ∀ F, DqK K F ks kvs) (hn : H a = none) : SL K (upd H a (.dK ks)) ((.p (.dict kvs), .ref a) :: L) := by
  obtain ⟨F, fp, e1, y, nd, f⟩ := h
  have hF : F a = none := e1.free hn
  have sF : Same F (upd F a (.dK ks)) := same_upd hF
  refine ⟨upd F a (.dK ks), fp, fun b u q => ?_, ?_, nd, fun b hb => ?_⟩
  · by_cases hb : b = a
    · subst hb
      rw [upd_same] at q ⊢
      exact q
    · rw [upd_ne hb] at q ⊢
      exact e1 b u q
  · exact .cons (fp := []) (.p (.dct (.inl upd_same) (hk _))) (y.keep sF fun b hb => by
      obtain ⟨u, hu⟩ := y.there b hb
      rw [upd_ne (ne_of_none hu hn)])
  · obtain ⟨u, hu⟩ := y.there b hb
    rw [upd_ne (ne_of_none hu hn)]
    exact f b hb
theorem ee_dict0 : PE C (.Dict [] [] pos) (okE C.K (ret (.p (.dict [])))) := pe_dnewK.gimp fun σ H Q ⟨Γ, X, d, Γ', F, S, e, k⟩ => by
  cases e
  exact fun p hp => k _ _ F (S.dict (fun _ => .nil) hp)
theorem ee_dict1 {y : Str} {n : Int} {j1 j2 : Nat} {p1 p2 : Pos} : PE C (.Dict [some (.Constant (.str y) j1 p1)] [.Constant (.int n) j2 p2] pos) (okE C.K (ret (.p (.dict [(.str y, .int n)])))) :=
  (pe_disp (pps_cons pe_str pe_int pps_nil) rfl rfl (by simp) (by simp)).gimp fun σ H Q ⟨Γ, X, d, Γ', F, S, e, k⟩ => by
    cases e
    intro p hp
    refine ⟨upd_same, [(.inr y, .int n)], rfl, by simp, ?_⟩
    rw [upd_upd]
    exact k _ _ F (S.dict (fun _ => .cons (.int n) .nil) hp)
end
theorem units65 {k : Nat} {A : Around} (r : Room k A) : A.units + 65 < cLine := by
  have := r.un
  omega
/-! ### x in t -/
def deepIn (a b : PyData) (ds : List PyData) : Option Bool := if (SeqAt.shaped a && SeqAt.shaped b) = true then some (ds.any fun z => PyData.eqv z a) else none
def inQ : PyData → PyData → Option Bool
  | .str ⟨⟨[c]⟩⟩, .str t => some (decide (c ∈ t.cps.toList))
  | .str s, .list ds => match allStrs ds with
    | some ys => some (ys.any (· == s))
    | none => deepIn (.str s) (.list ds) ds
  | .str s, .tuple ds => match allStrs ds with
    | some ys => some (ys.any (· == s))
    | none => deepIn (.str s) (.tuple ds) ds
  | a, .list ds => deepIn a (.list ds) ds
  | a, .tuple ds => deepIn a (.tuple ds) ds
  | _, _ => none
def inD (x y : D) : Option D := (fz x).bind fun a => (fz y).bind fun b => (inQ a b).map fun r => .p (.bool r)
def notinD (x y : D) : Option D := (fz x).bind fun a => (fz y).bind fun b => (inQ a b).map fun r => .p (.bool (!r))
theorem inV_strs (x : Str) : ∀ ys : List Str, inV (.str x) (ys.map V.str) = ys.any (· == x)
  | [] => rfl
  | y :: ys => by
    have ih := inV_strs x ys
    unfold inV at ih ⊢
    rw [List.map_cons, List.any_cons, List.any_cons, ih]
    rfl
theorem flat_strs : ∀ ys : List Str, (ys.map V.str).all flatV = true
  | [] => rfl
  | y :: ys => by
    rw [List.map_cons, List.all_cons, flat_strs ys]
    rfl
section
variable {C : Cx}
theorem op_inQ (hu : C.A.units + 65 < cLine) : OpR C (compareOp .In) (fun x y H Q => ∃ d c ds, Dq C.K H x d ∧ Dq C.K H y c ∧ (c = .list ds ∨ c = .tuple ds) ∧ SeqAt.shaped d = true ∧ SeqAt.shaped c = true ∧ Q (.bl (ds.any fun z => PyData.eqv z d)) H) := by
  intro pins s σ H x y v u Q I rx ry h
  obtain ⟨d, c, ds, hd, hc, hk, sd, sc, q⟩ := h
  obtain ⟨as, r1⟩ := Dq.reads I hd rx
  obtain ⟨bs, r2⟩ := Dq.reads I hc ry
  rcases hk with rfl | rfl
  · exact SeqAt.in_list_reads r2.to r1.to (SeqAt.canLay_of_shaped sc) (SeqAt.canLay_of_shaped sd) (by have h64 := SeqAt.depth_of_shaped sd; omega) ⟨.bl _, H, I, rfl, q⟩
  · exact SeqAt.in_tuple_reads r2.to r1.to (SeqAt.canLay_of_shaped sc) (SeqAt.canLay_of_shaped sd) (by have h64 := SeqAt.depth_of_shaped sd; omega) ⟨.bl _, H, I, rfl, q⟩
theorem op_notinQ (hu : C.A.units + 65 < cLine) : OpR C (compareOp .NotIn) (fun x y H Q => ∃ d c ds, Dq C.K H x d ∧ Dq C.K H y c ∧ (c = .list ds ∨ c = .tuple ds) ∧ SeqAt.shaped d = true ∧ SeqAt.shaped c = true ∧ Q (.bl (!ds.any fun z => PyData.eqv z d)) H) := by
  intro pins s σ H x y v u Q I rx ry h
  obtain ⟨d, c, ds, hd, hc, hk, sd, sc, q⟩ := h
  obtain ⟨as, r1⟩ := Dq.reads I hd rx
  obtain ⟨bs, r2⟩ := Dq.reads I hc ry
  rcases hk with rfl | rfl
  · exact SeqAt.notIn_list_reads r2.to r1.to (SeqAt.canLay_of_shaped sc) (SeqAt.canLay_of_shaped sd) (by have h64 := SeqAt.depth_of_shaped sd; omega) ⟨.bl _, H, I, rfl, q⟩
  · exact SeqAt.notIn_tuple_reads r2.to r1.to (SeqAt.canLay_of_shaped sc) (SeqAt.canLay_of_shaped sd) (by have h64 := SeqAt.depth_of_shaped sd; omega) ⟨.bl _, H, I, rfl, q⟩
/-- how inQ tells -/
theorem inQ_way {K : PySem.W.Frag} {H : Hp} {x y : V} {a b : PyData} {r : Bool} (e : inQ a b = some r) (hx : Dq K H x a) (hy : Dq K H y b) :
    (∃ c t, x = .str ⟨#[c]⟩ ∧ y = .str t ∧ r = decide (c ∈ t.cps.toList)) ∨
    (∃ p xs, y = .ref p ∧ (SqL K H p xs ∨ SqT K H p xs) ∧ flatV x = true ∧ xs.all flatV = true ∧ r = inV x xs) ∨
    (∃ ds, (b = .list ds ∨ b = .tuple ds) ∧ SeqAt.shaped a = true ∧ SeqAt.shaped b = true ∧ r = ds.any fun z => PyData.eqv z a) := by
  have deep : ∀ ds, (b = .list ds ∨ b = .tuple ds) → deepIn a b ds = some r → ∃ ds, (b = .list ds ∨ b = .tuple ds) ∧ SeqAt.shaped a = true ∧ SeqAt.shaped b = true ∧ r = ds.any fun z => PyData.eqv z a := fun ds hb e => by
    unfold deepIn at e
    split at e
    · rename_i h
      rw [Bool.and_eq_true] at h
      cases e
      exact ⟨ds, hb, h.1, h.2, rfl⟩
    · cases e
  unfold inQ at e
  split at e
  · cases e
    cases hx
    cases hy
    exact .inl ⟨_, _, rfl, rfl, rfl⟩
  · split at e
    · rename_i ys e1
      cases e
      cases hx
      cases hy with
      | @lst p vs _ hq ha =>
        have := allStrs_dp e1 ha
        subst this
        exact .inr (.inl ⟨p, _, rfl, .inl hq, rfl, flat_strs ys, (inV_strs _ ys).symm⟩)
    · exact .inr (.inr (deep _ (.inl rfl) e))
  · split at e
    · rename_i ys e1
      cases e
      cases hx
      cases hy with
      | @tup p vs _ hq ha =>
        have := allStrs_dp e1 ha
        subst this
        exact .inr (.inl ⟨p, _, rfl, .inr hq, rfl, flat_strs ys, (inV_strs _ ys).symm⟩)
    · exact .inr (.inr (deep _ (.inr rfl) e))
  · exact .inr (.inr (deep _ (.inl rfl) e))
  · exact .inr (.inr (deep _ (.inr rfl) e))
  · cases e
theorem o_in (hu : C.A.units + 65 < cLine) : OpR C (compareOp .In) (okO C.K inD) := (op_in_sign.galt (op_in_seq.galt (op_inQ hu))).gimp fun x y H Q ⟨L, dx, dy, d, S, e, k⟩ => by
  obtain ⟨a, ea, e⟩ := bindS e
  obtain ⟨b, eb, e⟩ := bindS e
  obtain ⟨r, er, rfl⟩ := mapS e
  have ha := S.drop.dpz ea
  have hb := S.dpz eb
  have h' := k _ _ (S.drop.drop.flat fun _ => .bl r)
  rcases inQ_way er ha hb with ⟨c, t, rfl, rfl, rfl⟩ | ⟨p, xs, h1, h2, h3, h4, rfl⟩ | ⟨ds, h1, h2, h3, rfl⟩
  · exact .inl ⟨c, t, rfl, rfl, h'⟩
  · exact .inr (.inl ⟨p, xs, h1, h2, h3, h4, h'⟩)
  · exact .inr (.inr ⟨a, b, ds, ha, hb, h1, h2, h3, h'⟩)
theorem o_notin (hu : C.A.units + 65 < cLine) : OpR C (compareOp .NotIn) (okO C.K notinD) := (op_notIn_sign.galt (op_notIn_seq.galt (op_notinQ hu))).gimp fun x y H Q ⟨L, dx, dy, d, S, e, k⟩ => by
  obtain ⟨a, ea, e⟩ := bindS e
  obtain ⟨b, eb, e⟩ := bindS e
  obtain ⟨r, er, rfl⟩ := mapS e
  have ha := S.drop.dpz ea
  have hb := S.dpz eb
  have h' := k _ _ (S.drop.drop.flat fun _ => .bl (!r))
  rcases inQ_way er ha hb with ⟨c, t, rfl, rfl, rfl⟩ | ⟨p, xs, h1, h2, h3, h4, rfl⟩ | ⟨ds, h1, h2, h3, rfl⟩
  · exact .inl ⟨c, t, rfl, rfl, h'⟩
  · exact .inr (.inl ⟨p, xs, h1, h2, h3, h4, h'⟩)
  · exact .inr (.inr ⟨a, b, ds, ha, hb, h1, h2, h3, h'⟩)
end
/-! ### constants of a module -/
def GlobK (K : PySem.W.Frag) (mg : Str → Option Value) (x : Str) (q : PyData) : Prop := ∃ (u : Value) (v : V), mg x = some u ∧ RelV v u ∧ ∀ H, Dq K H v q
theorem ee_globK {C : Cx} {x : Str} {q : PyData} {pos : Pos} (h : GlobK C.K C.mg x q) (hg : Gl C x) (hd : (x == ("__debug__" : Str)) = false := by decide) : PE C (.Name x pos) (okE C.K (ret (.p q))) := by
  obtain ⟨u, v, h1, h2, h3⟩ := h
  exact ee_glob hg h1 h2 h3 hd
theorem GlobK.int {K : PySem.W.Frag} {mg : Str → Option Value} {x : Str} {i : Int} {t : Tok} (h : mg x = some (.int i t)) : GlobK K mg x (.int i) := ⟨_, .int i, h, ⟨t, rfl⟩, fun _ => .int i⟩
theorem GlobK.str {K : PySem.W.Frag} {mg : Str → Option Value} {x z : Str} {t : Tok} (h : mg x = some (.str z t)) : GlobK K mg x (.str z) := ⟨_, .str z, h, ⟨t, rfl⟩, fun _ => .str z⟩
theorem GlobK.tup {K : PySem.W.Frag} {mg : Str → Option Value} {x : Str} {a : Addr} {dd : Option Addr} {its : Array Value} {n : Nat} {sl : Array (Option Value)} {xs : List V} {ds : List PyData} (h : mg x = some (.ref a))
    (hl : K.lookup a = some ⟨.type "tuple", dd, .seq its n, sl⟩) (hz : its.size ≤ sizeLine) (hv : Vals xs its.toList) (hd : ∀ H, DqAll K H xs ds) : GlobK K mg x (.tuple ds) :=
  ⟨.ref a, .ref a, h, rfl, fun H => .tup (.inr ⟨_, its, n, hl, rfl, rfl, hz, hv⟩) (hd H)⟩
/-! what is made is frozen -/
def frzM (f : M) : M := fun Γ => (f Γ).bind fun r => (fz r.1).map fun q => (.p q, r.2)
theorem ee_frz {C : Cx} {e : Expr} {f : M} (h : PE C e (okE C.K f)) : PE C e (okE C.K (frzM f)) := h.gimp fun σ H Q ⟨Γ, X, d, Γ', F, S, e, k⟩ => by
  obtain ⟨⟨x, Γ1⟩, e1, e⟩ := bindS e
  obtain ⟨q, e2, e⟩ := mapS e
  cases e
  exact ⟨Γ, X, x, Γ1, F, S, e1, fun H1 v F1 S1 => k H1 v F1 (S1.frz e2)⟩
end GH
namespace GH
open PySem L2
/-! ### what a semantic function answers, step by step -/
abbrev KD := D → Nv → Prop
def wE (f : M) (Γ : Nv) (Q : KD) : Prop := ∃ d Γ', f Γ = some (d, Γ') ∧ Q d Γ'
def wT (f : MT) (Γ : Nv) (Q : Bool → Nv → Prop) : Prop := ∃ b Γ', f Γ = some (b, Γ') ∧ Q b Γ'
def wA (f : MA) (Γ : Nv) (Q : List D → Nv → Prop) : Prop := ∃ ds Γ', f Γ = some (ds, Γ') ∧ Q ds Γ'
def wI (f : MI) (Γ : Nv) (Q : List PyData → Nv → Prop) : Prop := ∃ ds Γ', f Γ = some (ds, Γ') ∧ Q ds Γ'
def wP (f : MP) (Γ : Nv) (Q : Option Int → Nv → Prop) : Prop := ∃ o Γ', f Γ = some (o, Γ') ∧ Q o Γ'
def wO {α : Type} (o : Option α) (Q : α → Prop) : Prop := ∃ d, o = some d ∧ Q d
def wG (t : MG) (d : D) (Γ : Nv) (Q : Nv → Prop) : Prop := ∃ Γ', t d Γ = some Γ' ∧ Q Γ'
def wGs (t : List PyData → Nv → Option Nv) (ds : List PyData) (Γ : Nv) (Q : Nv → Prop) : Prop := ∃ Γ', t ds Γ = some Γ' ∧ Q Γ'
def wEnd (N : Nv → Prop) (R : KD) (B C : Nv → Prop) : Out → Prop
  | .nx Γ => N Γ | .rt d Γ => R d Γ | .bk Γ => B Γ | .ct Γ => C Γ
def wS (g : MS) (Γ : Nv) (N : Nv → Prop) (R : KD) (B C : Nv → Prop) : Prop := ∃ out, g Γ = some out ∧ wEnd N R B C out
def wL (t : MG) (b : MS) (ds : List PyData) (Γ : Nv) (N : Nv → Prop) (R : KD) : Prop := ∃ out, loopF t b ds Γ = some out ∧ wEnd N R (fun _ => False) (fun _ => False) out
def wW (c : MT) (b : MS) (n : Nat) (Γ : Nv) (N : Nv → Prop) (R : KD) : Prop := ∃ out, whileF c b n Γ = some out ∧ wEnd N R (fun _ => False) (fun _ => False) out
def wC (own : List Nat) (t : MG) (c : MT) (e : M) (ds : List PyData) (Γ : Nv) (acc : List D) (Q : List D → Nv → Prop) : Prop := ∃ xs Γ', lcF own t c e ds Γ acc = some (xs, Γ') ∧ Q xs Γ'
def wF (sem : Fn) (ds : List D) (Q : D → List (Option D) → Prop) : Prop := ∃ d outs, sem ds = some (d, outs) ∧ Q d outs
/-- slots to be written out -/
def wN (Γ : Nv) (Q : Nv → Prop) : Prop := Q Γ
def wB (b : Bool) (p q : Prop) : Prop := (b = true → p) ∧ (b = false → q)
def wD (d : D) (Q : Bool → Prop) : Prop := ∃ b, d = .p (.bool b) ∧ Q b
variable {Γ Γ1 Γ2 : Nv} {Q : KD} {QT : Bool → Nv → Prop} {QA : List D → Nv → Prop} {QI : List PyData → Nv → Prop} {QG : Nv → Prop} {QP : Option Int → Nv → Prop} {QF : D → List (Option D) → Prop} {QD : D → Prop}
  {N B C : Nv → Prop} {R : KD} {f g : M} {ft gt : MT} {fa fk : MA} {fi : MI} {fp fq : MP} {t : MG} {b c : MS} {o : D → D → Option D} {u : D → Option D} {i j : Nat} {d e : D} {q : PyData} {p1 p2 : Prop} {bb : Bool}
theorem w_nrm (h : Γ = Γ2) (k : QG Γ2) : wN Γ QG := h ▸ k
theorem w_of {α : Type} {x : Option α} {d : α} {Q : α → Prop} (h : x = some d) (k : Q d) : wO x Q := ⟨d, h, k⟩
theorem w_ret (k : Q d Γ) : wE (ret d) Γ Q := ⟨_, _, rfl, k⟩
theorem w_rd (h : Γ[i]? = some (some (.p q))) (k : Q (.p q) Γ) : wE (rdM i) Γ Q := ⟨_, _, by unfold rdM; rw [h], k⟩
theorem fz_l {xs : List D} {qs : List PyData} (h : fzs xs = some qs) : fz (.l xs) = some (.list qs) := by show (fzs xs).map _ = _; rw [h]; rfl
theorem fzs_map (qs : List PyData) : fzs (qs.map .p) = some qs := by
  induction qs with
  | nil => rfl
  | cons q qs ih => show (fz (.p q)).bind (fun x => (fzs (qs.map .p)).map (x :: ·)) = _; rw [ih]; rfl
theorem w_rdl {xs : List D} (h : Γ[i]? = some (some (.l xs))) (hz : fz (.l xs) = some q) (k : wN (Γ.set i (some (.p q))) fun Γ' => Q (.p q) Γ') : wE (rdM i) Γ Q := ⟨.p q, Γ.set i (some (.p q)), by unfold rdM; rw [h]; dsimp only; rw [hz]; rfl, k⟩
theorem w_mv (h : Γ[i]? = some (some (.p q))) (k : Q (.p q) Γ) : wE (mvM i) Γ Q := ⟨_, _, by unfold mvM; rw [h], k⟩
theorem w_mvl {xs : List D} (h : Γ[i]? = some (some (.l xs))) (k : wN (Γ.set i none) fun Γ' => Q (.l xs) Γ') : wE (mvM i) Γ Q := ⟨.l xs, Γ.set i none, by unfold mvM; rw [h], k⟩
theorem w_bin (k : wE f Γ fun x Γ1 => wE g Γ1 fun y Γ2 => wO (o x y) fun d => Q d Γ2) : wE (bin o f g) Γ Q := by
  obtain ⟨x, Γ1, e1, y, Γ2, e2, z, e3, k⟩ := k
  exact ⟨z, Γ2, by unfold bin; rw [e1]; show (g Γ1).bind _ = _; rw [e2]; show (o x y).map _ = _; rw [e3]; rfl, k⟩
theorem w_una (k : wE f Γ fun x Γ1 => wO (u x) fun d => Q d Γ1) : wE (una u f) Γ Q := by
  obtain ⟨x, Γ1, e1, z, e3, k⟩ := k
  exact ⟨z, Γ1, by unfold una; rw [e1]; show (u x).map _ = _; rw [e3]; rfl, k⟩
theorem w_app {o : List D → Option D} (k : wA fa Γ fun x Γ1 => wO (o x) fun d => Q d Γ1) : wE (appD o fa) Γ Q := by
  obtain ⟨x, Γ1, e1, z, e3, k⟩ := k
  exact ⟨z, Γ1, by unfold appD; rw [e1]; show (o x).map _ = _; rw [e3]; rfl, k⟩
theorem w_argN (k : QA [] Γ) : wA argN Γ QA := ⟨_, _, rfl, k⟩
theorem w_argC (k : wE f Γ fun x Γ1 => wA fa Γ1 fun xs Γ2 => QA (x :: xs) Γ2) : wA (argC f fa) Γ QA := by
  obtain ⟨x, Γ1, e1, y, Γ2, e2, k⟩ := k
  exact ⟨_, _, by unfold argC; rw [e1]; show (fa Γ1).bind _ = _; rw [e2]; rfl, k⟩
theorem w_argL (h : (Γ[i]?).isSome = true ∧ ((Γ[i]?).getD none).isSome = true) (k : wA fa Γ fun xs Γ1 => wE (mvM i) Γ1 fun x Γ2 => QA (x :: xs) Γ2) : wA (argL i fa) Γ QA := by
  obtain ⟨y, Γ2, e2, x, Γ1, e1, k⟩ := k
  refine ⟨_, _, ?_, k⟩
  unfold argL
  obtain ⟨d0, h0⟩ : ∃ d0, Γ[i]? = some (some d0) := by
    cases e : Γ[i]? with
    | none => rw [e] at h; exact absurd h.1 (by simp)
    | some z => cases z with
      | none => rw [e] at h; exact absurd h.2 (by simp)
      | some d0 => exact ⟨d0, rfl⟩
  rw [h0]
  show (fa Γ).bind _ = _
  rw [e2]
  show (mvM i Γ2).map _ = _
  rw [e1]
  rfl
theorem w_ifM (k : wT ft Γ fun x Γ1 => wB x (wE f Γ1 Q) (wE g Γ1 Q)) : wE (ifM ft f g) Γ Q := by
  obtain ⟨x, Γ1, e1, k1, k2⟩ := k
  cases x with
  | true => obtain ⟨y, Γ2, e2, k⟩ := k1 rfl; exact ⟨_, _, by unfold ifM; rw [e1]; exact e2, k⟩
  | false => obtain ⟨y, Γ2, e2, k⟩ := k2 rfl; exact ⟨_, _, by unfold ifM; rw [e1]; exact e2, k⟩
theorem w_isT (k : wE f Γ fun x Γ1 => wD x fun b => QT b Γ1) : wT (isT f) Γ QT := by
  obtain ⟨_, Γ1, e1, b, rfl, k⟩ := k
  exact ⟨_, _, by unfold isT; rw [e1], k⟩
theorem w_db {Q : Bool → Prop} (k : Q bb) : wD (.p (.bool bb)) Q := ⟨_, rfl, k⟩
theorem w_yes (k : QT true Γ) : wT yesT Γ QT := ⟨_, _, rfl, k⟩
theorem w_and (k : wT ft Γ fun x Γ1 => wB x (wT gt Γ1 QT) (QT false Γ1)) : wT (andT ft gt) Γ QT := by
  obtain ⟨x, Γ1, e1, k1, k2⟩ := k
  cases x with
  | true => obtain ⟨y, Γ2, e2, k⟩ := k1 rfl; exact ⟨_, _, by unfold andT; rw [e1]; exact e2, k⟩
  | false => exact ⟨_, _, by unfold andT; rw [e1]; rfl, k2 rfl⟩
theorem w_or (k : wT ft Γ fun x Γ1 => wB x (QT true Γ1) (wT gt Γ1 QT)) : wT (orT ft gt) Γ QT := by
  obtain ⟨x, Γ1, e1, k1, k2⟩ := k
  cases x with
  | false => obtain ⟨y, Γ2, e2, k⟩ := k2 rfl; exact ⟨_, _, by unfold orT; rw [e1]; exact e2, k⟩
  | true => exact ⟨_, _, by unfold orT; rw [e1]; rfl, k1 rfl⟩
theorem w_not (k : wT ft Γ fun x Γ1 => QT (!x) Γ1) : wT (notT ft) Γ QT := by
  obtain ⟨x, Γ1, e1, k⟩ := k
  exact ⟨_, _, by unfold notT; rw [e1]; rfl, k⟩
theorem w_rdO (h : (Γ[i]?).isSome = true ∧ ((Γ[i]?).getD none).isSome = true) (k : wE g Γ fun y Γ1 => ∃ x, Γ1[i]? = some (some x) ∧ wO (o x y) fun d => Q d Γ1) : wE (rdO o i g) Γ Q := by
  obtain ⟨y, Γ1, e1, x, e2, z, e3, k⟩ := k
  obtain ⟨d0, h0⟩ : ∃ d0, Γ[i]? = some (some d0) := by
    cases e : Γ[i]? with
    | none => rw [e] at h; exact absurd h.1 (by simp)
    | some z => cases z with
      | none => rw [e] at h; exact absurd h.2 (by simp)
      | some d0 => exact ⟨d0, rfl⟩
  refine ⟨z, Γ1, ?_, k⟩
  unfold rdO
  rw [h0]
  show (g Γ).bind _ = _
  rw [e1]
  show (match Γ1[i]? with | some (some x) => (o x y).map fun d => (d, Γ1) | _ => none) = _
  rw [e2]
  show (o x y).map _ = _
  rw [e3]; rfl
theorem w_slot {x : D} {p : D → Prop} (h : Γ[i]? = some (some x)) (k : p x) : ∃ x, Γ[i]? = some (some x) ∧ p x := ⟨x, h, k⟩
theorem w_rdU {x : D} (h : Γ[i]? = some (some x)) (k : wO (u x) fun d => Q d Γ) : wE (rdU u i) Γ Q := by
  obtain ⟨z, e, k⟩ := k
  exact ⟨z, Γ, by unfold rdU; rw [h]; show (u x).map _ = _; rw [e]; rfl, k⟩
theorem w_call {sem : Fn} {ls : List (Option Nat)} (k : wA fa Γ fun ds Γ1 => wF sem ds fun d outs => wN (rst ls outs Γ1) fun Γ2 => Q d Γ2) : wE (callM sem ls fa) Γ Q := by
  obtain ⟨ds, Γ1, e1, d, outs, e2, k⟩ := k
  exact ⟨_, _, by unfold callM; rw [e1]; show (sem ds).bind _ = _; rw [e2]; rfl, k⟩
theorem w_callK {sem : Fn} {n m : Nat} {pi : List Nat} (k : wA fa Γ fun ds Γ1 => wA fk Γ1 fun es Γ2 => (ds.length = n ∧ es.length = m) ∧ wF sem (pi.map fun i => (ds ++ es).getD i (.p .none)) fun d _ => Q d Γ2) : wE (callK sem n m pi fa fk) Γ Q := by
  obtain ⟨ds, Γ1, e1, es, Γ2, e2, h, d, outs, e3, k⟩ := k
  exact ⟨_, _, by unfold callK; rw [e1]; show (fk Γ1).bind _ = _; rw [e2]; show (if _ then _ else _) = _; rw [if_pos h, e3]; rfl, k⟩
theorem w_sliceM (k : wE f Γ fun x Γ1 => wP fp Γ1 fun l Γ2 => wP fq Γ2 fun h Γ3 => wO (cutD x l h) fun d => Q d Γ3) : wE (sliceM f fp fq) Γ Q := by
  obtain ⟨x, Γ1, e1, l, Γ2, e2, h, Γ3, e3, d, e4, k⟩ := k
  exact ⟨d, Γ3, by unfold sliceM; rw [e1]; show (fp Γ1).bind _ = _; rw [e2]; show (fq Γ2).bind _ = _; rw [e3]; show (cutD x l h).map _ = _; rw [e4]; rfl, k⟩
theorem w_sliceN (h : (Γ[i]?).isSome = true ∧ ((Γ[i]?).getD none).isSome = true) (k : wP fp Γ fun l Γ2 => wP fq Γ2 fun h Γ3 => ∃ x, Γ3[i]? = some (some x) ∧ wO (cutD x l h) fun d => Q d Γ3) : wE (sliceN i fp fq) Γ Q := by
  obtain ⟨l, Γ2, e2, hh, Γ3, e3, x, ex, d, e4, k⟩ := k
  obtain ⟨d0, h0⟩ : ∃ d0, Γ[i]? = some (some d0) := by
    cases e : Γ[i]? with
    | none => rw [e] at h; exact absurd h.1 (by simp)
    | some z => cases z with
      | none => rw [e] at h; exact absurd h.2 (by simp)
      | some d0 => exact ⟨d0, rfl⟩
  refine ⟨d, Γ3, ?_, k⟩
  unfold sliceN; rw [h0]; show (fp Γ).bind _ = _; rw [e2]; show (fq Γ2).bind _ = _; rw [e3]; show (match Γ3[i]? with | some (some x) => (cutD x l hh).map fun d => (d, Γ3) | _ => none) = _; rw [ex]; show (cutD x l hh).map _ = _; rw [e4]; rfl
theorem w_noP (k : QP none Γ) : wP noP Γ QP := ⟨_, _, rfl, k⟩
theorem w_someP (k : wE f Γ fun x Γ1 => ∃ n, x = .p (.int n) ∧ QP (some n) Γ1) : wP (someP f) Γ QP := by
  obtain ⟨_, Γ1, e1, n, rfl, k⟩ := k
  exact ⟨_, _, by unfold someP; rw [e1]; rfl, k⟩
theorem w_int {n : Int} {p : Int → Prop} (k : p n) : ∃ m, D.p (.int n) = .p (.int m) ∧ p m := ⟨n, rfl, k⟩
theorem w_mutN {m : D → List D → Option (D × D)} {xs : List D} (h : Γ[i]? = some (some (.l xs))) (k : wA fa Γ fun ds Γ1 => ∃ x, Γ1[i]? = some (some x) ∧ wO (m x ds) fun r => wN (Γ1.set i (some r.2)) fun Γ2 => Q r.1 Γ2) : wE (mutN m i fa) Γ Q := by
  obtain ⟨ds, Γ1, e1, x, ex, r, e2, k⟩ := k
  refine ⟨r.1, Γ1.set i (some r.2), ?_, k⟩
  unfold mutN; rw [h]; show (fa Γ).bind _ = _; rw [e1]; show (match Γ1[i]? with | some (some d) => (m d ds).bind fun s => some (s.1, Γ1.set i (some s.2)) | _ => none) = _; rw [ex]; show (m x ds).bind _ = _; rw [e2]; rfl
theorem w_mutP {m : D → List D → Option (D × D)} {c : Nat} {xs ys : List D} (h : Γ[i]? = some (some (.l xs))) (hc : xs[c]? = some (.l ys)) (k : wN (Γ.set i none) fun Γ0 => wA fa Γ0 fun ds Γ1 => Γ1[i]? = some none ∧ wO (m (.l ys) ds) fun r => wN (Γ1.set i (some (.l (xs.set c r.2)))) fun Γ2 => Q r.1 Γ2) : wE (mutP m i c fa) Γ Q := by
  obtain ⟨ds, Γ1, e1, ex, r, e2, k⟩ := k
  refine ⟨r.1, Γ1.set i (some (.l (xs.set c r.2))), ?_, k⟩
  unfold mutP; rw [h]; dsimp only; rw [hc]; show (fa (Γ.set i none)).bind _ = _; rw [e1]; show (match Γ1[i]? with | some none => (m (.l ys) ds).bind fun s => some (s.1, Γ1.set i (some (.l (xs.set c s.2)))) | _ => none) = _; rw [ex]; show (m (.l ys) ds).bind _ = _; rw [e2]; rfl
theorem w_rdP {c : Nat} {xs : List D} {y : D} (h : Γ[i]? = some (some (.l xs))) (hc : xs[c]? = some y) (k : wN (Γ.set i none) fun Γ0 => wE g Γ0 fun z Γ1 => Γ1[i]? = some none ∧ wO (o y z) fun r => wN (Γ1.set i (some (.l xs))) fun Γ2 => Q r Γ2) : wE (rdP o i c g) Γ Q := by
  obtain ⟨ds, Γ1, e1, ex, r, e2, k⟩ := k
  refine ⟨r, Γ1.set i (some (.l xs)), ?_, k⟩
  unfold rdP; rw [h]; dsimp only; rw [hc]; show (g (Γ.set i none)).bind _ = _; rw [e1]; show (match Γ1[i]? with | some none => (o y ds).bind fun d => some (d, Γ1.set i (some (.l xs))) | _ => none) = _; rw [ex]; show (o y ds).bind _ = _; rw [e2]; rfl
theorem w_lc {own : List Nat} {ft : MT} (k : wI fi Γ fun ds Γ1 => ds.length ≤ 1000000 ∧ wN (wipeG Γ1 own) fun Γ2 => wC own t ft f ds Γ2 [] fun xs Γ3 => Q (.l xs) Γ3) : wE (lcM own fi t ft f) Γ Q := by
  obtain ⟨ds, Γ1, e1, hl, xs, Γ3, e2, k⟩ := k
  exact ⟨_, _, by unfold lcM; rw [e1]; show (if _ then _ else _) = _; rw [if_pos hl]; show (lcF _ _ _ _ _ _ _).map _ = _; rw [e2]; rfl, k⟩
theorem w_andM (k : wE f Γ fun x Γ1 => wD x fun b => wB b (wE g Γ1 Q) (Q (.p (.bool false)) Γ1)) : wE (andM f g) Γ Q := by
  obtain ⟨_, Γ1, e1, x, rfl, k1, k2⟩ := k
  cases x with
  | true => obtain ⟨y, Γ2, e2, k⟩ := k1 rfl; exact ⟨_, _, by unfold andM; rw [e1]; exact e2, k⟩
  | false => exact ⟨_, _, by unfold andM; rw [e1]; rfl, k2 rfl⟩
theorem w_orM (k : wE f Γ fun x Γ1 => wD x fun b => wB b (Q (.p (.bool true)) Γ1) (wE g Γ1 Q)) : wE (orM f g) Γ Q := by
  obtain ⟨_, Γ1, e1, x, rfl, k1, k2⟩ := k
  cases x with
  | false => obtain ⟨y, Γ2, e2, k⟩ := k2 rfl; exact ⟨_, _, by unfold orM; rw [e1]; exact e2, k⟩
  | true => exact ⟨_, _, by unfold orM; rw [e1]; rfl, k1 rfl⟩
theorem w_chain {o' : D → D → Option D} {h : M} (k : wE f Γ fun x Γ1 => wE g Γ1 fun y Γ2 => ∃ q, fz x = some q ∧ ∃ q', fz y = some q' ∧ wO (o (.p q) (.p q')) fun c => wD c fun b => wB b (wE h Γ2 fun z Γ3 => wO (o' (.p q') z) fun d => Q d Γ3) (Q (.p (.bool false)) Γ2)) : wE (chainM o o' f g h) Γ Q := by
  obtain ⟨x, Γ1, e1, y, Γ2, e2, q, e3, q', e4, c, e5, b, rfl, k1, k2⟩ := k
  cases b with
  | true =>
    obtain ⟨z, Γ3, e6, d, e7, k⟩ := k1 rfl
    exact ⟨_, _, by unfold chainM; rw [e1]; show (g Γ1).bind _ = _; rw [e2]; dsimp only [Option.bind]; rw [e3, e4]; dsimp only; rw [e5]; dsimp only; rw [e6]; dsimp only; rw [e7]; rfl, k⟩
  | false => exact ⟨_, _, by unfold chainM; rw [e1]; show (g Γ1).bind _ = _; rw [e2]; dsimp only [Option.bind]; rw [e3, e4]; dsimp only; rw [e5], k2 rfl⟩
theorem w_chq {x y : PyData} {p : PyData → PyData → Prop} (k : p x y) : ∃ q, fz (.p x) = some q ∧ ∃ q', fz (.p y) = some q' ∧ p q q' := ⟨x, rfl, y, rfl, k⟩
/-! targets -/
theorem w_gnm (h : i < Γ.length) (k : wN (Γ.set i (some d)) QG) : wG (gnm i) d Γ QG := ⟨_, if_pos h, k⟩
theorem w_gtup {n : Nat} {u : List PyData → Nv → Option Nv} {qs : List PyData} (h : fz d = some (.tuple qs)) (hn : qs.length = n) (k : wGs u qs Γ QG) : wG (gtup n u) d Γ QG := by
  obtain ⟨Γ', e, k⟩ := k
  exact ⟨Γ', by unfold gtup; rw [h]; show (if _ then _ else _) = _; rw [if_pos hn]; exact e, k⟩
theorem w_gnil (k : QG Γ) : wGs gnil [] Γ QG := ⟨_, rfl, k⟩
theorem w_gcons {u : List PyData → Nv → Option Nv} {qs : List PyData} (k : wG t (.p q) Γ fun Γ1 => wGs u qs Γ1 QG) : wGs (gcons t u) (q :: qs) Γ QG := by
  obtain ⟨Γ1, e1, Γ2, e2, k⟩ := k
  exact ⟨_, by show (t (.p q) Γ).bind _ = _; rw [e1]; exact e2, k⟩
theorem w_gset {xs : List D} (h : Γ[i]? = some (some (.l xs))) (k : wE g Γ fun y Γ1 => ∃ n, y = .p (.int n) ∧ ∃ x, Γ1[i]? = some (some x) ∧ ∃ ys, x = .l ys ∧ wO (ixN ys.length n) fun j => wN (Γ1.set i (some (.l (ys.set j d)))) QG) : wG (gset i g) d Γ QG := by
  obtain ⟨_, Γ1, e1, n, rfl, _, ex, ys, rfl, j, e2, k⟩ := k
  refine ⟨_, ?_, k⟩
  unfold gset; rw [h]; show (g Γ).bind _ = _; rw [e1]; show (match Γ1[i]?, D.p (.int n) with | some (some (.l xs)), .p (.int k) => (ixN xs.length k).map fun j => Γ1.set i (some (.l (xs.set j d))) | _, _ => none) = _; rw [ex]; show (ixN ys.length n).map _ = _; rw [e2]; rfl
theorem w_lst {ys : List D} {p : List D → Prop} (k : p ys) : ∃ zs, D.l ys = .l zs ∧ p zs := ⟨ys, rfl, k⟩
/-! statements -/
theorem w_asg (k : wE f Γ fun x Γ1 => wG t x Γ1 N) : wS (asgS f t) Γ N R B C := by
  obtain ⟨x, Γ1, e1, Γ2, e2, k⟩ := k
  exact ⟨.nx Γ2, by unfold asgS; rw [e1]; show (t x Γ1).map _ = _; rw [e2]; rfl, k⟩
theorem w_par (k : wA fa Γ fun xs Γ1 => ∃ x y, xs = [x, y] ∧ (decide (i < Γ1.length) && decide (j < Γ1.length)) = true ∧ wN ((Γ1.set i (some x)).set j (some y)) N) : wS (parS i j fa) Γ N R B C := by
  obtain ⟨_, Γ1, e1, x, y, rfl, h, k⟩ := k
  rw [Bool.and_eq_true, decide_eq_true_eq, decide_eq_true_eq] at h
  exact ⟨.nx _, by unfold parS; rw [e1]; show (if _ then _ else _) = _; rw [if_pos h], k⟩
theorem w_two {x y : D} {p : D → D → Prop} (k : p x y) : ∃ x' y', [x, y] = [x', y'] ∧ p x' y' := ⟨x, y, rfl, k⟩
theorem w_parL {is : List Nat} (k : wA fa Γ fun xs Γ1 => (xs.length = is.length ∧ is.all (fun i => decide (i < Γ1.length)) = true) ∧ wN (setAll is xs Γ1) N) : wS (parL is fa) Γ N R B C := by
  obtain ⟨xs, Γ1, e1, h, k⟩ := k
  exact ⟨.nx _, by unfold parL; rw [e1]; show (if _ then _ else _) = _; rw [if_pos h], k⟩
theorem w_retS (k : wE f Γ R) : wS (retS f) Γ N R B C := by
  obtain ⟨x, Γ1, e1, k⟩ := k
  exact ⟨.rt x Γ1, by unfold retS; rw [e1]; rfl, k⟩
theorem w_retN (k : R (.p .none) Γ) : wS retN Γ N R B C := ⟨_, rfl, k⟩
theorem w_drop (k : wE f Γ fun _ Γ1 => N Γ1) : wS (dropS f) Γ N R B C := by
  obtain ⟨x, Γ1, e1, k⟩ := k
  exact ⟨.nx Γ1, by unfold dropS; rw [e1]; rfl, k⟩
theorem w_ifS (k : wT ft Γ fun x Γ1 => wB x (wS b Γ1 N R B C) (wS c Γ1 N R B C)) : wS (ifS ft b c) Γ N R B C := by
  obtain ⟨x, Γ1, e1, k1, k2⟩ := k
  cases x with
  | true => obtain ⟨y, e2, k⟩ := k1 rfl; exact ⟨_, by unfold ifS; rw [e1]; exact e2, k⟩
  | false => obtain ⟨y, e2, k⟩ := k2 rfl; exact ⟨_, by unfold ifS; rw [e1]; exact e2, k⟩
theorem w_seq (k : wS b Γ (fun Γ1 => wS c Γ1 N R B C) R B C) : wS (seqS b c) Γ N R B C := by
  obtain ⟨out, e1, k⟩ := k
  cases out with
  | nx Γ1 => obtain ⟨y, e2, k⟩ := k; exact ⟨_, by unfold seqS; rw [e1]; exact e2, k⟩
  | rt d Γ1 => exact ⟨.rt d Γ1, by unfold seqS; rw [e1]; rfl, k⟩
  | bk Γ1 => exact ⟨.bk Γ1, by unfold seqS; rw [e1]; rfl, k⟩
  | ct Γ1 => exact ⟨.ct Γ1, by unfold seqS; rw [e1]; rfl, k⟩
theorem w_nx (k : N Γ) : wS nxS Γ N R B C := ⟨_, rfl, k⟩
theorem w_bk (k : B Γ) : wS bkS Γ N R B C := ⟨_, rfl, k⟩
theorem w_ct (k : C Γ) : wS ctS Γ N R B C := ⟨_, rfl, k⟩
theorem w_for (k : wI fi Γ fun ds Γ1 => wL t b ds Γ1 N R) : wS (forS fi t b) Γ N R B C := by
  obtain ⟨ds, Γ1, e1, out, e2, k⟩ := k
  refine ⟨out, by unfold forS; rw [e1]; exact e2, ?_⟩
  cases out with
  | nx _ => exact k
  | rt _ _ => exact k
  | bk _ => exact k.elim
  | ct _ => exact k.elim
theorem w_L0 (k : N Γ) : wL t b [] Γ N R := ⟨_, rfl, k⟩
theorem w_L1 {ds : List PyData} (k : wG t (.p q) Γ fun Γ1 => wS b Γ1 (fun Γ2 => wL t b ds Γ2 N R) R N (fun Γ2 => wL t b ds Γ2 N R)) : wL t b (q :: ds) Γ N R := by
  obtain ⟨Γ1, e1, out, e2, k⟩ := k
  cases out with
  | nx Γ2 => obtain ⟨out, e3, k⟩ := k; exact ⟨out, by show (t (.p q) Γ).bind _ = _; rw [e1]; show (b Γ1).bind _ = _; rw [e2]; exact e3, k⟩
  | ct Γ2 => obtain ⟨out, e3, k⟩ := k; exact ⟨out, by show (t (.p q) Γ).bind _ = _; rw [e1]; show (b Γ1).bind _ = _; rw [e2]; exact e3, k⟩
  | bk Γ2 => exact ⟨.nx Γ2, by show (t (.p q) Γ).bind _ = _; rw [e1]; show (b Γ1).bind _ = _; rw [e2]; rfl, k⟩
  | rt d Γ2 => exact ⟨.rt d Γ2, by show (t (.p q) Γ).bind _ = _; rw [e1]; show (b Γ1).bind _ = _; rw [e2]; rfl, k⟩
/-- a loop by what holds ahead of each turn -/
theorem w_loop (I : List PyData → Nv → Prop) {ds : List PyData} (h0 : I ds Γ) (hs : ∀ q ds Γ, I (q :: ds) Γ → wG t (.p q) Γ fun Γ1 => wS b Γ1 (I ds) R N (I ds)) (hN : ∀ Γ, I [] Γ → N Γ) : wL t b ds Γ N R := by
  induction ds generalizing Γ with
  | nil => exact w_L0 (hN _ h0)
  | cons q ds ih =>
    obtain ⟨Γ1, e1, out, e2, k⟩ := hs _ _ _ h0
    refine w_L1 ⟨Γ1, e1, out, e2, ?_⟩
    cases out with
    | nx Γ2 => exact ih k
    | ct Γ2 => exact ih k
    | bk Γ2 => exact k
    | rt d Γ2 => exact k
theorem w_while {m : Nv → Nat} (k : wW ft b (m Γ) Γ N R) : wS (whileS m ft b) Γ N R B C := by
  obtain ⟨out, e, k⟩ := k
  refine ⟨out, e, ?_⟩
  cases out with
  | nx _ => exact k
  | rt _ _ => exact k
  | bk _ => exact k.elim
  | ct _ => exact k.elim
theorem w_W1 {n : Nat} (k : wT ft Γ fun x Γ1 => wB x (wS b Γ1 (fun Γ2 => wW ft b n Γ2 N R) R N (fun Γ2 => wW ft b n Γ2 N R)) (N Γ1)) : wW ft b (n + 1) Γ N R := by
  obtain ⟨x, Γ1, e1, k1, k2⟩ := k
  cases x with
  | false => exact ⟨.nx Γ1, by unfold whileF; rw [e1]; rfl, k2 rfl⟩
  | true =>
    obtain ⟨out, e2, k⟩ := k1 rfl
    cases out with
    | nx Γ2 => obtain ⟨out, e3, k⟩ := k; exact ⟨out, by unfold whileF; rw [e1]; show (b Γ1).bind _ = _; rw [e2]; exact e3, k⟩
    | ct Γ2 => obtain ⟨out, e3, k⟩ := k; exact ⟨out, by unfold whileF; rw [e1]; show (b Γ1).bind _ = _; rw [e2]; exact e3, k⟩
    | bk Γ2 => exact ⟨.nx Γ2, by unfold whileF; rw [e1]; show (b Γ1).bind _ = _; rw [e2]; rfl, k⟩
    | rt d Γ2 => exact ⟨.rt d Γ2, by unfold whileF; rw [e1]; show (b Γ1).bind _ = _; rw [e2]; rfl, k⟩
/-- a while by what holds ahead of each turn, with the turns that are left at the most -/
theorem w_loopW (I : Nat → Nv → Prop) {n : Nat} (h0 : I n Γ) (hs : ∀ n Γ, I n Γ → ∃ m, n = m + 1 ∧ wT ft Γ fun x Γ1 => wB x (wS b Γ1 (I m) R N (I m)) (N Γ1)) : wW ft b n Γ N R := by
  induction n generalizing Γ with
  | zero => obtain ⟨m, e, _⟩ := hs _ _ h0; exact absurd e (by omega)
  | succ n ih =>
    obtain ⟨m, e, x, Γ1, e1, k1, k2⟩ := hs _ _ h0
    cases e
    refine w_W1 ⟨x, Γ1, e1, fun hx => ?_, k2⟩
    obtain ⟨out, e2, k⟩ := k1 hx
    refine ⟨out, e2, ?_⟩
    cases out with
    | nx Γ2 => exact ih k
    | ct Γ2 => exact ih k
    | bk Γ2 => exact k
    | rt d Γ2 => exact k
/-! comprehensions -/
theorem w_C0 {own : List Nat} {acc : List D} (k : QA acc Γ) : wC own t ft f [] Γ acc QA := ⟨_, _, rfl, k⟩
theorem w_C1 {own : List Nat} {acc : List D} {ds : List PyData} (k : wG t (.p q) Γ fun Γ1 => wT ft Γ1 fun x Γ2 => wB x (wE f Γ2 fun y Γ3 => wN (wipeG Γ3 own) fun Γ4 => wC own t ft f ds Γ4 (acc ++ [y]) QA) (wN (wipeG Γ2 own) fun Γ4 => wC own t ft f ds Γ4 acc QA)) : wC own t ft f (q :: ds) Γ acc QA := by
  obtain ⟨Γ1, e1, x, Γ2, e2, k1, k2⟩ := k
  cases x with
  | true =>
    obtain ⟨y, Γ3, e3, xs, Γ4, e4, k⟩ := k1 rfl
    exact ⟨xs, Γ4, by show (t (.p q) Γ).bind _ = _; rw [e1]; show (ft Γ1).bind _ = _; rw [e2]; show (f Γ2).bind _ = _; rw [e3]; exact e4, k⟩
  | false =>
    obtain ⟨xs, Γ4, e4, k⟩ := k2 rfl
    exact ⟨xs, Γ4, by show (t (.p q) Γ).bind _ = _; rw [e1]; show (ft Γ1).bind _ = _; rw [e2]; exact e4, k⟩
theorem w_loopC {own : List Nat} (I : List PyData → Nv → List D → Prop) {ds : List PyData} {acc : List D} (h0 : I ds Γ acc)
    (hs : ∀ q ds Γ acc, I (q :: ds) Γ acc → wG t (.p q) Γ fun Γ1 => wT ft Γ1 fun x Γ2 => wB x (wE f Γ2 fun y Γ3 => wN (wipeG Γ3 own) fun Γ4 => I ds Γ4 (acc ++ [y])) (wN (wipeG Γ2 own) fun Γ4 => I ds Γ4 acc)) (hN : ∀ Γ acc, I [] Γ acc → QA acc Γ) : wC own t ft f ds Γ acc QA := by
  induction ds generalizing Γ acc with
  | nil => exact w_C0 (hN _ _ h0)
  | cons q ds ih =>
    obtain ⟨Γ1, e1, x, Γ2, e2, k1, k2⟩ := hs _ _ _ _ h0
    refine w_C1 ⟨Γ1, e1, x, Γ2, e2, fun hx => ?_, fun hx => ih (k2 hx)⟩
    obtain ⟨y, Γ3, e3, k⟩ := k1 hx
    exact ⟨y, Γ3, e3, ih k⟩
/-! a def -/
theorem w_fn {n m : Nat} {ro : List Nat} {ds : List D} (hl : ds.length = m) (k : wN (ds.map some ++ List.replicate (n - m) none) fun Γ => wS b Γ (fun Γ1 => wN (outsOf m ro Γ1) fun o => QF (.p .none) o) (fun d Γ1 => wN (outsOf m ro Γ1) fun o => QF d o) (fun _ => False) (fun _ => False)) : wF (runF n m ro b) ds QF := by
  obtain ⟨out, e, k⟩ := k
  cases out with
  | nx Γ1 => exact ⟨_, _, by unfold runF; rw [if_pos hl, e]; rfl, k⟩
  | rt d Γ1 => exact ⟨_, _, by unfold runF; rw [if_pos hl, e]; rfl, k⟩
  | bk _ => exact k.elim
  | ct _ => exact k.elim
/-! what is drawn from -/
theorem w_anyL {x : List PyData} (k : wE f Γ fun d Γ1 => fz d = some (.list x) ∧ QI x Γ1) : wI (anyI f) Γ QI := by
  obtain ⟨d, Γ1, e1, e2, k⟩ := k
  exact ⟨_, _, by unfold anyI; rw [e1]; dsimp only [Option.bind]; rw [e2], k⟩
theorem w_any (k : wE f Γ fun d Γ1 => ∃ x, (fz d = some (.list x) ∨ fz d = some (.tuple x) ∨ ∃ z, fz d = some (.str z) ∧ x = signsD z) ∧ QI x Γ1) : wI (anyI f) Γ QI := by
  obtain ⟨d, Γ', e, x, h, k⟩ := k
  refine ⟨x, Γ', ?_, k⟩
  unfold anyI
  rw [e]
  show (match fz d with | some (.list ds) => some (ds, Γ') | some (.tuple ds) => some (ds, Γ') | some (.str z) => some (signsD z, Γ') | _ => none) = _
  rcases h with h | h | ⟨z, h, rfl⟩ <;> rw [h]
theorem w_itL {x : List PyData} {p : List PyData → Prop} (h : fz d = some (.list x)) (k : p x) : ∃ x, (fz d = some (.list x) ∨ fz d = some (.tuple x) ∨ ∃ z, fz d = some (.str z) ∧ x = signsD z) ∧ p x := ⟨x, .inl h, k⟩
theorem w_itT {x : List PyData} {p : List PyData → Prop} (h : fz d = some (.tuple x)) (k : p x) : ∃ x, (fz d = some (.list x) ∨ fz d = some (.tuple x) ∨ ∃ z, fz d = some (.str z) ∧ x = signsD z) ∧ p x := ⟨x, .inr (.inl h), k⟩
theorem w_itS {z : Str} {p : List PyData → Prop} (h : fz d = some (.str z)) (k : p (signsD z)) : ∃ x, (fz d = some (.list x) ∨ fz d = some (.tuple x) ∨ ∃ z, fz d = some (.str z) ∧ x = signsD z) ∧ p x := ⟨_, .inr (.inr ⟨z, h, rfl⟩), k⟩
def InR (z : Int) : Prop := -(2 ^ 62) ≤ z ∧ z < 2 ^ 62
theorem w_inr {z : Int} {p : Prop} (h : InR z) (k : p) : InR z ∧ p := ⟨h, k⟩
theorem w_rng1 (k : wA fa Γ fun xs Γ1 => ∃ j : Int, xs = [.p (.int j)] ∧ InR j ∧ QI (rngL 0 j.toNat) Γ1) : wI (rng1 fa) Γ QI := by
  obtain ⟨_, Γ1, e1, j, rfl, h, k⟩ := k
  exact ⟨_, _, by unfold rng1; rw [e1]; show (if _ then _ else _) = _; rw [if_pos (show -(2 ^ 62) ≤ j ∧ j < 2 ^ 62 from h)], k⟩
theorem w_rng2 (k : wA fa Γ fun xs Γ1 => ∃ i j : Int, xs = [.p (.int i), .p (.int j)] ∧ InR i ∧ InR j ∧ QI (rngL i (j - i).toNat) Γ1) : wI (rng2 fa) Γ QI := by
  obtain ⟨_, Γ1, e1, i, j, rfl, h, h', k⟩ := k
  exact ⟨_, _, by unfold rng2; rw [e1]; show (if _ then _ else _) = _; rw [if_pos (show (-(2 ^ 62) ≤ i ∧ i < 2 ^ 62) ∧ -(2 ^ 62) ≤ j ∧ j < 2 ^ 62 from ⟨h, h'⟩)], k⟩
theorem w_one {z : Int} {p : Int → Prop} (k : p z) : ∃ z', [D.p (.int z)] = [.p (.int z')] ∧ p z' := ⟨z, rfl, k⟩
theorem w_ones {x : D} {p : D → Prop} (k : p x) : ∃ z', [x] = [z'] ∧ p z' := ⟨x, rfl, k⟩
theorem w_twoI {z y : Int} {p : Int → Int → Prop} (k : p z y) : ∃ z' y', [D.p (.int z), D.p (.int y)] = [.p (.int z'), .p (.int y')] ∧ p z' y' := ⟨z, y, rfl, k⟩
theorem w_zip (k : wA fa Γ fun xs Γ1 => ∃ x y, xs = [x, y] ∧ ∃ ds es, ((fz x = some (.list ds) ∧ fz y = some (.list es)) ∨ (fz x = some (.tuple ds) ∧ fz y = some (.tuple es))) ∧ QI (zipL ds es) Γ1) : wI (zipI fa) Γ QI := by
  obtain ⟨_, Γ1, e1, x, y, rfl, ds, es, ⟨h1, h2⟩ | ⟨h1, h2⟩, k⟩ := k
  · exact ⟨_, _, by unfold zipI; rw [e1]; dsimp only [Option.bind]; rw [h1, h2], k⟩
  · exact ⟨_, _, by unfold zipI; rw [e1]; dsimp only [Option.bind]; rw [h1, h2], k⟩
theorem w_enumA (k : wA fa Γ fun xs Γ1 => ∃ x, xs = [x] ∧ ∃ ds, (fz x = some (.list ds) ∨ fz x = some (.tuple ds) ∨ ∃ z, fz x = some (.str z) ∧ ds = signsD z) ∧ QI (enumL 0 ds) Γ1) : wI (enumA fa) Γ QI := by
  obtain ⟨xs, Γ', e, x, rfl, ds, h, k⟩ := k
  refine ⟨_, Γ', ?_, k⟩
  unfold enumA
  rw [e]
  show (match fz x with | some (.list ds) => some (enumL 0 ds, Γ') | some (.tuple ds) => some (enumL 0 ds, Γ') | some (.str z) => some (enumL 0 (signsD z), Γ') | _ => none) = _
  rcases h with h | h | ⟨z, h, rfl⟩ <;> rw [h]
theorem w_enum (k : wA fa Γ fun xs Γ1 => ∃ x, xs = [x] ∧ ∃ ds, fz x = some (.list ds) ∧ QI (enumL 0 ds) Γ1) : wI (enumI fa) Γ QI := by
  obtain ⟨_, Γ1, e1, x, rfl, ds, h1, k⟩ := k
  exact ⟨_, _, by unfold enumI; rw [e1]; dsimp only [Option.bind]; rw [h1], k⟩
/-! bools -/
theorem w_bt (h : bb = true) (k : p1) : wB bb p1 p2 := ⟨fun _ => k, fun z => (by rw [h] at z; cases z)⟩
theorem w_bf (h : bb = false) (k : p2) : wB bb p1 p2 := ⟨fun z => (by rw [h] at z; cases z), fun _ => k⟩
theorem w_bd {x : Prop} [Decidable x] (h1 : x → p1) (h2 : ¬ x → p2) : wB (decide x) p1 p2 := ⟨fun z => h1 (of_decide_eq_true z), fun z => h2 (of_decide_eq_false z)⟩
theorem w_bn (k : wB bb p2 p1) : wB (!bb) p1 p2 := by
  obtain ⟨k1, k2⟩ := k
  cases bb with
  | true => exact ⟨fun z => (by cases z), fun _ => k1 rfl⟩
  | false => exact ⟨fun _ => k2 rfl, fun z => (by cases z)⟩
theorem w_joinI {x : Prop} [Decidable x] {u v : Int} (hu : wE f Γ fun d Γ' => d = .p (.int u) ∧ Γ' = Γ) (hv : wE g Γ fun d Γ' => d = .p (.int v) ∧ Γ' = Γ) (k : Q (.p (.int (if x then u else v))) Γ) : wB (decide x) (wE f Γ Q) (wE g Γ Q) := by
  refine w_bd (fun h => ?_) fun h => ?_
  · obtain ⟨d, Γ', e, rfl, rfl⟩ := hu
    rw [if_pos h] at k
    exact ⟨_, _, e, k⟩
  · obtain ⟨d, Γ', e, rfl, rfl⟩ := hv
    rw [if_neg h] at k
    exact ⟨_, _, e, k⟩
theorem w_midE (P : KD) (h : wE f Γ P) (k : ∀ d Γ', P d Γ' → Q d Γ') : wE f Γ Q := by
  obtain ⟨d, Γ', e, h⟩ := h
  exact ⟨d, Γ', e, k _ _ h⟩
theorem w_midS (P : Nv → Prop) (h : wS b Γ P R B C) (k : ∀ Γ', P Γ' → N Γ') : wS b Γ N R B C := by
  obtain ⟨o, e, h⟩ := h
  refine ⟨o, e, ?_⟩
  cases o with
  | nx _ => exact k _ h
  | rt _ _ => exact h
  | bk _ => exact h
  | ct _ => exact h
theorem w_midB (P : Nv → Prop) {Γ' : Nv} (h : wB bb (wS b Γ P R B C) (wS c Γ' P R B C)) (k : ∀ Γ', P Γ' → N Γ') : wB bb (wS b Γ N R B C) (wS c Γ' N R B C) := ⟨fun z => w_midS P (h.1 z) k, fun z => w_midS P (h.2 z) k⟩
theorem w_midBE (P : KD) {Γ' : Nv} (h : wB bb (wE f Γ P) (wE g Γ' P)) (k : ∀ d Γ', P d Γ' → Q d Γ') : wB bb (wE f Γ Q) (wE g Γ' Q) := ⟨fun z => w_midE P (h.1 z) k, fun z => w_midE P (h.2 z) k⟩
theorem w_midW (P : Nv → Prop) {n : Nat} (h : wW ft b n Γ P R) (k : ∀ Γ', P Γ' → N Γ') : wW ft b n Γ N R := by
  obtain ⟨o, e, h⟩ := h
  refine ⟨o, e, ?_⟩
  cases o with
  | nx _ => exact k _ h
  | rt _ _ => exact h
  | bk _ => exact h
  | ct _ => exact h
theorem w_midL (P : Nv → Prop) {ds : List PyData} (h : wL t b ds Γ P R) (k : ∀ Γ', P Γ' → N Γ') : wL t b ds Γ N R := by
  obtain ⟨o, e, h⟩ := h
  refine ⟨o, e, ?_⟩
  cases o with
  | nx _ => exact k _ h
  | rt _ _ => exact h
  | bk _ => exact h
  | ct _ => exact h
/-! sizes -/
def Sz (n : Nat) (a : Int) : Prop := a.natAbs < 2 ^ n
theorem Sz.mono {m n : Nat} {a : Int} (h : Sz m a) (hn : m ≤ n) : Sz n a := Nat.lt_of_lt_of_le h (Nat.pow_le_pow_right (by decide) hn)
theorem Sz.mul {m n : Nat} {a b : Int} (ha : Sz m a) (hb : Sz n b) : Sz (m + n) (a * b) := by
  unfold Sz at *
  rw [Int.natAbs_mul, Nat.pow_add]
  exact Nat.mul_lt_mul'' ha hb
theorem Sz.add {m n : Nat} {a b : Int} (ha : Sz m a) (hb : Sz n b) : Sz (max m n + 1) (a + b) := by
  have h1 := ha.mono (Nat.le_max_left m n)
  have h2 := hb.mono (Nat.le_max_right m n)
  unfold Sz at *
  have := Int.natAbs_add_le a b
  rw [Nat.pow_succ]
  omega
theorem Sz.neg {m : Nat} {a : Int} (ha : Sz m a) : Sz m (-a) := by unfold Sz at *; rwa [Int.natAbs_neg]
theorem Sz.sub {m n : Nat} {a b : Int} (ha : Sz m a) (hb : Sz n b) : Sz (max m n + 1) (a - b) := by
  rw [Int.sub_eq_add_neg]; exact ha.add hb.neg
theorem Sz.log2 {m : Nat} {a : Int} (ha : Sz m a) (h : 0 < m) : a.natAbs.log2 < m := by
  by_cases h0 : a.natAbs = 0
  · rw [h0]; simpa using h
  · exact (Nat.log2_lt h0).mpr ha
theorem Sz.nat {m : Nat} {a b : Int} (ha : Sz m a) (h : b.natAbs ≤ a.natAbs) : Sz m b := Nat.lt_of_le_of_lt h ha
theorem mulOk_sz {m n : Nat} {a b : Int} (ha : Sz m a) (hb : Sz n b) (h : m + n ≤ 999998) : mulOk a b = true := by
  unfold mulOk
  have h1 := (ha.mono (Nat.le_succ m)).log2 (Nat.succ_pos _)
  have h2 := (hb.mono (Nat.le_succ n)).log2 (Nat.succ_pos _)
  simp only [Bool.or_eq_true, decide_eq_true_eq]
  exact .inr (by omega)
theorem mulOk_l {a b : Int} (h : a.natAbs < 2 ^ 64) : mulOk a b = true := by
  unfold mulOk
  simp only [Bool.or_eq_true, decide_eq_true_eq]
  exact .inl (.inl h)
theorem mulOk_r {a b : Int} (h : b.natAbs < 2 ^ 64) : mulOk a b = true := by
  unfold mulOk
  simp only [Bool.or_eq_true, decide_eq_true_eq]
  exact .inl (.inr h)
theorem divOk_sz {m : Nat} {a : Int} (ha : Sz m a) (h0 : a ≠ 0) (h : m < 9000) : divOk a = true := by
  unfold divOk
  have h1 := (ha.mono (Nat.le_succ m)).log2 (Nat.succ_pos _)
  simp only [Bool.and_eq_true, decide_eq_true_eq]
  exact ⟨h0, by omega⟩
/-! operations -/
section
variable {x y : Int}
theorem w_mul (h : mulOk x y = true) (k : QD (.p (.int (x * y)))) : wO (smulD (.p (.int x)) (.p (.int y))) QD := ⟨_, if_pos h, k⟩
theorem w_add (k : QD (.p (.int (x + y)))) : wO (addD (.p (.int x)) (.p (.int y))) QD := ⟨_, rfl, k⟩
theorem w_sub (k : QD (.p (.int (x - y)))) : wO (subD (.p (.int x)) (.p (.int y))) QD := ⟨_, rfl, k⟩
theorem w_fdiv (h : divOk y = true) (k : QD (.p (.int (x.fdiv y)))) : wO (fdivD (.p (.int x)) (.p (.int y))) QD := ⟨_, if_pos h, k⟩
theorem w_mod (h : y ≠ 0) (k : QD (.p (.int (x.fmod y)))) : wO (modD (.p (.int x)) (.p (.int y))) QD := ⟨_, if_pos h, k⟩
theorem w_pow {y : Nat} (h : 0 ≤ (y : Int) ∧ (y : Int) ≤ 1000000 ∧ x.natAbs < 2 ^ 64) (k : QD (.p (.int (x ^ y)))) : wO (powD (.p (.int x)) (.p (.int (y : Int)))) QD := ⟨_, if_pos h, k⟩
theorem w_powT {z : Int} (h : 0 ≤ y ∧ y ≤ 1000000 ∧ x.natAbs < 2 ^ 64) (hz : x ^ y.toNat = z) (k : QD (.p (.int z))) : wO (powD (.p (.int x)) (.p (.int y))) QD := ⟨_, if_pos h, by rw [hz]; exact k⟩
theorem w_ixl {a b : D} (h : ixD a b = some d) (k : QD d) : wO (ixD a b) QD := ⟨_, h, k⟩
theorem w_ixT0 {xs qs : List PyData} (h : xs = q :: qs) (k : QD (.p q)) : wO (ixD (.p (.tuple xs)) (.p (.int 0))) QD := by
  subst h
  refine ⟨.p q, ?_, k⟩
  unfold ixD atI ixN
  dsimp only
  rw [if_pos (by decide), if_pos (by simp)]
  rfl
theorem w_ixTi {xs : List PyData} {z : Int} (i : Nat) (hz : z = i) (h : xs[i]? = some q) (k : QD (.p q)) : wO (ixD (.p (.tuple xs)) (.p (.int z))) QD := by
  subst hz
  refine ⟨.p q, ?_, k⟩
  have hl : i < xs.length := (List.getElem?_eq_some_iff.mp h).1
  unfold ixD atI ixN
  dsimp only
  rw [if_pos (by omega), if_pos (by omega)]
  show ((xs[i]?).map D.p) = _
  rw [h]
  rfl
theorem w_ixN {n : Nat} {z : Int} {p : Nat → Prop} (h : ixN n z = some j) (k : p j) : wO (ixN n z) p := ⟨_, h, k⟩
theorem w_cutT {ds : List PyData} {lo hi : Option Int} (k : QD (.p (.tuple (cutL ds lo hi)))) : wO (cutD (.p (.tuple ds)) lo hi) QD := ⟨_, rfl, k⟩
theorem w_cutP {ds : List PyData} {lo hi : Option Int} (k : QD (.l ((cutL ds lo hi).map .p))) : wO (cutD (.p (.list ds)) lo hi) QD := ⟨_, rfl, k⟩
theorem flatP_map (ds : List PyData) : flatP (ds.map .p) = some ds := by
  induction ds with
  | nil => rfl
  | cons d ds ih => show (flatP (ds.map .p)).map (d :: ·) = _; rw [ih]; rfl
theorem w_cutO {ds : List PyData} {lo hi : Option Int} (k : QD (.l ((cutL ds lo hi).map .p))) : wO (cutD (.l (ds.map .p)) lo hi) QD := ⟨_, by unfold cutD; dsimp only; rw [flatP_map]; rfl, k⟩
theorem cutL_all {α : Type} {xs : List α} {n : Nat} (h : xs.length ≤ n) : cutL xs none (some (n : Int)) = xs := by
  unfold cutL
  rw [HT.sIx_none, HT.sIx_nat, Nat.min_eq_right h]
  simp
theorem cutL_take {α : Type} (xs : List α) (n : Nat) : cutL xs none (some (n : Int)) = xs.take n := by
  unfold cutL
  rw [HT.sIx_none, HT.sIx_nat, List.drop_zero, Nat.sub_zero]
  rcases Nat.le_total n xs.length with h | h
  · rw [Nat.min_eq_left h]
  · rw [Nat.min_eq_right h, List.take_of_length_le (Nat.le_refl _), List.take_of_length_le h]
theorem cutL_drop {α : Type} (xs : List α) (n : Nat) : cutL xs (some (n : Int)) none = xs.drop n := by
  unfold cutL
  rw [HT.sIx_none, HT.sIx_nat]
  rcases Nat.le_total n xs.length with h | h
  · rw [Nat.min_eq_left h, List.take_of_length_le (by simp)]
  · rw [Nat.min_eq_right h, List.drop_of_length_le (Nat.le_refl _), List.drop_of_length_le h]
    simp
theorem w_rev {qs : List PyData} (h : fz d = some (.list qs)) (k : QD (.l (qs.reverse.map .p))) : wO (revD d) QD := ⟨_, by unfold revD; rw [h], k⟩
theorem w_notN0 (k : QD (.p (.bool false))) : wO (notND (.p .none) (.p .none)) QD := ⟨_, rfl, k⟩
theorem w_notNT {qs : List PyData} (k : QD (.p (.bool true))) : wO (notND (.p (.tuple qs)) (.p .none)) QD := ⟨_, rfl, k⟩
theorem w_isN0 (k : QD (.p (.bool true))) : wO (isND (.p .none) (.p .none)) QD := ⟨_, rfl, k⟩
theorem w_isNT {qs : List PyData} (k : QD (.p (.bool false))) : wO (isND (.p (.tuple qs)) (.p .none)) QD := ⟨_, rfl, k⟩
theorem w_neg (k : QD (.p (.int (-x)))) : wO (negD (.p (.int x))) QD := ⟨_, rfl, k⟩
theorem w_notD (k : QD (.p (.bool (!bb)))) : wO (notD (.p (.bool bb))) QD := ⟨_, rfl, k⟩
theorem w_lt (k : QD (.p (.bool (decide (x < y))))) : wO (ltD (.p (.int x)) (.p (.int y))) QD := ⟨_, rfl, k⟩
theorem w_le (k : QD (.p (.bool (decide (x ≤ y))))) : wO (leD (.p (.int x)) (.p (.int y))) QD := ⟨_, rfl, k⟩
theorem w_gt (k : QD (.p (.bool (decide (y < x))))) : wO (gtD (.p (.int x)) (.p (.int y))) QD := ⟨_, rfl, k⟩
theorem w_ge (k : QD (.p (.bool (decide (y ≤ x))))) : wO (geD (.p (.int x)) (.p (.int y))) QD := ⟨_, rfl, k⟩
theorem eqv_int : PyData.eqv (.int x) (.int y) = decide (x = y) := by
  simp [PyData.eqv]
  first | rfl | (by_cases h : x = y <;> simp [h])
theorem w_eq (k : QD (.p (.bool (decide (x = y))))) : wO (eqD (.p (.int x)) (.p (.int y))) QD := ⟨_, rfl, by rw [eqv_int]; exact k⟩
theorem w_ne (k : QD (.p (.bool (!decide (x = y))))) : wO (neD (.p (.int x)) (.p (.int y))) QD := ⟨_, rfl, by rw [eqv_int]; exact k⟩
theorem w_abs (k : QD (.p (.int (x.natAbs : Int)))) : wO (absD (.p (.int x))) QD := ⟨_, rfl, k⟩
theorem w_un1 (k : wO (u d) QD) : wO (un1 u [d]) QD := k
theorem w_intI (k : QD (.p (.int x))) : wO (intD (.p (.int x))) QD := ⟨_, rfl, k⟩
theorem w_intB (k : QD (.p (.int (if bb then 1 else 0)))) : wO (intD (.p (.bool bb))) QD := ⟨_, rfl, k⟩
theorem w_gcd (k : QD (.p (.int (Nat.gcd x.natAbs y.natAbs : Nat)))) : wO (gcdD [.p (.int x), .p (.int y)]) QD := ⟨_, rfl, k⟩
theorem w_lcm (h : lcmOk x y = true) (k : QD (.p (.int (Nat.lcm x.natAbs y.natAbs : Nat)))) : wO (lcmD [.p (.int x), .p (.int y)]) QD := ⟨_, if_pos h, k⟩
theorem w_tup {ds : List D} {qs : List PyData} (h : ds.length ≤ 1000) (hz : fzs ds = some qs) (k : QD (.p (.tuple qs))) : wO (tupD ds) QD := ⟨_, by unfold tupD; rw [if_pos h, hz]; rfl, k⟩
theorem w_lst1 {ds : List D} (h : ds.length ≤ 1000) (k : QD (.l ds)) : wO (lstD ds) QD := ⟨_, if_pos h, k⟩
theorem w_lenT {qs : List PyData} (k : QD (.p (.int qs.length))) : wO (lenD (.p (.tuple qs))) QD := ⟨_, rfl, k⟩
theorem w_lenL {qs : List PyData} (k : QD (.p (.int qs.length))) : wO (lenD (.p (.list qs))) QD := ⟨_, rfl, k⟩
theorem w_lenO {qs : List D} (k : QD (.p (.int qs.length))) : wO (lenD (.l qs)) QD := ⟨_, rfl, k⟩
theorem w_tupleL {qs : List PyData} (h : fz d = some (.list qs)) (k : QD (.p (.tuple qs))) : wO (tupleD d) QD := ⟨_, by unfold tupleD; rw [h], k⟩
theorem w_tupleT {qs : List PyData} (h : fz d = some (.tuple qs)) (k : QD (.p (.tuple qs))) : wO (tupleD d) QD := ⟨_, by unfold tupleD; rw [h], k⟩
theorem w_append {xs : List D} {Q : D × D → Prop} (h : xs.length < 1000000) (k : Q (.p .none, .l (xs ++ [d]))) : wO (appendD (.l xs) [d]) Q := ⟨_, if_pos h, k⟩
end
theorem w_neE {qs : List PyData} (h : fz d = some (.list qs)) (k : QD (.p (.bool (decide (qs ≠ []))))) : wO (neD d (.l [])) QD := by
  refine ⟨.p (.bool (!PyData.eqv (.list qs) (.list []))), ?_, ?_⟩
  · unfold neD
    rw [h]
    rfl
  · rw [eqv_empty]
    have e : (!qs.isEmpty) = decide (qs ≠ []) := by cases qs <;> simp
    rw [e]
    exact k
theorem w_eqE {qs : List PyData} (h : fz d = some (.list qs)) (k : QD (.p (.bool (decide (qs = []))))) : wO (eqD d (.l [])) QD := by
  refine ⟨.p (.bool (PyData.eqv (.list qs) (.list []))), ?_, ?_⟩
  · unfold eqD
    rw [h]
    rfl
  · rw [eqv_empty]
    have e : qs.isEmpty = decide (qs = []) := by cases qs <;> simp
    rw [e]
    exact k
theorem w_isi {T : String} (hz : fz d = some q) (h : kitB (tyName q) T = some bb) (k : QD (.p (.bool bb))) : wO (isiD T d) QD := ⟨_, by unfold isiD; rw [hz]; show (kitB (tyName q) T).map _ = _; rw [h]; rfl, k⟩
theorem w_notinQ {q r : PyData} {e : D} (hz : fz d = some q) (he : fz e = some r) (h : inQ q r = some bb) (k : QD (.p (.bool (!bb)))) : wO (notinD d e) QD := ⟨_, by unfold notinD; rw [hz]; show (fz e).bind _ = _; rw [he]; show (inQ q r).map _ = _; rw [h]; rfl, k⟩
theorem w_inQ {q r : PyData} {e : D} (hz : fz d = some q) (he : fz e = some r) (h : inQ q r = some bb) (k : QD (.p (.bool bb))) : wO (inD d e) QD := ⟨_, by unfold inD; rw [hz]; show (fz e).bind _ = _; rw [he]; show (inQ q r).map _ = _; rw [h]; rfl, k⟩
theorem inQ_strs {s : Str} {ds : List PyData} {ys : List Str} (h : allStrs ds = some ys) : inQ (.str s) (.tuple ds) = some (ys.any (· == s)) ∧ inQ (.str s) (.list ds) = some (ys.any (· == s)) := by
  constructor
  · unfold inQ
    split <;> simp_all
  · unfold inQ
    split <;> simp_all
theorem w_notin {s : Str} {ds : List PyData} {ys : List Str} (hz : fz d = some (.tuple ds)) (h : allStrs ds = some ys) (k : QD (.p (.bool (!ys.any (· == s))))) : wO (notinD (.p (.str s)) d) QD := w_notinQ rfl hz (inQ_strs h).1 k
theorem w_inS {s : Str} {ds : List PyData} {ys : List Str} (hz : fz d = some (.tuple ds)) (h : allStrs ds = some ys) (k : QD (.p (.bool (ys.any (· == s))))) : wO (inD (.p (.str s)) d) QD := w_inQ rfl hz (inQ_strs h).1 k
theorem w_allL {qs : List PyData} {bs : List Bool} (hz : fz d = some (.list qs)) (h : truths qs = some bs) (k : QD (.p (.bool (bs.all id)))) : wO (allD d) QD := ⟨_, by unfold allD trD; rw [hz]; dsimp only; rw [h]; rfl, k⟩
theorem w_anyB {qs : List PyData} {bs : List Bool} (hz : fz d = some (.list qs)) (h : truths qs = some bs) (k : QD (.p (.bool (bs.any id)))) : wO (anyD d) QD := ⟨_, by unfold anyD trD; rw [hz]; dsimp only; rw [h]; rfl, k⟩
theorem w_frz (k : wE f Γ fun d Γ1 => ∃ q, fz d = some q ∧ Q (.p q) Γ1) : wE (frzM f) Γ Q := by
  obtain ⟨d, Γ', e, q, h, k⟩ := k
  exact ⟨.p q, Γ', by unfold frzM; rw [e]; show (fz d).map _ = _; rw [h]; rfl, k⟩
theorem w_addL {xs ys : List D} (h : xs.length + ys.length ≤ 10000000) (k : QD (.l (xs ++ ys))) : wO (addD (.l xs) (.l ys)) QD := ⟨_, by
  show (if xs.length + ys.length ≤ sizeLine then some (D.l (xs ++ ys)) else none) = _
  have e : sizeLine = 16777216 := by decide
  rw [if_pos (by omega)], k⟩
theorem w_addF {qs : List PyData} {ys : List D} (h : qs.length + ys.length ≤ 10000000) (k : QD (.l (qs.map .p ++ ys))) : wO (addD (.p (.list qs)) (.l ys)) QD := ⟨_, by
  show (if qs.length + ys.length ≤ sizeLine then some (D.l (qs.map .p ++ ys)) else none) = _
  have e : sizeLine = 16777216 := by decide
  rw [if_pos (by omega)], k⟩
/-! isinstance, by the kinds of data -/
def isTup : PyData → Bool
  | .tuple _ => true
  | _ => false
def isInt : PyData → Bool
  | .int _ => true
  | .bool _ => true
  | _ => false
def isBool : PyData → Bool
  | .bool _ => true
  | _ => false
def isStr : PyData → Bool
  | .str _ => true
  | _ => false
def isList : PyData → Bool
  | .list _ => true
  | _ => false
def isDict : PyData → Bool
  | .dict _ => true
  | _ => false
theorem kit_tuple (q : PyData) : kitB (tyName q) "tuple" = some (isTup q) := by cases q <;> (dsimp only [tyName, isTup]; decide +kernel)
theorem kit_int (q : PyData) : kitB (tyName q) "int" = some (isInt q) := by cases q <;> (dsimp only [tyName, isInt]; decide +kernel)
theorem kit_bool (q : PyData) : kitB (tyName q) "bool" = some (isBool q) := by cases q <;> (dsimp only [tyName, isBool]; decide +kernel)
theorem kit_str (q : PyData) : kitB (tyName q) "str" = some (isStr q) := by cases q <;> (dsimp only [tyName, isStr]; decide +kernel)
theorem kit_list (q : PyData) : kitB (tyName q) "list" = some (isList q) := by cases q <;> (dsimp only [tyName, isList]; decide +kernel)
theorem kit_dict (q : PyData) : kitB (tyName q) "dict" = some (isDict q) := by cases q <;> (dsimp only [tyName, isDict]; decide +kernel)
theorem w_isiT (hz : fz d = some q) (k : QD (.p (.bool (isTup q)))) : wO (isiD "tuple" d) QD := w_isi hz (kit_tuple q) k
theorem w_isiI (hz : fz d = some q) (k : QD (.p (.bool (isInt q)))) : wO (isiD "int" d) QD := w_isi hz (kit_int q) k
theorem w_isiB (hz : fz d = some q) (k : QD (.p (.bool (isBool q)))) : wO (isiD "bool" d) QD := w_isi hz (kit_bool q) k
theorem w_isiS (hz : fz d = some q) (k : QD (.p (.bool (isStr q)))) : wO (isiD "str" d) QD := w_isi hz (kit_str q) k
theorem w_isiL (hz : fz d = some q) (k : QD (.p (.bool (isList q)))) : wO (isiD "list" d) QD := w_isi hz (kit_list q) k
theorem w_isiD (hz : fz d = some q) (k : QD (.p (.bool (isDict q)))) : wO (isiD "dict" d) QD := w_isi hz (kit_dict q) k
theorem truths_bools : ∀ bs : List Bool, truths (bs.map PyData.bool) = some bs
  | [] => rfl
  | b :: bs => by
    show (truths (bs.map PyData.bool)).map (b :: ·) = _
    rw [truths_bools bs]
    rfl
end GH
namespace GH
open PySem L2
/-! ### fractions -/
def frq (q : Rat) : PyData := .tuple [.int q.num, .int (q.den : Int)]
def SQ (n : Nat) (q : Rat) : Prop := Sz n q.num ∧ Sz n (q.den : Int)
theorem SQ.mono {m n : Nat} {q : Rat} (h : SQ m q) (hn : m ≤ n) : SQ n q := ⟨h.1.mono hn, h.2.mono hn⟩
theorem Sz.pos {n : Nat} {a : Int} (h : Sz n a) (h1 : 1 ≤ a) : True := trivial
theorem divInt_num {a b : Int} (hb : b ≠ 0) : (Rat.divInt a b).num.natAbs ≤ a.natAbs := by
  rw [Rat.num_divInt]
  rw [Int.natAbs_ediv_of_dvd]
  · rw [Int.natAbs_mul]
    have : b.sign.natAbs = 1 := Int.natAbs_sign_of_ne_zero hb
    rw [this, Nat.one_mul]
    exact Nat.div_le_self _ _
  · exact Int.dvd_mul_of_dvd_right (Int.gcd_dvd_right ..)
theorem divInt_den {a b : Int} (hb : b ≠ 0) : (Rat.divInt a b).den ≤ b.natAbs := by
  rw [Rat.den_divInt, if_neg hb]
  exact Nat.div_le_self _ _
theorem SQ.divInt {n : Nat} {a b : Int} (hb : b ≠ 0) (h1 : Sz n a) (h2 : Sz n b) : SQ n (Rat.divInt a b) := ⟨h1.nat (divInt_num hb), h2.nat (by simpa using divInt_den hb)⟩
theorem den_ne (q : Rat) : (q.den : Int) ≠ 0 := by have := q.den_nz; omega
theorem den_pos (q : Rat) : 0 < (q.den : Int) := by have := q.den_nz; omega
theorem rat_add (q r : Rat) : Rat.divInt (q.num * r.den + r.num * q.den) (q.den * r.den) = q + r := by
  rw [← Rat.divInt_add_divInt _ _ (den_ne q) (den_ne r), Rat.num_divInt_den, Rat.num_divInt_den]
theorem rat_mul (q r : Rat) : Rat.divInt (q.num * r.num) (q.den * r.den) = q * r := by
  rw [← Rat.divInt_mul_divInt, Rat.num_divInt_den, Rat.num_divInt_den]
theorem mul_ne {a b : Int} (ha : a ≠ 0) (hb : b ≠ 0) : a * b ≠ 0 := Int.mul_ne_zero ha hb
theorem SQ.add {m n : Nat} {q r : Rat} (h1 : SQ m q) (h2 : SQ n r) : SQ (m + n + 1) (q + r) := by
  rw [← rat_add]
  refine SQ.divInt (mul_ne (den_ne q) (den_ne r)) ?_ ((h1.2.mul h2.2).mono (by omega))
  exact ((h1.1.mul h2.2).add (h2.1.mul h1.2)).mono (by omega)
theorem SQ.mul {m n : Nat} {q r : Rat} (h1 : SQ m q) (h2 : SQ n r) : SQ (m + n) (q * r) := by
  rw [← rat_mul]
  exact SQ.divInt (mul_ne (den_ne q) (den_ne r)) (h1.1.mul h2.1) (h1.2.mul h2.2)
theorem SQ.zero : SQ 1 0 := ⟨show (0 : Int).natAbs < 2 ^ 1 by decide, show (((1 : Nat) : Int)).natAbs < 2 ^ 1 by decide⟩
/-- by the greatest common divisor, with the sign of the second one -/
theorem low_num {a b : Int} (hb : b ≠ 0) : a.fdiv ((Int.gcd a b : Int) * (if 0 < b then 1 else -1)) = (Rat.divInt a b).num := by
  have hg : (Int.gcd a b : Int) ∣ a := Int.gcd_dvd_left ..
  rw [Rat.num_divInt, Int.gcd_comm b a]
  by_cases h : 0 < b
  · rw [if_pos h, Int.mul_one, Int.sign_eq_one_of_pos h, Int.one_mul, Int.fdiv_eq_ediv_of_dvd hg]
  · rw [if_neg h, Int.mul_neg, Int.mul_one, Int.sign_eq_neg_one_of_neg (by omega), Int.neg_mul, Int.one_mul, Int.fdiv_eq_ediv_of_dvd ((Int.neg_dvd).mpr hg), Int.ediv_neg, Int.neg_ediv_of_dvd hg]
theorem low_den {a b : Int} (hb : b ≠ 0) : b.fdiv ((Int.gcd a b : Int) * (if 0 < b then 1 else -1)) = ((Rat.divInt a b).den : Int) := by
  have hg : (Int.gcd a b : Int) ∣ b := Int.gcd_dvd_right ..
  rw [Rat.den_divInt, if_neg hb, Int.gcd_comm b a, Int.natCast_ediv]
  by_cases h : 0 < b
  · rw [if_pos h, Int.mul_one, Int.fdiv_eq_ediv_of_dvd hg, Int.natAbs_of_nonneg (by omega)]
  · rw [if_neg h, Int.mul_neg, Int.mul_one, Int.fdiv_eq_ediv_of_dvd ((Int.neg_dvd).mpr hg), Int.ediv_neg, Int.ofNat_natAbs_of_nonpos (by omega), Int.neg_ediv_of_dvd hg]
theorem low_ne {a b : Int} (hb : b ≠ 0) : (Int.gcd a b : Int) * (if 0 < b then 1 else -1) ≠ 0 := by
  have : Int.gcd a b ≠ 0 := by
    intro h
    rw [Int.gcd_eq_zero_iff] at h
    exact hb h.2
  split <;> omega
theorem low_sz {n : Nat} {a b : Int} (hb : b ≠ 0) (h : Sz n b) : Sz n ((Int.gcd a b : Int) * (if 0 < b then 1 else -1)) := by
  refine h.nat ?_
  rw [Int.natAbs_mul]
  have : (if 0 < b then (1 : Int) else -1).natAbs = 1 := by split <;> rfl
  rw [this, Nat.mul_one]
  exact Nat.le_of_dvd (by omega) (Int.natAbs_dvd_natAbs.mpr (Int.gcd_dvd_right ..))
theorem frq_eq {q r : Rat} (h : q = r) : frq q = frq r := congrArg frq h
/-! the worth of a form -/
def wsum : List Rat → List Rat → Rat
  | f :: fs, p :: ps => f * p + wsum fs ps
  | _, _ => 0
theorem wsum_add : ∀ fs os ps : List Rat, fs.length = os.length → wsum (List.zipWith (· + ·) fs os) ps = wsum fs ps + wsum os ps
  | [], [], ps, _ => by simp [wsum, Rat.add_zero]
  | f :: fs, o :: os, [], _ => by simp [wsum, Rat.add_zero]
  | f :: fs, o :: os, p :: ps, h => by
    have ih := wsum_add fs os ps (Nat.succ.inj h)
    show (f + o) * p + wsum (List.zipWith (· + ·) fs os) ps = (f * p + wsum fs ps) + (o * p + wsum os ps)
    rw [ih]
    grind
theorem wsum_take : ∀ (fs ps : List Rat) (n : Nat), fs.length ≤ n → wsum fs (ps.take n) = wsum fs ps
  | [], ps, n, _ => by simp [wsum]
  | f :: fs, [], n, _ => by simp
  | f :: fs, p :: ps, 0, h => by simp at h
  | f :: fs, p :: ps, n + 1, h => by
    show wsum (f :: fs) (p :: ps.take n) = _
    simp only [wsum]
    rw [wsum_take fs ps n (by simpa using h)]
theorem SQ.wsum {m n : Nat} : ∀ {fs ps : List Rat}, (∀ q ∈ fs, SQ m q) → (∀ q ∈ ps, SQ n q) → SQ (fs.length * (m + n + 1) + 1) (wsum fs ps)
  | [], ps, _, _ => by simpa [GH.wsum] using SQ.zero
  | f :: fs, [], _, _ => by
    simp only [GH.wsum]
    exact SQ.zero.mono (by omega)
  | f :: fs, p :: ps, h1, h2 => by
    have a := ((h1 f List.mem_cons_self).mul (h2 p List.mem_cons_self)).add (SQ.wsum (fs := fs) (ps := ps) (fun q hq => h1 q (List.mem_cons_of_mem _ hq)) (fun q hq => h2 q (List.mem_cons_of_mem _ hq)))
    refine a.mono ?_
    rw [List.length_cons, Nat.add_mul]
    omega
end GH
namespace GH
open PySem L2
/-! ### how long a text of data is -/
mutual
def szt : PyData → Nat
  | .int i => i.natAbs.log2 + 3
  | .list xs => szts xs + 3
  | .tuple xs => szts xs + 3
  | .str x => (reprText x).length
  | .dict kvs => sztk kvs + 3
  | _ => 5
def szts : List PyData → Nat
  | [] => 0
  | x :: xs => szt x + 2 + szts xs
def sztk : List (PyData × PyData) → Nat
  | [] => 0
  | (k, v) :: r => szt k + szt v + 4 + sztk r
end
mutual
theorem shown_szt : ∀ d : PyData, bigS d = true → d.shown.length ≤ szt d
  | .none, _ => by
    have e : (PyData.shown .none).length = 4 := rfl
    simp only [szt]
    omega
  | .bool b, _ => by
    have e : (PyData.shown (.bool b)).length ≤ 5 := by cases b <;> decide
    simp only [szt]
    omega
  | .int i, h => by
    have e := int_text_length_le (k := i.natAbs.log2 + 1) (a := i) (by omega) (by omega)
    simp only [szt, PyData.shown]
    rw [ofString_length]
    omega
  | .str x, h => by
    simp only [szt, PyData.shown]
    exact Nat.le_refl _
  | .list xs, h => by
    have h1 := shown_szts xs (by simpa only [bigS] using h)
    have h2 := listText_len_le (PyData.shownAll xs)
    simp only [szt, PyData.shown]
    omega
  | .tuple xs, h => by
    have h1 := shown_szts xs (by simpa only [bigS] using h)
    have h2 := tupleText_len_le (PyData.shownAll xs)
    simp only [szt, PyData.shown]
    omega
  | .dict kvs, h => by
    have h1 := shown_sztk kvs (by simpa only [bigS] using h)
    have h2 := dictText_len_le (PyData.shownKv kvs)
    simp only [szt, PyData.shown]
    omega
theorem shown_szts : ∀ ds : List PyData, bigSs ds = true → ((PyData.shownAll ds).map (·.length)).sum + 2 * (PyData.shownAll ds).length ≤ szts ds
  | [], _ => by simp [PyData.shownAll, szts]
  | d :: ds, h => by
    rw [bigSs, Bool.and_eq_true] at h
    have h1 := shown_szt d h.1
    have h2 := shown_szts ds h.2
    simp only [PyData.shownAll, szts, List.map_cons, List.sum_cons, List.length_cons]
    omega
theorem shown_sztk : ∀ ds : List (PyData × PyData), bigKv ds = true → ((PyData.shownKv ds).map (·.length)).sum + 2 * (PyData.shownKv ds).length ≤ sztk ds
  | [], _ => by simp [PyData.shownKv, sztk]
  | (k, v) :: ds, h => by
    rw [bigKv, Bool.and_eq_true, Bool.and_eq_true] at h
    have h1 := shown_szt k h.1.1
    have h2 := shown_szt v h.1.2
    have h3 := shown_sztk ds h.2
    have e : (": " : Str).length = 2 := rfl
    simp only [PyData.shownKv, sztk, List.map_cons, List.sum_cons, List.length_cons]
    rw [strLen_append, strLen_append]
    omega
end
/-- shown, with n signs at the most and of depth k at the most -/
def Ro (n k : Nat) (q : PyData) : Prop := bigS q = true ∧ szt q ≤ n ∧ q.depth ≤ k
theorem Ro.ok {n k : Nat} {q : PyData} (h : Ro n k q) (hn : n ≤ 16777216) (hk : k ≤ 60) : reprOk q = true := by
  obtain ⟨h1, h2, h3⟩ := h
  have := shown_szt q h1
  have e : sizeLine = 16777216 := by decide
  unfold reprOk
  simp only [Bool.and_eq_true, decide_eq_true_eq]
  exact ⟨⟨h1, by omega⟩, by omega⟩
theorem Ro.int {n : Nat} {i : Int} (h : Sz n i) (hn : n < 12899) : Ro (n + 4) 0 (.int i) := by
  have := (h.mono (Nat.le_succ n)).log2 (Nat.succ_pos _)
  refine ⟨?_, ?_, ?_⟩
  · simp only [bigS, decide_eq_true_eq]; omega
  · simp only [szt]; omega
  · simp [PyData.depth]
theorem Ro.mono {n k n' k' : Nat} {q : PyData} (h : Ro n k q) (hn : n ≤ n') (hk : k ≤ k') : Ro n' k' q := ⟨h.1, Nat.le_trans h.2.1 hn, Nat.le_trans h.2.2 hk⟩
theorem Ro.all {n k : Nat} : ∀ {qs : List PyData}, (∀ q ∈ qs, Ro n k q) → bigSs qs = true ∧ szts qs ≤ qs.length * (n + 2) ∧ PyData.depthAll qs ≤ k
  | [], _ => ⟨rfl, by simp [szts], by simp [PyData.depthAll]⟩
  | q :: qs, h => by
    obtain ⟨h1, h2, h3⟩ := h q List.mem_cons_self
    obtain ⟨h4, h5, h6⟩ := Ro.all (qs := qs) fun r hr => h r (List.mem_cons_of_mem _ hr)
    refine ⟨by rw [bigSs, h1, h4]; rfl, ?_, ?_⟩
    · simp only [szts, List.length_cons]
      rw [Nat.add_mul]
      omega
    · simp only [PyData.depthAll]
      omega
theorem Ro.list {n k : Nat} {qs : List PyData} (h : ∀ q ∈ qs, Ro n k q) : Ro (qs.length * (n + 2) + 3) (k + 1) (.list qs) := by
  obtain ⟨h1, h2, h3⟩ := Ro.all h
  refine ⟨by simpa only [bigS] using h1, by simp only [szt]; omega, by simp only [PyData.depth]; omega⟩
theorem Ro.tup {n k : Nat} {qs : List PyData} (h : ∀ q ∈ qs, Ro n k q) : Ro (qs.length * (n + 2) + 3) (k + 1) (.tuple qs) := by
  obtain ⟨h1, h2, h3⟩ := Ro.all h
  refine ⟨by simpa only [bigS] using h1, by simp only [szt]; omega, by simp only [PyData.depth]; omega⟩
theorem Ro.frq {n : Nat} {q : Rat} (h : SQ n q) (hn : n < 12899) : Ro (2 * n + 20) 1 (frq q) := by
  refine (Ro.tup (n := n + 4) (k := 0) fun x hx => ?_).mono (by simp; omega) (by omega)
  rcases List.mem_cons.mp hx with rfl | hx
  · exact .int h.1 hn
  · rw [List.mem_singleton] at hx
    subst hx
    exact .int h.2 hn
abbrev frs (qs : List Rat) : PyData := .tuple (qs.map GH.frq)
theorem Ro.frs {n : Nat} {qs : List Rat} (h : ∀ q ∈ qs, SQ n q) (hn : n < 12899) : Ro (qs.length * (2 * n + 22) + 3) 2 (frs qs) := by
  have := Ro.tup (n := 2 * n + 20) (k := 1) (qs := qs.map GH.frq) fun x hx => by
    obtain ⟨q, hq, rfl⟩ := List.mem_map.mp hx
    exact .frq (h q hq) hn
  rwa [List.length_map] at this
variable {QD : D → Prop} {d : D} {q : PyData}
theorem w_repr (hz : fz d = some q) (h : reprOk q = true) (k : QD (.p (.str q.shown))) : wO (reprD d) QD := ⟨_, by unfold reprD; rw [hz]; show (if _ then _ else _) = _; rw [if_pos h], k⟩
theorem w_neS {a b : Str} (k : QD (.p (.bool (!decide (a = b))))) : wO (neD (.p (.str a)) (.p (.str b))) QD := by
  have e : PyData.eqv (.str a) (.str b) = decide (a = b) := by
    simp only [PyData.eqv]
    rw [Bool.eq_iff_iff]
    simp
  refine ⟨_, ?_, k⟩
  show (if eqOk (.str a) (.str b) = true then some (D.p (.bool (!PyData.eqv (.str a) (.str b)))) else none) = _
  rw [if_pos (show eqOk (.str a) (.str b) = true from rfl), e]
theorem w_eqS {a b : Str} (k : QD (.p (.bool (decide (a = b))))) : wO (eqD (.p (.str a)) (.p (.str b))) QD := by
  have e : PyData.eqv (.str a) (.str b) = decide (a = b) := by
    simp only [PyData.eqv]
    rw [Bool.eq_iff_iff]
    simp
  refine ⟨_, ?_, k⟩
  show (if eqOk (.str a) (.str b) = true then some (D.p (.bool (PyData.eqv (.str a) (.str b)))) else none) = _
  rw [if_pos (show eqOk (.str a) (.str b) = true from rfl), e]
end GH
namespace GH
open PySem L2
/-! ### the simplest fraction between two -/
abbrev pr (p : Int × Int) : PyData := .tuple [.int p.1, .int p.2]
/-- x/y lies strictly between; h none: no upper end -/
def Btw (a b : Int) (h : Option (Int × Int)) (x y : Int) : Prop := a * y < x * b ∧ ∀ e, h = some e → x * e.2 < e.1 * y
/-- p/q lies between, and is the least in both parts of all that do -/
def Simp (a b : Int) (h : Option (Int × Int)) (p q : Int) : Prop := 0 < p ∧ 0 < q ∧ Btw a b h p q ∧ ∀ x y, 0 < y → Btw a b h x y → p ≤ x ∧ q ≤ y
theorem Simp.base {a b w : Int} {h : Option (Int × Int)} (hb : 0 < b) (hw : 0 ≤ w) (h1 : w * b ≤ a) (h2 : a < (w + 1) * b) (h3 : ∀ e, h = some e → (w + 1) * e.2 < e.1) : Simp a b h (w + 1) 1 := by
  refine ⟨by omega, by decide, ⟨by omega, fun e he => by have := h3 e he; omega⟩, fun x y hy hx => ?_⟩
  have e1 := hx.1
  have e2 : w * y * b < x * b := Int.lt_of_le_of_lt (by
    have := Int.mul_le_mul_of_nonneg_right h1 (Int.le_of_lt hy)
    grind) e1
  have e3 : w * y < x := Int.lt_of_mul_lt_mul_right e2 (Int.le_of_lt hb)
  have e4 : w * 1 ≤ w * y := Int.mul_le_mul_of_nonneg_left (by omega) hw
  omega
theorem Simp.step {a b w c d p q : Int} (hb : 0 < b) (hd : 0 < d) (hw : 0 ≤ w) (h1 : w * b ≤ a) (h3 : c ≤ (w + 1) * d)
    (s : Simp d (c - w * d) (if 0 < a - w * b then some (b, a - w * b) else none) p q) : Simp a b (some (c, d)) (w * p + q) p := by
  obtain ⟨p0, q0, ⟨b1, b2⟩, mn⟩ := s
  have wp : 0 ≤ w * p := Int.mul_nonneg hw (Int.le_of_lt p0)
  refine ⟨by omega, p0, ⟨?_, ?_⟩, fun x y hy hx => ?_⟩
  · by_cases h : 0 < a - w * b
    · have := b2 _ (if_pos h)
      dsimp only at this
      grind
    · have e : a = w * b := by omega
      subst e
      have : 0 < q * b := Int.mul_pos q0 hb
      grind
  · rintro e he
    cases he
    dsimp only
    grind
  · have x1 := hx.1
    have x2 := hx.2 _ rfl
    dsimp only at x2
    have e1 : w * y * b < x * b := Int.lt_of_le_of_lt (by
      have := Int.mul_le_mul_of_nonneg_right h1 (Int.le_of_lt hy)
      grind) x1
    have e2 : w * y < x := Int.lt_of_mul_lt_mul_right e1 (Int.le_of_lt hb)
    have := mn y (x - w * y) (by omega) ⟨by grind, fun e he => by
      by_cases h : 0 < a - w * b
      · rw [if_pos h] at he
        cases he
        dsimp only
        grind
      · rw [if_neg h] at he
        cases he⟩
    obtain ⟨m1, m2⟩ := this
    have := Int.mul_le_mul_of_nonneg_left m1 hw
    omega
def wfold (ws : List Int) (r : Int × Int) : Int × Int := ws.foldr (fun w r => (w * r.1 + r.2, r.1)) r
theorem wfold_ge : ∀ (ws : List Int) (r : Int × Int) (n : Int), (∀ w ∈ ws, 0 ≤ w) → 0 < r.1 → 0 < r.2 → (wfold ws r).1 ≤ n → (wfold ws r).2 ≤ n → r.1 ≤ n ∧ r.2 ≤ n
  | [], r, n, _, _, _, h1, h2 => ⟨h1, h2⟩
  | w :: ws, r, n, hw, r1, r2, h1, h2 => by
    have h1' : w * (wfold ws r).1 + (wfold ws r).2 ≤ n := h1
    have h2' : (wfold ws r).1 ≤ n := h2
    have p : ∀ ws : List Int, (∀ w ∈ ws, 0 ≤ w) → 0 < (wfold ws r).1 ∧ 0 < (wfold ws r).2 := by
      intro ws
      induction ws with
      | nil => exact fun _ => ⟨r1, r2⟩
      | cons w ws ih =>
        intro h
        obtain ⟨i1, i2⟩ := ih fun x hx => h x (List.mem_cons_of_mem _ hx)
        have := Int.mul_nonneg (h w List.mem_cons_self) (Int.le_of_lt i1)
        exact ⟨show 0 < w * (wfold ws r).1 + (wfold ws r).2 by omega, i1⟩
    obtain ⟨i1, i2⟩ := p ws fun x hx => hw x (List.mem_cons_of_mem _ hx)
    have := Int.mul_nonneg (hw w List.mem_cons_self) (Int.le_of_lt i1)
    exact wfold_ge ws r n (fun x hx => hw x (List.mem_cons_of_mem _ hx)) r1 r2 h2' (by omega)
theorem wfold_snoc (ws : List Int) (v : Int) (r : Int × Int) : wfold (ws ++ [v]) r = wfold ws (v * r.1 + r.2, r.1) := by
  unfold wfold
  rw [List.foldr_append]
  rfl
theorem Simp.med {a b c d p q : Int} (hb : 0 < b) (hd : 0 < d) (h : a * d < c * b) (s : Simp a b (some (c, d)) p q) : p ≤ a + c ∧ q ≤ b + d := by
  obtain ⟨_, _, _, mn⟩ := s
  refine mn (a + c) (b + d) (by omega) ⟨by grind, fun e he => ?_⟩
  cases he
  dsimp only
  grind
theorem Simp.uniq {a b : Int} {h : Option (Int × Int)} {p q p' q' : Int} (s : Simp a b h p q) (s' : Simp a b h p' q') : p = p' ∧ q = q' := by
  have h1 := s.2.2.2 p' q' s'.2.1 s'.2.2.1
  have h2 := s'.2.2.2 p q s.2.1 s.2.2.1
  omega
/-- how the parts shrink from turn to turn -/
theorem halve {a b c d w : Int} (hb : 0 < b) (hd : 0 < d) (hw : 1 ≤ w) (h3 : a < (w + 1) * b) (h4 : c ≤ (w + 1) * d) : 2 * (d * (c - w * d) + b * (a - w * b)) ≤ a * b + c * d := by
  have e1 : b ≤ w * b := by have := Int.mul_le_mul_of_nonneg_right hw (Int.le_of_lt hb); omega
  have e2 : d ≤ w * d := by have := Int.mul_le_mul_of_nonneg_right hw (Int.le_of_lt hd); omega
  have f1 : b * (a - w * b) ≤ b * (w * b) := Int.mul_le_mul_of_nonneg_left (by grind) (Int.le_of_lt hb)
  have f2 : d * (c - w * d) ≤ d * (w * d) := Int.mul_le_mul_of_nonneg_left (by grind) (Int.le_of_lt hd)
  grind
theorem shrink {a b c d w : Int} (hb : 0 < b) (hd : 0 < d) (hw : 0 ≤ w) (h3 : a < (w + 1) * b) (h4 : c ≤ (w + 1) * d) (ha : 0 ≤ a - w * b) (hc : 0 ≤ c - w * d) : d * (c - w * d) + b * (a - w * b) ≤ a * b + c * d := by
  by_cases h : 1 ≤ w
  · have := halve hb hd h h3 h4
    have h1 : 0 ≤ d * (c - w * d) := Int.mul_nonneg (by omega) hc
    have h2 : 0 ≤ b * (a - w * b) := Int.mul_nonneg (by omega) ha
    omega
  · obtain rfl : w = 0 := by omega
    grind
theorem turns_le {k m : Nat} {M N : Int} (h : 2 ^ k * M ≤ 2 * N) (hM : 1 ≤ M) (hN : Sz m N) : k ≤ m + 1 := by
  have h1 : (2 : Int) ^ k = ((2 ^ k : Nat) : Int) := by simp
  have h3 : 2 ^ k < 2 ^ (m + 1) := by
    unfold Sz at hN
    rw [Nat.pow_succ]
    rw [h1] at h
    generalize 2 ^ k = P at *
    have h2 : (P : Int) * 1 ≤ P * M := Int.mul_le_mul_of_nonneg_left hM (by omega)
    omega
  have := (Nat.pow_lt_pow_iff_right (show 1 < 2 by decide)).mp h3
  omega
theorem shrunk {k : Nat} {a b c d w N : Int} (hb : 0 < b) (hd : 0 < d) (hw : 0 ≤ w) (h3 : a < (w + 1) * b) (h4 : c ≤ (w + 1) * d) (ha : 0 ≤ a - w * b) (hc : 0 ≤ c - w * d)
    (h : (k = 0 ∧ a * b + c * d ≤ N) ∨ (b ≤ a ∧ 2 ^ k * (a * b + c * d) ≤ 2 * N)) : 2 ^ (k + 1) * (d * (c - w * d) + b * (a - w * b)) ≤ 2 * N := by
  rcases h with ⟨rfl, h⟩ | ⟨h1, h⟩
  · have := shrink hb hd hw h3 h4 ha hc
    omega
  · have w1 : 1 ≤ w := by
      rcases Int.lt_or_le w 1 with h' | h'
      · obtain rfl : w = 0 := by omega
        omega
      · exact h'
    have := halve hb hd w1 h3 h4
    have p : (0 : Int) ≤ 2 ^ k := Int.le_of_lt (Int.pow_pos (by decide))
    have := Int.mul_le_mul_of_nonneg_left this p
    rw [Int.pow_succ]
    grind
theorem Sz.le {n : Nat} {a b : Int} (h : Sz n b) (h0 : 0 ≤ a) (h1 : a ≤ b) : Sz n a := h.nat (by omega)
/-- the one the program tells, of any two -/
def Mid (a b c d p q : Int) : Prop := (a < 0 ∧ 0 < c ∧ p = 0 ∧ q = 1) ∨ (a < 0 ∧ c ≤ 0 ∧ Simp (-c) d (some (-a, b)) (-p) q) ∨ (0 ≤ a ∧ Simp a b (some (c, d)) p q)
theorem Mid.uniq {a b c d p q p' q' : Int} (h : Mid a b c d p q) (h' : Mid a b c d p' q') : p = p' ∧ q = q' := by
  rcases h with ⟨h1, h2, h3, h4⟩ | ⟨h1, h2, h3⟩ | ⟨h1, h3⟩ <;> rcases h' with ⟨h1', h2', h3', h4'⟩ | ⟨h1', h2', h3'⟩ | ⟨h1', h3'⟩ <;> first | omega | skip
  · have := h3.uniq h3'
    omega
  · exact h3.uniq h3'
theorem Mid.btw {a b c d p q : Int} (h : Mid a b c d p q) : 0 < q ∧ a * q < p * b ∧ p * d < c * q := by
  rcases h with ⟨h1, h2, rfl, rfl⟩ | ⟨h1, h2, h3⟩ | ⟨h1, h3⟩
  · omega
  · have b1 := h3.2.2.1.1
    have b2 := h3.2.2.1.2 _ rfl
    dsimp only at b2
    refine ⟨h3.2.1, ?_, ?_⟩ <;> grind
  · exact ⟨h3.2.1, h3.2.2.1.1, h3.2.2.1.2 _ rfl⟩
theorem Mid.least {a b c d p q x y : Int} (h : Mid a b c d p q) (hy : 0 < y) (h1 : a * y < x * b) (h2 : x * d < c * y) : q ≤ y := by
  rcases h with ⟨_, _, rfl, rfl⟩ | ⟨_, _, h3⟩ | ⟨_, h3⟩
  · omega
  · refine (h3.2.2.2 (-x) y hy ⟨by grind, fun e he => ?_⟩).2
    cases he
    dsimp only
    grind
  · refine (h3.2.2.2 x y hy ⟨h1, fun e he => ?_⟩).2
    cases he
    exact h2
theorem Mid.sz {a b c d p q : Int} {n : Nat} (hb : 0 < b) (hd : 0 < d) (hlt : a * d < c * b) (h : Mid a b c d p q) (hs : Sz n ((a.natAbs : Int) + b + c.natAbs + d)) : Sz n p ∧ Sz n q ∧ q ≤ b + d := by
  rcases h with ⟨_, _, rfl, rfl⟩ | ⟨_, _, h3⟩ | ⟨_, h3⟩
  · exact ⟨hs.nat (by omega), hs.nat (by omega), by omega⟩
  · have := h3.med hd hb (by grind)
    have := h3.1
    have := h3.2.1
    exact ⟨hs.nat (by omega), hs.nat (by omega), by omega⟩
  · have := h3.med hb hd hlt
    have := h3.1
    have := h3.2.1
    exact ⟨hs.nat (by omega), hs.nat (by omega), by omega⟩
/-- neighbours -/
theorem Simp.nei {a b c d : Int} (ha : 0 ≤ a) (hb : 0 < b) (hc : 0 ≤ c) (hd : 0 < d) (h : c * b - a * d = 1) (h0 : 0 < a + c) : Simp a b (some (c, d)) (a + c) (b + d) := by
  refine ⟨h0, by omega, ⟨by grind, fun e he => ?_⟩, fun x y hy hx => ?_⟩
  · cases he
    dsimp only
    grind
  · have x1 := hx.1
    have x2 := hx.2 _ rfl
    dsimp only at x2
    have u1 : 1 ≤ x * b - a * y := by omega
    have u2 : 1 ≤ c * y - x * d := by omega
    have ey : y = b * (c * y - x * d) + d * (x * b - a * y) := by grind
    have ex : x = a * (c * y - x * d) + c * (x * b - a * y) := by grind
    have f1 := Int.mul_le_mul_of_nonneg_left u2 (Int.le_of_lt hb)
    have f2 := Int.mul_le_mul_of_nonneg_left u1 (Int.le_of_lt hd)
    have f3 := Int.mul_le_mul_of_nonneg_left u2 ha
    have f4 := Int.mul_le_mul_of_nonneg_left u1 hc
    omega
end GH
namespace GH
open PySem L2 PySem.Spec
/-! ### errors of one's own: class B(ValueError): pass; class C(B): def __init__(self): B.__init__(self, "..") -/
section
variable {X : Cx} {ta : TA} {e : Expr} {es : List Expr} {p p1 p2 pos : Pos} {L C fI : Addr} {b : Str}
theorem pe_binit {pl : Sem Bool} (hg : Gl X b) (hm : X.mg b = some (.ref L)) (gL : PySem.W.specialIn X.K (.ref L) "__getattribute__" = some (some (.builtin "type.__getattribute__"))) (rL : PySem.W.readsIn X.K L (.type "type") = true)
    (iL : PySem.W.findCls X.K (.ref L) (.type "type") "__init__" = some (.val (.builtin "ValueError.__init__"))) (ha : PA X (e :: es) ta) (hdb : (b == ("__debug__" : Str)) = false := by decide)
    (hc : eval (.Call (.Attribute (.Name b p1) "__init__" p2) (e :: es) [] pos) X.env = (do
      let ov ← eval (.Name b p1) X.env
      standAt p2.atName
      let (f, first) ← holding [ov] (getMethod ov "__init__" pl)
      callWith pos f first (backTo pos (starEach (e :: es) X.env)) (backToKw pos (keywordEach [] X.env))) := by rfl)
    (he : starEach (e :: es) X.env = (false, eval e X.env) :: starEach es X.env := by rfl) (hpl : (backTo pos (starEach es X.env)).any (·.1) = false := by rfl) :
    PE X (.Call (.Attribute (.Name b p1) "__init__" p2) (e :: es) [] pos) (tVeI X.K ta) := by
  refine ⟨fun pins s σ H Q I h => ?_⟩
  refine PySem.W.methodCall_KW (ld_glob I hg hm ?_ hdb) hc
  refine PySem.W.method_cls I.kIn gL ?_
  refine PySem.W.cls_value I.kIn rL iL rfl ?_
  show wpAny _ _ (callWith pos (Value.builtin "ValueError.__init__") [] (backTo pos (starEach (e :: es) X.env)) []) _ _ _
  refine PyProof.Rows.callWith_method1 (thn (ha.run pos pins _ σ H _ (I.tok _) h) fun us s1 ⟨vs, H1, I1, r1, a, C, ws, ev, hl, T, ea, q⟩ => ?_) he hpl
  subst ev
  cases r1 with
  | @cons _ u0 _ ur ra rw' =>
    obtain rfl : u0 = Value.ref a := ra
    have hlen : ur.length ≤ sizeLine := by
      rw [← Paired.length rw', sizeLine_eq]
      omega
    exact oinit_ok T I1 ea hlen fun s' J => ⟨.non, H1, J, rfl, q⟩
/-- what such an __init__ keeps -/
def spInit (C : Addr) : Sp := fun vs H Q _ => ∃ a, vs = [.ref a] ∧ H a = some (exo a C none) ∧ Q .non H
/-- the end of C(): the exception is let go -/
theorem mk_endN {pins : List (Addr × Obj)} {σ : L2.St} {H1 : Hp} {Q : XK} {hp hp2 h2 : Heap} {g1 g2 : Array GenState} {d1 d2 : Drawn} {t1 t2 : Nat} {os1 os2 : OsState} {a : Addr} (T : Raises X (.ref C)) (I1 : Inv X pins σ H1 ⟨hp, g1, d1, t1, os1⟩)
    (ha : hp.objs.size ≤ a) (k : ∀ b o, hp.get? b = some o → hp2.get? b = some o) (un : Un (L2.frs X.stack) [] (upd H1 a (exo a C none)) (upd H1 a (exo a C none)) hp2 h2) (hok : HOk X.prog X.w (upd H1 a (exo a C none)) h2) (ho : os2 = os1) (hb : PyProof.Rows.AllBare g2)
    (q : Q (.ref C) none H1) : MkP X pins σ Q (.ref a) ⟨h2, g2, d2, t2, os2⟩ := by
  have hn : H1 a = none := I1.hok.fresh ha
  obtain ⟨t0, hoe⟩ := exo_at hok upd_same
  obtain ⟨G, g1', g2'⟩ := restrict h2 fun b => decide (b ≠ a)
  have gk : ∀ b, b ≠ a → G.get? b = h2.get? b := fun b hb => g1' b (decide_eq_true hb)
  have ge : G.get? a = none := g2' a (by simp)
  have nha : ∀ {b : Addr} {o : Obj}, hp.get? b = some o → b ≠ a := fun {b o} z => Nat.ne_of_lt (Nat.lt_of_lt_of_le (Heap.lt_size z) ha)
  have U : Un (L2.frs X.stack) [] H1 H1 hp G := {
    keep := fun b o z n hf hx => by
      rw [gk b (nha z)]
      exact un.keep b o (k b o z) (by rw [upd_ne (nha z)]; exact n) hf hx
    slot := fun b o z n hf hx => by
      rw [gk b (nha z)]
      exact un.slot b o (k b o z) (by rw [upd_ne (nha z)]; exact n) hf hx
    free := fun b o z n hx => n
    there := fun b o z hx => by
      rw [gk b (nha z)]
      exact un.there b o (k b o z) hx
    tups := fun b xs z => z
    frzs := fun b o v z => z
    tbls := fun b ps z => ⟨#[], by simpa using z⟩ }
  have hok3 : HOk X.prog X.w H1 G := fun b o z => by
    have hba : b ≠ a := fun e => by
      rw [e, hn] at z
      cases z
    have noa : ∀ {c : Addr} {u : HO}, H1 c = some u → c ≠ a := fun {c u} hc e => by
      rw [e, hn] at hc
      cases hc
    have z2 : (upd H1 a (exo a C none)) b = some o := by
      rw [upd_ne hba]
      exact z
    exact (hok b o z2).stay (fun c v hc y => by
        have hca : c ≠ a := by
          rcases hc with hc | hc
          · rw [hc]
            exact hba
          · exact at_ne upd_same hc exo_own
        rw [gk c hca]
        exact y)
      (fun c hc => by rw [upd_ne (at_ne upd_same hc exo_own)] at hc; exact hc) (fun c xs hc => by rw [upd_ne (at_ne upd_same hc exo_tup)] at hc; exact hc)
  have J : Inv X pins σ H1 ⟨G, g2, d2, t2, os2⟩ := I1.call' (ch := []) ho U hok3 hb (fun b z => absurd z (by simp))
  refine ⟨a, _, _, ⟨G, g2, d2, t2, os2⟩, _, .ref C, none, rfl, J, fun b o z => ?_, ge, hoe, ⟨rfl, rfl⟩, rfl, rfl, hn, rfl, hb, T, q⟩
  by_cases hba : b = a
  · rw [hba, ge] at z
    cases z
  · exact (gk b hba).symm.trans z
theorem pmk_ex0 {x : Str} {k : Nat} {fd : FuncData} (T : OexC X.K C) (iC : PySem.W.findIn X.K (.ref C) "__init__" = some (some (.ref fI))) (tI : PySem.W.typeIn X.K (.ref fI) = some (.type "function"))
    (F1 : FnG X.prog X.w X.K X.mg X.base CX0 k fI fd ["self"] (spInit C)) (gd : X.A.guards = some []) (hr : Room (k + 1) X.A) (hb : Binds X.K fd ["self"] []) (hg : Gl X x) (hm : X.mg x = some (.ref C)) (hdb : (x == ("__debug__" : Str)) = false := by decide) :
    PMk X (.Call (.Name x p) [] [] pos) (fun σ H Q => Q (.ref C) none H) := by
  intro pins s σ H Q I h
  obtain ⟨nm, q, N, bs, bm, sn, sub, ab, col, dd, k0, k1, k2, k3, k5, hC, hbm⟩ := T.cls
  refine wpAny_Call_Name_kw (ld_glob I hg hm ?_ hdb)
  refine PySem.W.callWith_K0 I.kIn T.kC ?_
  show wpAny _ _ (call (.ref C) []) _ _ _
  obtain ⟨hp, g, dr, tk, os⟩ := s
  have hsz : hp.objs.size ≤ hp.objs.size + 1 := Nat.le_succ _
  have hn : H (hp.objs.size + 1) = none := I.hok.fresh hsz
  have kk : ∀ b o, hp.get? b = some o → ((hp.push (PySem.W.kdv_tup [])).push (PySem.HandSPX.excO C hp.objs.size)).get? b = some o := fun b o e => Heap.get?_push_of_some _ (Heap.get?_push_of_some _ e)
  have hget : ((hp.push (PySem.W.kdv_tup [])).push (PySem.HandSPX.excO C hp.objs.size)).get? (hp.objs.size + 1) = some (PySem.HandSPX.excO C hp.objs.size) := by heap_get
  have I2 : Inv X pins σ (upd H (hp.objs.size + 1) (exo (hp.objs.size + 1) C none)) ⟨(hp.push (PySem.W.kdv_tup [])).push (PySem.HandSPX.excO C hp.objs.size), g, dr, tk, os⟩ :=
    I.laid (t' := tk) (a := hp.objs.size + 1) (o := exo (hp.objs.size + 1) C none) (h' := (hp.push (PySem.W.kdv_tup [])).push (PySem.HandSPX.excO C hp.objs.size)) kk hsz (exo_ok hget)
  have r2 : Vals [V.ref (hp.objs.size + 1)] [Value.ref (hp.objs.size + 1)] := .cons rfl .nil
  refine wpAny_call (PySem.HandSPX.call_own F.excBase_ValueError (fun Y => PySem.HandSPX.refsVE_contains Y bm hbm) (I.kIn _ _ hC) (PySem.W.looks_findIn I.kIn iC) (fun self => PySem.W.bind_fn I.kIn self tI) (Nat.zero_le _)
    (codeAny_mono (F1.go _ X.stack _ _ ⟨[Value.ref (hp.objs.size + 1)], []⟩ [Value.ref (hp.objs.size + 1)] _ (fun v H2 => v = .non ∧ H2 = upd H (hp.objs.size + 1) (exo (hp.objs.size + 1) C none)) (fun _ _ _ => False) gd (hr.make C [] []) (I2.env0.make C [] []) (by
        have b := hb _ [Value.ref (hp.objs.size + 1)] I2.kIn rfl
        rwa [List.append_nil] at b) r2 ⟨_, rfl, upd_same, rfl, rfl⟩) fun r s' hq' => ?_))
  cases r with
  | error er => exact hq'.elim
  | ok fl =>
    cases fl with
    | ret u =>
      obtain ⟨v, H2, os2, bare2, un2, hok2, rv, ev, eH⟩ := hq'
      subst ev
      subst eH
      obtain ⟨h2, g2, d2, t2, os'⟩ := s'
      exact ⟨rv, mk_endN (raises_own T.exC T.tyC) I hsz kk un2 hok2 os2 bare2 h⟩
    | next => exact False.elim hq'
    | brk => exact False.elim hq'
    | cont => exact False.elim hq'
end
end GH
namespace GH
open PySem L2 PySem.Spec
/-- what a def promises where it raises the error of the class at C -/
def spR (K : PySem.W.Frag) (C : Addr) (rz : List D → Bool) : Sp := fun vs H _ E => ∃ ds X, ds.length = vs.length ∧ SL K H (ds.zip vs ++ X) ∧ rz ds = true ∧ ∀ H', SL K H' X → E (.ref C) none H'
/-- a def that begins with: if c: raise C() -/
theorem raise_first {P : Program} {w : World} {K : PySem.W.Frag} {mg : Str → Option Value} {base : Heap} {x qual : Str} {st : Stmt} {f C : Addr} {fd : FuncData} {N ps : List Str} {k m : Nat} (F : Fun K x qual st f fd) (S : FnScope N ps (defScope st)) (hm : ps.length = m)
    {c r : Expr} {rest : List Stmt} {p1 p2 : Pos} {ct : MT} {rz : List D → Bool} (hbd : defBody st = .If c [.Raise (some r) none p1] [] p2 :: rest)
    (hb : ∀ (cdv : Value) (A : Around) (outer : List PySem.Env) (s : Shared) (H : Hp) (E : XK), A.guards = some [] → Room k (A.deeper (PyProof.Rows.envOfC qual (defScope st) s.heap.objs.size f cdv)) →
      PT (cxOf (L2.CX P w) P w K mg base N qual (defScope st) f cdv A outer s H E) c (okT K ct) ∧ PMk (cxOf (L2.CX P w) P w K mg base N qual (defScope st) f cdv A outer s H E) r (fun _ H Q => Q (.ref C) none H))
    (hrz : ∀ ds, rz ds = true → ds.length = m ∧ ∃ Γ', ct (ds.map some ++ List.replicate (N.length - m) none) = some (true, Γ')) :
    FnG P w K mg base (L2.CX P w) (k + 1) f fd ps (spR K C rz) := by
  refine defG F S (fun vs H Q E h => ?_) fun cdv A outer s H vs Q E hgd hr h => ?_
  · obtain ⟨ds, X, hl, S1, e, k⟩ := h
    rw [← hl, (hrz ds e).1, hm]
  · obtain ⟨hc, hk⟩ := hb cdv A outer s H E hgd hr
    rw [hbd]
    refine ⟨_, pss_cons (ps_if hc (pss_one (ps_raise (W := fun cls d _ H => E cls d H) rfl (takes_of rfl rfl rfl rfl) hk)) pss_nil) (pss_never (sts := rest)), ?_⟩
    obtain ⟨ds, X, hl, S1, e, k⟩ := h
    obtain ⟨h1, Γ', e1⟩ := hrz ds e
    have est : L2.start N vs = vs.map some ++ List.replicate (N.length - m) none := by
      unfold L2.start
      rw [← hl, h1]
    rw [est]
    exact ⟨_, X, true, Γ', fits_start hl, by rw [slots_start hl]; exact S1, e1, fun H' F' S' => k H' (SL.dropA S')⟩
structure HasR (P : Program) (w : World) (K : PySem.W.Frag) (mg : Str → Option Value) (base : Heap) (k : Nat) (x : Str) (st : Stmt) (ps : List Str) (C : Addr) (rz : List D → Bool) : Prop where
  ex : ∃ f fd, Fun K x x st f fd ∧ FnG P w K mg base (L2.CX P w) k f fd ps (spR K C rz) ∧ mg x = some (.ref f) ∧ PySem.W.keepIn K (.ref f) = true ∧ Binds K fd ps []
/-- an expression that lets an error out -/
def rzE (K : PySem.W.Frag) (C : Addr) (W : WX) (fa : MA) (rz : List D → Bool) (pi : Option (List Nat)) : TE := fun σ H _ => ∃ Γ X ds Γ', Fits Γ σ ∧ SL K H (slots Γ σ ++ X) ∧ fa Γ = some (ds, Γ') ∧
  rz (match pi with | none => ds | some pi => pi.map fun i => ds.getD i (.p .none)) = true ∧ ∀ H', SL K H' X → W (.ref C) none σ H'
section
variable {C : Cx} {Ca : Addr} {k j : Nat} {ps ks : List Str} {x : Str} {st : Stmt} {p pos : Pos} {e : Expr} {es : List Expr} {kws : List Keyword} {fa fk : MA} {ls : List (Option Nat)} {pi : List Nat} {rz : List D → Bool} {W : WX}
theorem ee_callR (h : HasR C.prog C.w C.K C.mg C.base j x st ps Ca rz) (gd : C.A.guards = some []) (hr : Room k C.A) (hjk : j ≤ k) (tk : Takes C W) (hg : Gl C x) (ha : PA C (e :: es) (okA C.K ls fa)) (hdb : (x == ("__debug__" : Str)) = false := by decide)
    (he : starEach (e :: es) C.env = (false, eval e C.env) :: starEach es C.env := by rfl) (hpl : (backTo pos (starEach es C.env)).any (·.1) = false := by rfl) : PE C (.Call (.Name x p) (e :: es) [] pos) (rzE C.K Ca W fa rz none) := by
  obtain ⟨f, fd, F0, F, hm, hk, hb⟩ := h.ex
  constructor
  intro pins s σ H Q I h
  obtain ⟨Γ, X, ds, Γ', F1, S1, e1, e2, k1⟩ := h
  refine wpAny_Call_Name_kw (ld_glob I hg hm ?_ hdb)
  refine PySem.W.callWith_K (h₀ := C.base) I.ok.mod.kin hk (thn (ha.run pos pins s σ H (fun vs H1 => spR C.K Ca rz vs H1 Q (WE W σ)) I ⟨Γ, X, ds, Γ', F1, S1, e1, fun H1 vs F2 hl hL S2 => ⟨ds, slots Γ' σ ++ X, hl, S2, e2, fun H' S' => k1 H' (SL.dropA S')⟩⟩) ?_) he hpl
  rintro us s1 ⟨vs, H1, I1, r, q⟩
  refine ⟨I1.kIn, ?_⟩
  have hl : us.length = ps.length := r.length ▸ F.many _ _ _ _ q
  have b := hb s1 us I1.kIn (by simpa using hl)
  rw [List.append_nil] at b
  refine wpAny_call (codeAny_mono (F.go C.A C.stack s1 H1 ⟨us, []⟩ us vs Q (WE W σ) gd (hr.mono hjk) I1.env0 b r q) ?_)
  intro r s' hq
  match r, hq with
  | .error e, hq => exact passAt tk σ pins H1 s1 e s' I1 hq
  | .ok (.ret u), hq => exact I1.after hq
theorem ee_callRK0 (h : HasR C.prog C.w C.K C.mg C.base j x st ps Ca rz) (gd : C.A.guards = some []) (hr : Room k C.A) (hjk : j ≤ k) (tk : Takes C W) (hg : Gl C x) (hb : KwOk st x ps 0 ks pi) (hp : pi.Perm (List.range (0 + ks.length))) (hkw : PK C kws (okKw C.K fk))
    (hn : ∀ Γ ds Γ', fk Γ = some (ds, Γ') → ds.length = ks.length) (hall : (backToKw pos (keywordEach kws C.env)).all (·.1.isSome) = true := by rfl) (hks : (backToKw pos (keywordEach kws C.env)).filterMap (·.1) = ks := by rfl)
    (hdb : (x == ("__debug__" : Str)) = false := by decide) (hpl : ((backTo pos (starEach [] C.env)).any (·.1) || (backToKw pos (keywordEach kws C.env)).any (·.1.isNone)) = false := by rfl) : PE C (.Call (.Name x p) [] kws pos) (rzE C.K Ca W fk rz (some pi)) := by
  obtain ⟨f, fd, F0, F, hm, hk, _⟩ := h.ex
  have hb := kwB_of F0 hb
  constructor
  intro pins s σ H Q I h
  obtain ⟨Γ, X, ds, Γ', F1, S1, e1, e2, k1⟩ := h
  refine wpAny_Call_Name_kw (ld_glob I hg hm ?_ hdb)
  refine PySem.W.callWith_KW0 (h₀ := C.base) I.ok.mod.kin hk hall (thn (hkw.run pos pins s σ H (fun vs H1 => vs.length = ks.length ∧ spR C.K Ca rz (pi.map fun i => ([] ++ vs).getD i .non) H1 Q (WE W σ)) I ⟨Γ, X, ds, Γ', F1, S1, e1, fun H1 vs F2 hl hL S2 => ⟨by rw [← hl]; exact hn _ _ _ e1, ?_⟩⟩) ?_) hpl
  · refine ⟨pi.map fun i => ds.getD i (.p .none), slots Γ' σ ++ X, by simp, ?_, e2, fun H' S' => k1 H' (SL.dropA S')⟩
    rw [List.nil_append, map_zip]
    have p1 := hp.map fun i => (ds.getD i (.p .none), vs.getD i .non)
    have e4 : 0 + ks.length = ds.length := by rw [hn _ _ _ e1, Nat.zero_add]
    rw [e4, zip_range hl] at p1
    exact S2.perm (p1.symm.append_right _)
  rintro ws s2 ⟨zs, H2, I2, rz2, l2, q2⟩
  refine ⟨I2.kIn, ?_⟩
  rw [hks]
  refine wpAny_call (codeAny_mono (F.go C.A C.stack s2 H2 _ _ _ Q (WE W σ) gd (hr.mono hjk) I2.env0 (hb.to s2 [] ws I2.kIn rfl (by rw [← rz2.length]; exact l2)) (vals_pi (Vals.append .nil rz2) pi) q2) ?_)
  intro r s' hq
  match r, hq with
  | .error e, hq => exact passAt tk σ pins H2 s2 e s' I2 hq
  | .ok (.ret u), hq => exact I2.after hq
end
/-- the start of a def's body, by its data -/
theorem run_start {K : PySem.W.Frag} {vs : List V} {H : Hp} {Q : VK} {N : List Str} {m : Nat} {ro : List Nat} {g : MS} {ds : List D} {X : List (D × V)} {d : D} {outs : List (Option D)} (hl : ds.length = vs.length) (S1 : SL K H (ds.zip vs ++ X)) (e : runF N.length m ro g ds = some (d, outs))
    (k : ∀ H' v, SL K H' ((d, v) :: (slots outs (vs.map some) ++ X)) → Q v H') : okS K (· ∈ ro) g { nx := fun _ H' => Q .non H', rt := Q } (L2.start N vs) H := by
  unfold runF at e
  split at e
  · rename_i h1
    obtain ⟨r, e1, e⟩ := bindS e
    have est : L2.start N vs = vs.map some ++ List.replicate (N.length - m) none := by
      unfold L2.start
      rw [← hl, h1]
    rw [est]
    have fin : ∀ (Γ : Nv) (σ' : L2.St), Agree (· ∈ ro) (vs.map some ++ List.replicate (N.length - m) none) σ' → (slots (outsOf m ro Γ) (vs.map some)).Sublist (slots Γ σ') := fun Γ σ' a => sub_slots fun i d hi => by
      obtain ⟨h2, h3, h4⟩ := outs_get hi
      refine ⟨h4, (a.2 i h3).trans ?_⟩
      rw [List.getElem?_append_left (by rw [List.length_map, ← hl, h1]; exact h2)]
    refine ⟨_, X, r, fits_start hl, by rw [slots_start hl]; exact S1, e1, ?_⟩
    cases r with
    | nx Γ =>
      cases e
      exact fun H' σ' a F' S' => k H' .non ((S'.sub ((fin Γ σ' a).append_right X)).flat fun _ => .non)
    | rt d Γ =>
      cases e
      exact fun H' σ' v a F' S' => k H' v (S'.sub (((fin Γ σ' a).append_right X).cons_cons _))
    | bk Γ => cases e
    | ct Γ => cases e
  · cases e
/-- what the written part says of the classes: B over ValueError, C over B with its own __init__ -/
def rz_lowest : List D → Bool
  | [.p (.int _), .p (.int 0)] => true
  | _ => false
/-- the classes -/
structure XF (K : PySem.W.Frag) (mg : Str → Option Value) (bx cx iq : Str) (sti : Stmt) (L C fI : Addr) (fdI : FuncData) : Prop where
  mL : mg bx = some (.ref L)
  mC : mg cx = some (.ref C)
  gL : PySem.W.specialIn K (.ref L) "__getattribute__" = some (some (.builtin "type.__getattribute__"))
  rL : PySem.W.readsIn K L (.type "type") = true
  iL : PySem.W.findCls K (.ref L) (.type "type") "__init__" = some (.val (.builtin "ValueError.__init__"))
  T : OexC K C
  iC : PySem.W.findIn K (.ref C) "__init__" = some (some (.ref fI))
  tI : PySem.W.typeIn K (.ref fI) = some (.type "function")
  fn : Fun K "__init__" iq sti fI fdI
  EC : ExcC K C
  k1 : PySem.W.kitOne K (.ref C) (.ref L) = some true
  k2 : PySem.W.kitOne K (.ref C) (.type "ValueError") = some true
  em : PySem.W.exmOne K (.ref C) (.ref C) = some true
theorem exm_self {K : PySem.W.Frag} {S : Addr} (h1 : PySem.W.subIn K (.ref S) (.type "BaseException") = some true) (h2 : PySem.W.isClsIn K S = true) (h3 : PySem.W.typeIn K (.ref S) = some (.type "type")) (h4 : PySem.W.subIn K (.ref S) (.ref S) = some true) :
    PySem.W.exmOne K (.ref S) (.ref S) = some true := by
  have e1 : (PySem.W.subIn K (.ref S) (.type "BaseException") == some true) = true := by rw [h1] <;> rfl
  have e2 : ((PySem.W.clsIn K S).isSome && PySem.W.typeIn K (.ref S) == some (.type "type")) = true := by
    have h2' : (PySem.W.clsIn K S).isSome = true := h2
    rw [h2', h3] <;> rfl
  show (if (PySem.W.subIn K (.ref S) (.type "BaseException") == some true) = true then (if ((PySem.W.clsIn K S).isSome && PySem.W.typeIn K (.ref S) == some (.type "type")) = true then PySem.W.subIn K (.ref S) (.ref S) else none) else none) = some true
  rw [if_pos e1, if_pos e2]
  exact h4
theorem arg2_len {f g : M} {Γ Γ' : Nv} {ds : List D} (e : argC f (argC g argN) Γ = some (ds, Γ')) : ds.length = 2 := by
  obtain ⟨⟨x, Γ1⟩, e1, e⟩ := bindS e
  obtain ⟨⟨xs, Γ2⟩, e2, e⟩ := bindS e
  cases e
  obtain ⟨⟨y, Γ3⟩, e3, e⟩ := bindS e2
  obtain ⟨⟨ys, Γ4⟩, e4, e⟩ := bindS e
  cases e4
  cases e
  rfl
/-- a suite under a condition -/
theorem pss_pre {X : Cx} {b : List Stmt} {t : TS} {p : Prop} (h : p → PSs X b t) : PSs X b (fun D σ H => p ∧ t D σ H) := ⟨fun pins s σ H D I hh => (h hh.1).run pins s σ H D I hh.2⟩
/-- __init__(self): B.__init__(self, "..") -/
theorem init_ok {P : Program} {w : World} {K : PySem.W.Frag} {mg : Str → Option Value} {base : Heap} {bx cx iq : Str} {sti : Stmt} {L C fI : Addr} {fdI : FuncData} (X : XF K mg bx cx iq sti L C fI fdI) (S : FnScope ["self"] ["self"] (defScope sti))
    {p1 p2 p3 p4 p5 p6 : Pos} {z : Str} {kk : Nat} (hbd : defBody sti = [.Expr (.Call (.Attribute (.Name bx p1) "__init__" p2) [.Name "self" p3, .Constant (.str z) kk p4] [] p5) p6])
    (hv : ∀ (cdv : Value) (A : Around) (outer : List PySem.Env) (s : Shared) (H : Hp) (E : XK),
      PE (cxOf CX0 P w K mg base ["self"] iq (defScope sti) fI cdv A outer s H E) (.Call (.Attribute (.Name bx p1) "__init__" p2) [.Name "self" p3, .Constant (.str z) kk p4] [] p5) (tVeI K (tCons (tVar 0) (tCons (tC (.str z)) tNil)))) :
    FnG P w K mg base CX0 1 fI fdI ["self"] (spInit C) := by
  refine defG X.fn S (fun vs H Q E h => ?_) fun cdv A outer s H vs Q E hgd hr h => ?_
  · obtain ⟨a, rfl, _⟩ := h
    rfl
  · obtain ⟨a, rfl, ha, q⟩ := h
    rw [hbd]
    refine ⟨_, pss_one (ps_expr (hv cdv A outer s H E)), ?_⟩
    exact ⟨_, rfl, a, C, _, rfl, (by simp), X.T, ha, q⟩
end GH
namespace GH
open PySem L2
section
variable {C : Cx} {a b e : Expr} {es : List Expr} {f g : M} {fa : MA} {pos p : Pos} {i c : Nat} {ls : List (Option Nat)}
/-! a list in a list: x[c][..] = .. -/
def gsetP (i c : Nat) (g : M) : MG := fun d Γ => match Γ[i]? with
  | some (some (.l xs)) => match xs[c]? with
    | some (.l ys) => (g (Γ.set i none)).bind fun r => match r.2[i]? with
      | some none => match r.1 with
        | .p (.int k) => (ixN ys.length k).map fun j => r.2.set i (some (.l (xs.set c (.l (ys.set j d)))))
        | _ => none
      | _ => none
    | _ => none
  | _ => none
theorem eg_setP {ro : Nat → Prop} {bx : Expr} (h : PG C (.Subscript bx b pos) (gSub (tOp (rIxL C.K) (tVar i) (tC (.int ((c : Nat) : Int)))) (okE C.K g) rSetL)) : PG C (.Subscript bx b pos) (okG C.K ro (gsetP i c g)) := h.gimp fun v σ H Q ⟨Γ, X, d, Γ', F, S, e, k⟩ => by
  unfold gsetP at e
  split at e
  · rename_i xs ex
    split at e
    · rename_i ys ey
      obtain ⟨⟨z, Γ1⟩, e1, e⟩ := bindS e
      have S0 : SL C.K H (slots Γ σ ++ ((d, v) :: X)) := S.perm List.perm_middle.symm
      obtain ⟨a, vs, u, hv, ha, hl, hu, S1⟩ := S0.openAt F ex ey
      refine ix_te (pj := 0) σ H _ _ a vs u hv rfl (.inl (.inl ha)) hu ?_
      refine ⟨_, _, z, Γ1, F.unset, S1.perm List.perm_middle.symm, e1, fun H1 w F1 S2 => ?_⟩
      dsimp only at e
      split at e
      · rename_i en
        split at e
        · rename_i n
          obtain ⟨j, e2, e⟩ := mapS e
          cases e
          have zz := S2.dp
          cases zz
          have S3 := S2.drop.perm List.perm_middle
          obtain ⟨a2, us, rfl, ha2, hl2, S4⟩ := S3.open
          have hj : j < ys.length := ixN_lt e2
          refine ⟨a2, us, n, j, rfl, rfl, ha2, by rw [← hl2]; exact e2, k σ _ .refl (F1.put hv) ?_⟩
          have hj' : j < us.length := by rw [← hl2]; exact hj
          have S5 := SL.write (vs' := us.set j v) S4
          have S6 : SL C.K (upd H1 a2 (.lst (us.set j v))) ((.c (us.set j v), .ref a2) :: ((ys.set j d).zip (us.set j v) ++ (slots Γ1 σ ++ ((.c vs, .ref a) :: ((xs.eraseIdx c).zip (vs.eraseIdx c) ++ X))))) := by
            have P1 := zip_erase (List.getElem?_eq_getElem hj) (List.getElem?_eq_getElem hj')
            have P2 : ((d, v) :: (ys.eraseIdx j).zip (us.eraseIdx j)).Perm ((ys.set j d).zip (us.set j v)) := by
              have q := zip_put (xs := ys) (us := us.set j v) (k := j) (d := d) (y := v) hj (get_set hj')
              rwa [List.eraseIdx_set_eq] at q
            have S6 := (S5.perm (List.Perm.cons _ (P1.append_right _))).swp.drop
            refine S6.perm (List.Perm.cons _ ?_)
            have P3 : (slots Γ1 σ ++ ((.c vs, .ref a) :: ((xs.eraseIdx c).zip (vs.eraseIdx c) ++ ((d, v) :: X)))).Perm ((d, v) :: (slots Γ1 σ ++ ((.c vs, .ref a) :: ((xs.eraseIdx c).zip (vs.eraseIdx c) ++ X)))) := by
              refine (List.Perm.append_left _ (List.Perm.cons _ List.perm_middle)).trans ?_
              refine (List.Perm.append_left _ (List.Perm.swap _ _ _)).trans ?_
              exact List.perm_middle
            refine ((List.Perm.append_left _ P3).trans List.perm_middle).trans ?_
            exact P2.append_right _
          exact SL.shut (y := .l (ys.set j d)) (SL.close (by simpa using hl2) S6) F1 en hv hl (List.getElem?_eq_some_iff.mp ey).1 hu
        · cases e
      · cases e
    · cases e
  · cases e
theorem ee_ixP {bx : Expr} (hv : PE C bx (tOp (rIxL C.K) (tVar i) (tC (.int ((c : Nat) : Int))))) (hb : PE C b (okE C.K g)) (hs : PlainIx b) : PE C (.Subscript bx b pos) (okE C.K (rdP ixD i c g)) := (pe_ix r_ix hv hb hs).gimp fun _ _ _ h => rdP_run (ix_te (pj := 0)) h
/-! (.., *e) -/
def seqD (d : D) : Option (List PyData) := match fz d with
  | some (.tuple qs) => some qs
  | some (.list qs) => some qs
  | _ => none
def argS (f : M) : MA := fun Γ => (f Γ).bind fun r => (seqD r.1).map fun qs => (qs.map .p, r.2)
theorem ea_star (h : PE C e (okE C.K f)) (hs : starEach [.Starred e p] C.env = (true, eval e C.env) :: starEach [] C.env := by rfl) : PA C [.Starred e p] (okA C.K [] (argS f)) := (StX.pa_star h pa_nil hs).gimp fun σ H Q ⟨Γ, X, ds, Γ', F, S, e, k⟩ => by
  obtain ⟨⟨d, Γ1⟩, e1, e⟩ := bindS e
  obtain ⟨qs, e2, e⟩ := mapS e
  cases e
  refine ⟨Γ, X, d, Γ1, F, S, e1, fun H1 v F1 S1 => ?_⟩
  unfold seqD at e2
  split at e2
  · rename_i q ez
    cases e2
    have S2 := S1.frz ez
    have dd := S2.dp
    cases dd with
    | tup h1 h2 =>
      obtain ⟨xs, hq, hl, S3⟩ := S2.atT
      refine ⟨_, xs, rfl, .inl hq, ?_⟩
      show Q (xs ++ []) H1
      rw [List.append_nil]
      exact k H1 xs F1 (by simpa using hl) trivial (S3.perm List.perm_middle).drop
  · rename_i q ez
    cases e2
    have S2 := S1.frz ez
    have dd := S2.dp
    cases dd with
    | lst h1 h2 =>
      obtain ⟨xs, hq, hl, S3⟩ := S2.atL
      refine ⟨_, xs, rfl, .inr hq, ?_⟩
      show Q (xs ++ []) H1
      rw [List.append_nil]
      exact k H1 xs F1 (by simpa using hl) trivial (S3.perm List.perm_middle).drop
  · cases e2
end
end GH
namespace GH
open PySem L2
section
variable {C : Cx} {a e : Expr} {f : M} {pos p : Pos} {i : Nat}
/-! a name on the right that is read and stays as it is -/
def okKK (K : PySem.W.Frag) (o : D → D → Option D) : R2 := fun x y H Q => ∃ L dx dy d, SL K H ((dy, y) :: (dx, x) :: L) ∧ o dx dy = some d ∧ ∀ v, SL K H ((d, v) :: (dy, y) :: (dx, x) :: L) → Q v H
theorem o_notinK (hu : C.A.units + 65 < cLine) : OpR C (compareOp .NotIn) (okKK C.K notinD) := (op_notIn_sign.galt (op_notIn_seq.galt (op_notinQ hu))).gimp fun x y H Q ⟨L, dx, dy, d, S, e, k⟩ => by
  obtain ⟨a, ea, e⟩ := bindS e
  obtain ⟨b, eb, e⟩ := bindS e
  obtain ⟨r, er, rfl⟩ := mapS e
  have ha := S.drop.dpz ea
  have hb := S.dpz eb
  have h' := k _ (S.flat fun _ => .bl (!r))
  rcases inQ_way er ha hb with ⟨c, t, rfl, rfl, rfl⟩ | ⟨p, xs, h1, h2, h3, h4, rfl⟩ | ⟨ds, h1, h2, h3, rfl⟩
  · exact .inl ⟨c, t, rfl, rfl, h'⟩
  · exact .inr (.inl ⟨p, xs, h1, h2, h3, h4, h'⟩)
  · exact .inr (.inr ⟨a, b, ds, ha, hb, h1, h2, h3, h'⟩)
def rdQ (o : D → D → Option D) (f : M) (i : Nat) : M := fun Γ => (f Γ).bind fun r => match r.2[i]? with
  | some (some y) => (o r.1 y).map fun d => (d, r.2)
  | _ => none
theorem rdQ_run {K : PySem.W.Frag} {o : D → D → Option D} {σ : L2.St} {H : Hp} {Q : VK} (h : okE K (rdQ o f i) σ H Q) : tOp (okKK K o) (okE K f) (tVar i) σ H Q := by
  obtain ⟨Γ, X, d, Γ', F, S, e, k⟩ := h
  obtain ⟨⟨x, Γ1⟩, e1, e⟩ := bindS e
  dsimp only at e
  split at e
  · rename_i y ex
    obtain ⟨z, e2, e⟩ := mapS e
    cases e
    refine ⟨Γ, X, x, Γ', F, S, e1, fun H1 v F1 S1 => ?_⟩
    obtain ⟨u, hu, S2⟩ := SL.take (S1.perm List.perm_middle.symm) F1 ex
    refine ⟨u, hu, _, x, y, _, S2.perm (List.Perm.cons _ List.perm_middle), e2, fun w S3 => k H1 w F1 ?_⟩
    have S4 := S3.perm ((List.Perm.cons _ (List.Perm.swap _ _ _)).trans (List.Perm.swap _ _ _))
    have S5 := S4.drop.perm (List.Perm.swap _ _ _)
    have S6 := SL.back (i := i) (Γ := Γ'.set i none) (S5.perm (List.Perm.cons _ List.perm_middle.symm)) (get_set (List.getElem?_eq_some_iff.mp ex).1) hu
    rw [List.set_set, set_same ex] at S6
    exact S6.perm List.perm_middle
  · cases e
theorem et_cmpR {op : CmpOp} {o : D → D → Option D} {x : Str} (ho : OpR C (compareOp op) (okKK C.K o)) (ha : PE C a (okE C.K f)) (hv : PE C (.Name x p) (tVar i)) (hm : behindInMarks op (.Name x p) = false) : PT C (.Compare a [op] [.Name x p] pos) (okT C.K (isT (rdQ o f i))) :=
  (pt_cmpR ho ha hv hm).gimp fun σ H Q h => rdQ_run (isT_run h)
end
end GH
namespace GH
open PySem L2 PySem.Spec RZ
/-! ### list(zip(x, y)) of two tuples -/
theorem zip_has_no_len : typeLookup (.type "zip") "__len__" = pure none := by rw [typeLookup_type, builtinLookup_eq_fast]; kernel_rfl
theorem zip_has_no_hint : typeLookup (.type "zip") "__length_hint__" = pure none := by rw [typeLookup_type, builtinLookup_eq_fast]; kernel_rfl
section
variable {prog : Program} {w : World} {A : Around} {E : Value → Shared → Prop} {s : Shared} {z TI TO i1 i2 l1 l2 S : Addr}
/-- the zip while the first pair that it gave is still there -/
theorem zt_held {T : Addr} {f : Bool} {oT : Obj} {k : Nat} {xs ys : Array Value} {x y : Value} {Q : Option Value → Shared → Prop} (D : ZipApart z TI TO i1 i2 l1 l2)
    (hz : IsZipHeld s.heap z TI TO T f) (hT : s.heap.get? T = some oT) (hTI : IsPair s.heap TI (.ref i1) (.ref i2)) (h1 : s.heap.IsTupleIter i1 l1 k) (h2 : s.heap.IsTupleIter i2 l2 k) (t1 : s.heap.IsTuple l1 xs) (t2 : s.heap.IsTuple l2 ys) (hx : xs[k]? = some x) (hy : ys[k]? = some y)
    (q : ∀ h', IsZipHeld h' z TI TO T true → h'.IsTupleIter i1 l1 (k + 1) → h'.IsTupleIter i2 l2 (k + 1) → IsPair h' s.heap.objs.size x y → h'.objs.size = s.heap.objs.size + 1 → (∀ c o, c ≠ z → c ≠ i1 → c ≠ i2 → s.heap.get? c = some o → h'.get? c = some o) → Q (some (.ref s.heap.objs.size)) { s with heap := h' }) :
    wpAny (model prog w) A (pyNext (.ref z)) Q E s := by
  have ty : s.TypeIs (.ref z) "zip" := ⟨_, hz, rfl⟩
  have go : wpAny (model prog w) A.in1 (Builtin.«zip.__next__» ⟨[.ref z], []⟩) (fun fin s' => ∃ v, fin = .done (.ret v) ∧ Q (some v) s') (fun _ _ => False) s := by
    show wpAny _ _ (field (.ref z) 2 >>= _) _ _ _
    refine wpAny_bind (wpAny_field hz rfl (x := .bool false) rfl ?_)
    show wpAny _ _ (field (.ref z) 3 >>= _) _ _ _
    refine wpAny_bind (wpAny_field hz rfl (x := .ref TI) rfl (wpAny_bind (wpAny_seqItems hTI rfl ?_)))
    show wpAny _ _ (Builtin.SmallTypes.ownedTupleIsFree (.ref z) >>= _) _ _ _
    refine wpAny_bind (wpAny_tupleHeld_zip hz hT fun g1 z1 s1 => ?_)
    simp only [Bool.false_eq_true, if_false]
    refine wpAny_bind ?_
    rw [← Array.forIn_toList]
    simp only [List.forIn_cons, List.forIn_nil]
    refine wpAny_bind (wpAny_bind (wpAny_holding ?_))
    show wpAny _ _ (Builtin.SmallTypes.nextOf (.ref i1) >>= _) _ _ _
    refine wpAny_bind (nextOf_tuple_item (s := { s with heap := g1 }) (h1.extBut s1.extBut D.i1z) (t1.extBut s1.extBut D.l1z) hx fun g2 a2 s2 => wpAny_pure (wpAny_pure ?_))
    refine wpAny_bind (wpAny_bind (wpAny_holding ?_))
    show wpAny _ _ (Builtin.SmallTypes.nextOf (.ref i2) >>= _) _ _ _
    refine wpAny_bind (nextOf_tuple_item (s := { s with heap := g2 }) ((h2.extBut s1.extBut D.i2z).extBut s2.extBut D.i12.symm) ((t2.extBut s1.extBut D.l2z).extBut s2.extBut D.l2i1) hy fun g3 a3 s3 => wpAny_pure (wpAny_pure (wpAny_pure ?_)))
    show wpAny _ _ (newTuple [x, y] >>= _) _ _ _
    refine wpAny_bind (wpAny_newTuple (wpAny_pure ⟨_, rfl, ?_⟩))
    have e3 : g3.objs.size = s.heap.objs.size := by rw [s3.1, s2.1, s1.1]
    have new : IsPair (g3.push { cls := .type "tuple", data := .seq #[x, y] }) g3.objs.size x y := Heap.get?_push_size _ rfl
    have more : (g3.push { cls := .type "tuple", data := .seq #[x, y] }).objs.size = g3.objs.size + 1 := Heap.size_push ..
    show Q (some (.ref g3.objs.size)) _
    rw [e3] at new more ⊢
    exact q _ (Heap.get?_push_of_some _ (s3.extBut _ _ D.i2z.symm (s2.extBut _ _ D.i1z.symm z1))) ((a2.extBut s3.extBut D.i12).at fun o e => Heap.get?_push_of_some _ e) (a3.at fun o e => Heap.get?_push_of_some _ e) new more
      fun c o c1 c2 c3 e => Heap.get?_push_of_some _ (s3.extBut _ _ c3 (s2.extBut _ _ c2 (s1.extBut _ _ c1 e)))
  unfold pyNext
  refine wpAny_bind (wpAny_attempt (wpAny_callSpecial?_slot (name := Str.ofString "__next__") ty F.slot_zip_next (wpAny_call_entry F.slot_zip_next ty F.entry_zip_next (wpAny_mono go (fun fin s' h => ?_) fun _ _ h => h.elim) (F.args_zip_next_1 _))))
  obtain ⟨v, e, h⟩ := h
  exact ⟨v, e, wpAny_pure h⟩
theorem zt_heldEnd {T : Addr} {f : Bool} {oT : Obj} {k : Nat} {xs ys : Array Value} {Q : Option Value → Shared → Prop} (hh : A.handled = none) (D : ZipApart z TI TO i1 i2 l1 l2)
    (hz : IsZipHeld s.heap z TI TO T f) (hT : s.heap.get? T = some oT) (hTI : IsPair s.heap TI (.ref i1) (.ref i2)) (h1 : s.heap.IsTupleIter i1 l1 k) (h2 : s.heap.IsTupleIter i2 l2 k) (t1 : s.heap.IsTuple l1 xs) (t2 : s.heap.IsTuple l2 ys) (he : xs[k]? = none ∨ ys[k]? = none)
    (q : ∀ h', (∀ c o, c ≠ z → c ≠ i1 → c ≠ i2 → s.heap.get? c = some o → h'.get? c = some o) → Q none { s with heap := h' }) : wpAny (model prog w) A (pyNext (.ref z)) Q E s := by
  have ty : s.TypeIs (.ref z) "zip" := ⟨_, hz, rfl⟩
  have go : wpAny (model prog w) A.in1 (Builtin.«zip.__next__» ⟨[.ref z], []⟩) (fun _ _ => False) (fun e s' => ∃ h', s' = { s with heap := h' } ∧ (∀ c o, c ≠ z → c ≠ i1 → c ≠ i2 → s.heap.get? c = some o → h'.get? c = some o) ∧ ∃ a o, e = .ref a ∧ h'.get? a = some o ∧ o.cls = .type "StopIteration") s := by
    show wpAny _ _ (field (.ref z) 2 >>= _) _ _ _
    refine wpAny_bind (wpAny_field hz rfl (x := .bool false) rfl ?_)
    show wpAny _ _ (field (.ref z) 3 >>= _) _ _ _
    refine wpAny_bind (wpAny_field hz rfl (x := .ref TI) rfl (wpAny_bind (wpAny_seqItems hTI rfl ?_)))
    show wpAny _ _ (Builtin.SmallTypes.ownedTupleIsFree (.ref z) >>= _) _ _ _
    refine wpAny_bind (wpAny_tupleHeld_zip hz hT fun g1 z1 s1 => ?_)
    simp only [Bool.false_eq_true, if_false]
    refine wpAny_bind ?_
    rw [← Array.forIn_toList]
    simp only [List.forIn_cons, List.forIn_nil]
    refine wpAny_bind (wpAny_bind (wpAny_holding ?_))
    show wpAny _ _ (Builtin.SmallTypes.nextOf (.ref i1) >>= _) _ _ _
    cases hx : xs[k]? with
    | none => exact wpAny_bind (nextOf_tuple_end (s := { s with heap := g1 }) hh (h1.extBut s1.extBut D.i1z) (t1.extBut s1.extBut D.l1z) hx fun g2 e s2 ⟨o, ho, hc⟩ => ⟨g2, rfl, fun c o c1 c2 _ y => s2 _ _ c2 (s1.extBut _ _ c1 y), e, o, rfl, ho, hc⟩)
    | some x =>
      have hy : ys[k]? = none := he.elim (fun h => by rw [hx] at h; cases h) id
      refine wpAny_bind (nextOf_tuple_item (s := { s with heap := g1 }) (h1.extBut s1.extBut D.i1z) (t1.extBut s1.extBut D.l1z) hx fun g2 a2 s2 => wpAny_pure (wpAny_pure ?_))
      refine wpAny_bind (wpAny_bind (wpAny_holding ?_))
      show wpAny _ _ (Builtin.SmallTypes.nextOf (.ref i2) >>= _) _ _ _
      exact wpAny_bind (nextOf_tuple_end (s := { s with heap := g2 }) hh ((h2.extBut s1.extBut D.i2z).extBut s2.extBut D.i12.symm) ((t2.extBut s1.extBut D.l2z).extBut s2.extBut D.l2i1) hy fun g3 e s3 ⟨o, ho, hc⟩ => ⟨g3, rfl, fun c o c1 c2 c3 y => s3 _ _ c3 (s2.extBut _ _ c2 (s1.extBut _ _ c1 y)), e, o, rfl, ho, hc⟩)
  unfold pyNext
  refine wpAny_bind (wpAny_attempt (wpAny_callSpecial?_slot (name := Str.ofString "__next__") ty F.slot_zip_next (wpAny_call_entry F.slot_zip_next ty F.entry_zip_next (wpAny_mono go (fun _ _ h => h.elim) fun e s' h => ?_) (F.args_zip_next_1 _))))
  obtain ⟨h', rfl, hk, a, o, rfl, ho, hc⟩ := h
  exact wpAny_bind (wpAny_isInstance (T := "StopIteration") (b := true) ⟨o, ho, hc⟩ isSubtype_stop (wpAny_pure (q h' hk)))
/-- the zip behind k pairs -/
def ZSt (h : Heap) (z TI TO i1 i2 l1 l2 S : Addr) (k : Nat) : Prop := IsPair h TI (.ref i1) (.ref i2) ∧ h.IsTupleIter i1 l1 k ∧ h.IsTupleIter i2 l2 k ∧
  ((IsZip h z TI TO .none ∧ ∃ x y, IsPair h TO x y) ∨ ∃ (T : Addr) (f : Bool) (oT : Obj), IsZipHeld h z TI TO T f ∧ h.get? T = some oT ∧ T ≠ S ∧ T ≠ z ∧ T ≠ i1 ∧ T ≠ i2)
theorem ZSt.zip {h : Heap} {k : Nat} (st : ZSt h z TI TO i1 i2 l1 l2 S k) : ∃ o, h.get? z = some o ∧ o.cls = .type "zip" ∧ ∃ fs, o.data = .fields fs := by
  obtain ⟨_, _, _, ⟨hz, _⟩ | ⟨_, _, _, hz, _⟩⟩ := st
  · exact ⟨_, hz, rfl, _, rfl⟩
  · exact ⟨_, hz, rfl, _, rfl⟩
theorem ZSt.off {h h' : Heap} {k : Nat} (st : ZSt h z TI TO i1 i2 l1 l2 S k) (nS : ∀ c ∈ [z, TI, TO, i1, i2], c ≠ S) (hk : ∀ c o, c ≠ S → h.get? c = some o → h'.get? c = some o) : ZSt h' z TI TO i1 i2 l1 l2 S k := by
  obtain ⟨p, a, b, st⟩ := st
  refine ⟨hk _ _ (nS TI (by simp)) p, a.at fun o e => hk _ o (nS i1 (by simp)) e, b.at fun o e => hk _ o (nS i2 (by simp)) e, ?_⟩
  rcases st with ⟨hz, x, y, hp⟩ | ⟨T, f, oT, hz, hT, n1, n2⟩
  · exact .inl ⟨hk _ _ (nS z (by simp)) hz, x, y, hk _ _ (nS TO (by simp)) hp⟩
  · exact .inr ⟨T, f, oT, hk _ _ (nS z (by simp)) hz, hk _ _ n1 hT, n1, n2⟩
theorem zst_next {k : Nat} {xs ys : Array Value} {x y : Value} {Q : Option Value → Shared → Prop} (D : ZipApart z TI TO i1 i2 l1 l2) (st : ZSt s.heap z TI TO i1 i2 l1 l2 S k) (hS : S < s.heap.objs.size) (t1 : s.heap.IsTuple l1 xs) (t2 : s.heap.IsTuple l2 ys) (hx : xs[k]? = some x) (hy : ys[k]? = some y)
    (q : ∀ h', ZSt h' z TI TO i1 i2 l1 l2 S (k + 1) → IsPair h' s.heap.objs.size x y → h'.objs.size = s.heap.objs.size + 1 → (∀ c o, c ≠ z → c ≠ TO → c ≠ i1 → c ≠ i2 → s.heap.get? c = some o → h'.get? c = some o) → Q (some (.ref s.heap.objs.size)) { s with heap := h' }) :
    wpAny (model prog w) A (pyNext (.ref z)) Q E s := by
  obtain ⟨p, a, b, st⟩ := st
  have lz : i1 < s.heap.objs.size := by obtain ⟨_, e, _⟩ := a; exact Heap.lt_size e
  have lz2 : i2 < s.heap.objs.size := by obtain ⟨_, e, _⟩ := b; exact Heap.lt_size e
  rcases st with ⟨hz, x0, y0, hp⟩ | ⟨T, f, oT, hz, hT, n1, n2, n3, n4⟩
  · have l3 : z < s.heap.objs.size := Heap.lt_size hz
    exact pyNext_zipT_item D hz p hp a b t1 t2 hx hy fun h' a1 a2 a3 a4 a5 a6 a7 => q h' ⟨a7 _ _ D.TIz D.TITO D.TIi1 D.TIi2 p, a3, a4, .inr ⟨_, false, _, a1, a5, Nat.ne_of_gt hS, Nat.ne_of_gt l3, Nat.ne_of_gt lz, Nat.ne_of_gt lz2⟩⟩ a5 a6 a7
  · exact zt_held D hz hT p a b t1 t2 hx hy fun h' a1 a3 a4 a5 a6 a7 => q h' ⟨a7 _ _ D.TIz D.TIi1 D.TIi2 p, a3, a4, .inr ⟨T, true, oT, a1, a7 _ _ n2 n3 n4 hT, n1, n2, n3, n4⟩⟩ a5 a6 fun c o c1 _ c3 c4 e => a7 c o c1 c3 c4 e
theorem zst_end {k : Nat} {xs ys : Array Value} {Q : Option Value → Shared → Prop} (hh : A.handled = none) (D : ZipApart z TI TO i1 i2 l1 l2) (st : ZSt s.heap z TI TO i1 i2 l1 l2 S k) (t1 : s.heap.IsTuple l1 xs) (t2 : s.heap.IsTuple l2 ys) (he : xs[k]? = none ∨ ys[k]? = none)
    (q : ∀ h', (∀ c o, c ≠ z → c ≠ TO → c ≠ i1 → c ≠ i2 → s.heap.get? c = some o → h'.get? c = some o) → Q none { s with heap := h' }) : wpAny (model prog w) A (pyNext (.ref z)) Q E s := by
  obtain ⟨p, a, b, st⟩ := st
  rcases st with ⟨hz, x0, y0, hp⟩ | ⟨T, f, oT, hz, hT, n1, n2, n3, n4⟩
  · exact pyNext_zipT_end hh D hz p hp a b t1 t2 he q
  · exact zt_heldEnd hh D hz hT p a b t1 t2 he fun h' hk => q h' fun c o c1 _ c3 c4 e => hk c o c1 c3 c4 e
end
/-! ### the list takes all pairs -/
abbrev lObj (acc : Array Value) (c : Nat) : Obj := { cls := .type "list", dict := none, data := .seq acc c, slots := #[] }
section
variable {X : Cx} {pins : List (Addr × Obj)} {σ : L2.St} {z TI TO i1 i2 a b S : Addr} {ds es : List PyData} {L0 : List (D × V)} {res : Value} {R : Result → Shared → Prop}
theorem fpOk_upd {H : Hp} {T c : Addr} {o : HO} (h : FpOk X pins H c) (hc : c ≠ T) : FpOk X pins (upd H T o) c := ⟨by rw [upd_ne hc]; exact h.1, h.2⟩
abbrev zE (ds es : List PyData) (a b : Addr) : List (D × V) := [(.p (.tuple ds), .ref a), (.p (.tuple es), .ref b)]
theorem lz_loop {A : Around} (hh : A.handled = none) (Ap : ZipApart z TI TO i1 i2 a b) (nS : ∀ c ∈ [z, TI, TO, i1, i2], c ≠ S) (hn : (zipL ds es).length ≤ 1000000)
    (hR : ∀ s' H' acc c vs, s'.heap.get? S = some (lObj acc c) → Inv X pins σ H' s' → FpOk X pins H' S → Vals vs acc.toList → (zipL ds es).length = vs.length → SL X.K H' (((zipL ds es).map D.p).zip vs ++ L0) → R (.ok (.ret res)) s') :
    ∀ (m k : Nat) (s : Shared) (H : Hp) (acc : Array Value) (c : Nat) (vs : List V), k + m = (zipL ds es).length → Inv X pins σ H s → (∀ x ∈ [z, TI, TO, i1, i2, S], FpOk X pins H x ∧ x < s.heap.objs.size) → ZSt s.heap z TI TO i1 i2 a b S k → s.heap.get? S = some (lObj acc c) → Vals vs acc.toList → vs.length = k →
      SL X.K H ((((zipL ds es).take k).map D.p).zip vs ++ (zE ds es a b ++ L0)) →
      codeAny (model X.prog X.w) A (.builtin "list.extend.loop" ⟨[.ref S, .ref z, res], []⟩) R s := by
  intro m
  induction m with
  | zero =>
    intro k s H acc c vs hk I hf st hS rv hl S1
    have hk' : k = (zipL ds es).length := by omega
    have S2 : SL X.K H (zE ds es a b ++ ((((zipL ds es).take k).map D.p).zip vs ++ L0)) := S1.perm (swap3 _ _ _)
    obtain ⟨xs, ys, qx, qy, hend⟩ := (srv_zipT (K := X.K) (a := a) (b := b) (ds := ds) (es := es)).stop H _ S2
    obtain ⟨its, rx, px, _⟩ := I.tuple qx
    obtain ⟨its2, ry, py, _⟩ := I.tuple qy
    have l1 := rx.length
    have l2 := ry.length
    have he : its.toArray[k]? = none ∨ its2.toArray[k]? = none := by
      rcases hend with q | q
      · exact .inl (by simp; omega)
      · exact .inr (by simp; omega)
    refine codeAny_builtin F.entry_extend_loop ?_
    rw [Around.under_plainId F.plain_extend_loop _]
    show wpAny _ A.in1 (pyNext (.ref z) >>= _) _ _ s
    refine wpAny_bind (zst_end (A := A.in1) hh Ap st px py he fun h' hkp => wpAny_pure (hR _ H acc c vs ?_ ?_ (hf S (by simp)).1 rv (by omega) ?_))
    · exact hkp S _ (Ne.symm (nS z (by simp))) (Ne.symm (nS TO (by simp))) (Ne.symm (nS i1 (by simp))) (Ne.symm (nS i2 (by simp))) hS
    · exact I.turnedL (t' := s.toks) (ch := [z, TI, TO, i1, i2, S]) (fun x o hx e => hkp x o (fun q => hx (by simp [q])) (fun q => hx (by simp [q])) (fun q => hx (by simp [q])) (fun q => hx (by simp [q])) e) fun x hx => (hf x hx).1
    · rw [hk', List.take_length] at S2
      exact SL.dropA S2
  | succ m ih =>
    intro k s H acc c vs hk I hf st hS rv hl S1
    have hlt : k < (zipL ds es).length := by omega
    have S2 : SL X.K H (zE ds es a b ++ ((((zipL ds es).take k).map D.p).zip vs ++ L0)) := S1.perm (swap3 _ _ _)
    obtain ⟨xs, ys, x, y, qx, qy, hx, hy⟩ := (srv_zipT (K := X.K) (a := a) (b := b) (ds := ds) (es := es)).go k H _ S2 hlt
    obtain ⟨its, rx, px, _⟩ := I.tuple qx
    obtain ⟨its2, ry, py, _⟩ := I.tuple qy
    obtain ⟨u, hu, ru⟩ := rx.get hx
    obtain ⟨u2, hu2, ru2⟩ := ry.get hy
    have hSl : S < s.heap.objs.size := (hf S (by simp)).2
    have hsz : acc.size = k := by rw [← Array.length_toList, ← rv.length, hl]
    refine codeAny_builtin F.entry_extend_loop ?_
    rw [Around.under_plainId F.plain_extend_loop _]
    show wpAny _ A.in1 (pyNext (.ref z) >>= _) _ _ s
    refine wpAny_bind (zst_next (A := A.in1) Ap st hSl px py (x := u) (y := u2) (by simpa using hu) (by simpa using hu2) fun h' st' hT hsz' hkp => ?_)
    have hS' : h'.get? S = some (lObj acc c) := hkp S _ (Ne.symm (nS z (by simp))) (Ne.symm (nS TO (by simp))) (Ne.symm (nS i1 (by simp))) (Ne.symm (nS i2 (by simp))) hS
    show wpAny _ A.in1 (updateSeq S (·.push (Value.ref s.heap.objs.size)) >>= _) _ _ _
    refine wpAny_bind ?_
    refine wpAny_updateSeq (s := { s with heap := h' }) hS' rfl (wpAny_pure ⟨plainId_quiet F.plain_extend_loop _, ?_⟩) (by rw [hsz, sizeLine_eq]; omega) (by show (acc.push _).size ≤ sizeLine + 1; rw [Array.size_push, hsz, sizeLine_eq]; omega)
    have up : ∀ x o, x ≠ S → h'.get? x = some o → (h'.update S (Obj.mapSeq (·.push (Value.ref s.heap.objs.size)))).get? x = some o := fun x o hx e => (Heap.get?_update_other _ _ (Ne.symm hx)).trans e
    have hS2 := Heap.get?_update_self (Obj.mapSeq (·.push (Value.ref s.heap.objs.size))) hS' rfl
    have hn1 : H s.heap.objs.size = none := I.hok.fresh (Nat.le_refl _)
    have I1 : Inv X pins σ (upd H s.heap.objs.size (.tup [x, y])) { s with heap := h'.update S (Obj.mapSeq (·.push (Value.ref s.heap.objs.size))) } :=
      I.turnedNew (t' := s.toks) (ch := [z, TI, TO, i1, i2, S]) (fun x o hx e => up x o (fun q => hx (by simp [q])) (hkp x o (fun q => hx (by simp [q])) (fun q => hx (by simp [q])) (fun q => hx (by simp [q])) (fun q => hx (by simp [q])) e)) (fun x hx => (hf x hx).1) (Nat.le_refl _)
        ⟨by show 2 ≤ sizeLine; decide, [u, u2], .cons ru (.cons ru2 .nil), ⟨_, up _ _ (Nat.ne_of_gt hSl) hT, rfl, _, rfl⟩⟩
    have hd : (zipL ds es)[k]? = some (zipL ds es)[k] := List.getElem?_eq_getElem hlt
    have S3 := (srv_zipT (K := X.K) (a := a) (b := b) (ds := ds) (es := es)).yld k H _ (.ref s.heap.objs.size) _ S2 ⟨s.heap.objs.size, x, y, rfl, hn1, rfl, fun l hl => by rw [I.tuple_inj hl qx]; exact hx, fun l hl => by rw [I.tuple_inj hl qy]; exact hy⟩ _ hd
    refine ih (k + 1) _ _ (acc.push (.ref s.heap.objs.size)) _ (vs ++ [.ref s.heap.objs.size]) (by omega) I1 (fun x hx => ⟨fpOk_upd (hf x hx).1 (Nat.ne_of_lt (hf x hx).2), ?_⟩) (st'.off nS up) hS2 ?_ (by rw [List.length_append, hl]; rfl) ?_
    · have e : (h'.update S (Obj.mapSeq (·.push (Value.ref s.heap.objs.size)))).objs.size = s.heap.objs.size + 1 := by rw [Heap.size_update, hsz']
      exact Nat.lt_of_lt_of_eq (Nat.lt_succ_of_lt (hf x hx).2) e.symm
    · rw [Array.toList_push]
      exact rv.append (.cons rfl .nil)
    · have et : ((zipL ds es).take (k + 1)).map D.p = ((zipL ds es).take k).map D.p ++ [D.p (zipL ds es)[k]] := by
        rw [List.take_succ, hd, List.map_append]
        rfl
      rw [et, List.zip_append (by rw [List.length_map, List.length_take, hl]; exact Nat.min_eq_left (Nat.le_of_lt hlt)), List.append_assoc]
      refine S3.perm ?_
      show ((D.p (zipL ds es)[k], V.ref s.heap.objs.size) :: (zE ds es a b ++ ((((zipL ds es).take k).map D.p).zip vs ++ L0))).Perm _
      refine (List.Perm.cons _ (swap3 _ _ _)).trans ?_
      exact List.perm_middle.symm
/-- an untracked list that is complete is tracked -/
theorem inv_track {H : Hp} {s : Shared} {acc : Array Value} {c : Nat} {vs : List V} (I : Inv X pins σ H s) (hf : FpOk X pins H S) (e : s.heap.get? S = some (lObj acc c)) (r : Vals vs acc.toList) (hl : vs.length ≤ sizeLine) : Inv X pins σ (upd H S (.lst vs)) s := by
  have hn : H S = none := hf.1
  refine I.call' (ch := [S]) rfl ⟨fun b o q _ _ _ => q, fun b o q _ _ _ => ⟨o.slots, q⟩, fun b o q n hx => ?_, fun b o q _ => ⟨o, q⟩, fun b xs q => ?_, fun b o u q => ?_, fun b ps q => ⟨#[], ?_⟩⟩ (fun b u q => ?_) I.bare fun b hb => ?_
  · rw [upd_ne fun z => hx (by simp [z])]
    exact n
  · rw [upd_ne (ne_of_none q hn)]
    exact q
  · rw [upd_ne (ne_of_none q hn)]
    exact q
  · rw [upd_ne (ne_of_none q hn), q]
    simp
  · by_cases hb : b = S
    · subst hb
      rw [upd_same] at q
      cases q
      exact ⟨hl, acc.toList, c, r, by rw [e]⟩
    · rw [upd_ne hb] at q
      exact (I.hok b u q).stay (fun _ _ _ z => z) (fun d z => by rw [upd_ne (ne_of_none z hn)]; exact z) fun d xs z => by rw [upd_ne (ne_of_none z hn)]; exact z
  · have hb' : b = S := by simpa using hb
    subst hb'
    exact ⟨hf.2.2.2.1, hf.2.1, hf.2.2.2.2.1, hf.2.2.2.2.2⟩
theorem lz_call {s : Shared} {H : Hp} {Q : VK} {E : Value → Shared → Prop} (hh : X.A.handled = none) (I : Inv X pins σ H s) (Ap : ZipApart z TI TO i1 i2 a b) (hf : ∀ x ∈ [z, TI, TO, i1, i2], FpOk X pins H x ∧ x < s.heap.objs.size) (hz : IsZip s.heap z TI TO .none) (hTI : IsPair s.heap TI (.ref i1) (.ref i2))
    (hTO : ∃ x y, IsPair s.heap TO x y) (h1 : s.heap.IsTupleIter i1 a 0) (h2 : s.heap.IsTupleIter i2 b 0) (hn : (zipL ds es).length ≤ 1000000) (S1 : SL X.K H (zE ds es a b ++ L0)) (hQ : ∀ H' v, SL X.K H' ((.l ((zipL ds es).map D.p), v) :: L0) → Q v H') :
    wpAny (model X.prog X.w) X.A (call (.type "list") [.ref z]) (EP X pins σ Q) E s := by
  refine callType_codes (Q₁ := fun obj s₁ => obj = .ref s.heap.objs.size ∧ s₁ = { s with heap := s.heap.push { cls := .type "list", data := .seq #[] } }) PySem.F.called_list (PySem.F.typeCall_list_1 _) PySem.F.entry_list_init
    (code_list_new _ ⟨rfl, rfl⟩) fun obj s₁ h₁ => ?_
  obtain ⟨rfl, rfl⟩ := h₁
  have hS : (s.heap.push { cls := .type "list", data := .seq #[] }).get? s.heap.objs.size = some { cls := .type "list", data := .seq #[] } := Heap.get?_push_size _ rfl
  refine ⟨⟨_, hS, rfl⟩, PySem.F.args_list_init_2 _ _, ?_⟩
  show wpAny _ X.A.in1.in1 (do let old ← Builtin.List.listItems (.ref s.heap.objs.size); Builtin.List.listUpdate (.ref s.heap.objs.size) (fun _ => #[]); letGo old.toList.reverse; Builtin.List.listExtendWith (.ref s.heap.objs.size) (.ref z) .none) _ _ _
  refine wpAny_bind ?_
  unfold Builtin.List.listItems
  refine wpAny_bind (wpAny_seqItems hS rfl (wpAny_pure ?_))
  show wpAny _ X.A.in1.in1 (updateSeq s.heap.objs.size (fun _ => #[]) >>= fun _ => letGo (#[] : Array Value).toList.reverse >>= fun _ => Builtin.List.listExtendWith (.ref s.heap.objs.size) (.ref z) .none) _ _ _
  refine wpAny_bind (wpAny_updateSeq hS rfl ?_)
  have hS2 := Heap.get?_update_self (Obj.mapSeq (fun _ => (#[] : Array Value))) hS rfl
  refine wpAny_bind (wpAny_letGo ?_)
  unfold Builtin.List.listExtendWith
  have up : ∀ (h : Heap) (f : Obj → Obj), (∀ b o, s.heap.get? b = some o → h.get? b = some o) → ∀ b o, s.heap.get? b = some o → (h.update s.heap.objs.size f).get? b = some o := fun h f q b o e =>
    (Heap.get?_update_other _ _ (Ne.symm (Nat.ne_of_lt (Heap.lt_size e)))).trans (q b o e)
  have k1 : ∀ b o, s.heap.get? b = some o → (s.heap.push { cls := .type "list", data := .seq #[] }).get? b = some o := fun b o e => Heap.get?_push_of_some _ e
  have k2 := up _ (Obj.mapSeq (fun _ => (#[] : Array Value))) k1
  have ty : ∀ {h : Heap}, (∀ b o, s.heap.get? b = some o → h.get? b = some o) → ({ s with heap := h } : Shared).TypeIs (.ref z) "zip" := fun {h} q => ⟨_, q _ _ hz, rfl⟩
  refine wpAny_bind (wpAny_typeOf (ty k2) ?_)
  have g1 : Builtin.List.listSameRef (.ref s.heap.objs.size) (.ref z) = false := by
    have := Nat.ne_of_gt (Heap.lt_size hz)
    simp [Builtin.List.listSameRef, this]
  have g2 : (Value.type "zip" == Value.type "list") = false := by decide
  have g3 : (Value.type "zip" == Value.type "tuple") = false := by decide
  simp only [g1, g2, g3, Bool.or_false, Bool.false_eq_true, if_false]
  refine wpAny_bind (wpAny_pyIter_zip (s := { s with heap := _ }) (k2 _ _ hz) ?_)
  refine wpAny_bind (wpAny_holding ?_)
  unfold Builtin.List.listLengthHint
  refine wpAny_bind (wpAny_specialOf (ty k2) zip_has_no_len ?_)
  show wpAny _ X.A.in1.in1 (specialOf (Value.ref z) (Str.ofString "__length_hint__") >>= _) _ _ _
  refine wpAny_bind (wpAny_specialOf (ty k2) zip_has_no_hint ?_)
  refine wpAny_pure ?_
  show wpAny _ X.A.in1.in1 (rule "list.extend.makes-room" >>= fun _ => Builtin.List.listTouch (.ref s.heap.objs.size) >>= fun _ =>
    again (.builtin "list.extend.loop" ⟨[.ref s.heap.objs.size, .ref z, .none], []⟩)) _ _ _
  refine wpAny_bind (wpAny_rule (wpAny_bind ?_))
  show wpAny _ X.A.in1.in1 (updateSeq s.heap.objs.size (·.push .none) >>= fun _ => updateSeq s.heap.objs.size (·.pop)) _ _ _
  refine wpAny_bind (wpAny_updateSeq hS2 rfl ?_)
  have hS3 := Heap.get?_update_self (Obj.mapSeq (·.push Value.none)) hS2 rfl
  refine wpAny_updateSeq (hz := by seq_fits) hS3 rfl ?_
  have hS4 := Heap.get?_update_self (Obj.mapSeq (·.pop)) hS3 rfl
  have k4 := up _ (Obj.mapSeq (·.pop)) (up _ (Obj.mapSeq (·.push Value.none)) k2)
  have nS : ∀ c ∈ [z, TI, TO, i1, i2], c ≠ s.heap.objs.size := fun c hc => Nat.ne_of_lt (hf c hc).2
  refine wpAny_pure ⟨plainId_quiet F.plain_extend_loop _, ?_⟩
  have I4 := I.kept (t' := s.toks) k4
  refine lz_loop (A := X.A.in1) hh Ap nS hn (S := s.heap.objs.size) (L0 := L0) (fun s' H' acc c vs e J f r hl SS => ?_) (zipL ds es).length 0 _ H #[] _ [] (by omega) I4 (fun x hx => ?_) ?_ hS4 .nil rfl ?_
  · refine ⟨rfl, .ref s.heap.objs.size, _, inv_track J f e r (by rw [← hl, sizeLine_eq]; omega), rfl, hQ _ _ ?_⟩
    exact SL.close (ds := (zipL ds es).map D.p) (by rw [List.length_map]; exact hl) (SL.newc SS f.1)
  · have e : ∀ y, y < s.heap.objs.size + 1 → y < ((((s.heap.push { cls := .type "list", data := .seq #[] }).update s.heap.objs.size (Obj.mapSeq (fun _ => #[]))).update s.heap.objs.size (Obj.mapSeq (·.push Value.none))).update s.heap.objs.size (Obj.mapSeq (·.pop))).objs.size := fun y hy => by
      rw [Heap.size_update, Heap.size_update, Heap.size_update, Heap.size_push]
      exact hy
    by_cases hx2 : x = s.heap.objs.size
    · rw [hx2]
      exact ⟨I.fpOk (Nat.le_refl _) (I.hok.fresh (Nat.le_refl _)), e _ (Nat.lt_succ_self _)⟩
    · have hx3 : x ∈ [z, TI, TO, i1, i2] := by
        simp only [List.mem_cons, List.not_mem_nil, or_false] at hx ⊢
        rcases hx with h | h | h | h | h | h
        · exact .inl h
        · exact .inr (.inl h)
        · exact .inr (.inr (.inl h))
        · exact .inr (.inr (.inr (.inl h)))
        · exact .inr (.inr (.inr (.inr h)))
        · exact absurd h hx2
      exact ⟨(hf x hx3).1, e _ (Nat.lt_succ_of_lt (hf x hx3).2)⟩
  · obtain ⟨x, y, hp⟩ := hTO
    exact ⟨k4 _ _ hTI, h1.at fun o e => k4 _ o e, h2.at fun o e => k4 _ o e, .inl ⟨k4 _ _ hz, x, y, k4 _ _ hp⟩⟩
  · rw [List.zip_nil_right]
    exact S1
end
/-! ### the expression -/
def lzipM (fa : MA) : M := fun Γ => (fa Γ).bind fun r => match r.1 with
  | [x, y] => match fz x, fz y with
    | some (.tuple ds), some (.tuple es) => if (zipL ds es).length ≤ 1000000 then some (.l ((zipL ds es).map .p), r.2) else none
    | _, _ => none
  | _ => none
theorem ee_lzip {C : Cx} {e e2 : Expr} {fa : MA} {ls : List (Option Nat)} {p p2 pos pos2 : Pos} (hc : C.calm = true) (hg : Gl C "list") (hm : C.mg "list" = none) (hv : bootBuiltins "list" = some (.type "list")) (zg : Gl C "zip") (zm : C.mg "zip" = none) (ha : PA C [e, e2] (okA C.K ls fa))
    (hs : starEach [.Call (.Name "zip" p2) [e, e2] [] pos2] C.env = (false, eval (.Call (.Name "zip" p2) [e, e2] [] pos2) C.env) :: starEach [] C.env := by rfl)
    (zs : starEach [e, e2] C.env = (false, eval e C.env) :: starEach [e2] C.env := by rfl) (zp : (backTo pos2 (starEach [e2] C.env)).any (·.1) = false := by rfl) :
    PE C (.Call (.Name "list" p) [.Call (.Name "zip" p2) [e, e2] [] pos2] [] pos) (okE C.K (lzipM fa)) := by
  refine ⟨fun pins s σ H Q I h => ?_⟩
  obtain ⟨Γ, X, d, Γ', F1, S1, e1, k⟩ := h
  obtain ⟨⟨xs, Γ2⟩, e2, e1⟩ := bindS e1
  refine wpAny_Call_Name_kw (ld_blt I hg hm hv ?_)
  refine PyProof.Rows.callWith_type1 ?_ hs rfl
  rw [hs]
  show wpAny _ _ (spliced ((false, eval (.Call (.Name "zip" p2) [e, _] [] pos2) C.env) :: backTo pos (starEach [] C.env))) _ _ s
  refine Calls.spliced_cons ?_
  refine PyProof.Rows.Call_ (ld_blt I zg zm PyProof.Rows.boot_zip (PyProof.Rows.callWith_type1 (thn (ha.run pos2 pins s σ H (fun vs H1 => ∃ (ds es : List PyData) (a b : Addr), vs = [.ref a, .ref b] ∧ d = .l ((zipL ds es).map .p) ∧ Γ2 = Γ' ∧ Fits Γ' σ ∧ (zipL ds es).length ≤ 1000000 ∧ SL C.K H1 (zE ds es a b ++ (slots Γ' σ ++ X))) I ⟨Γ, X, xs, Γ2, F1, S1, e2, fun H1 vs F2 hl hL S2 => ?_⟩) fun us s1 hu => ?_) zs zp))
  · dsimp only at e1
    split at e1
    · split at e1
      · rename_i x y ds es q1 q2
        split at e1
        · rename_i hn
          cases e1
          match vs, hl, S2 with
          | [v1, v2], _, S2 =>
            have d1 := S2.dpz q1
            have d2 := S2.drop.dpz q2
            obtain ⟨a, rfl⟩ : ∃ a, v1 = .ref a := by cases d1; exact ⟨_, rfl⟩
            obtain ⟨b, rfl⟩ : ∃ b, v2 = .ref b := by cases d2; exact ⟨_, rfl⟩
            refine ⟨ds, es, a, b, rfl, rfl, rfl, F2, hn, ?_⟩
            have S3 := S2.frz q1
            exact ((S3.perm (List.Perm.swap _ _ _)).frz q2).perm (List.Perm.swap _ _ _)
        · cases e1
      · cases e1
    · cases e1
  · obtain ⟨vs, H1, I1, r1, ds, es, a, b, rfl, rfl, rfl, F2, hn, S2⟩ := hu
    cases r1 with
    | cons ra rr =>
      cases rr with
      | cons rb rr =>
        cases rr
        cases ra
        cases rb
        obtain ⟨xs', hqx, _, _⟩ := S2.atT
        obtain ⟨ys', hqy, _, _⟩ := S2.drop.atT
        obtain ⟨its, rv, p1, _⟩ := I1.tuple hqx
        obtain ⟨its2, rv2, p2', _⟩ := I1.tuple hqy
        obtain ⟨o1, ho1, _⟩ := id p1
        obtain ⟨o2, ho2, _⟩ := id p2'
        refine call_zipT (show s1.heap.IsTuple a its.toArray from p1) (show s1.heap.IsTuple b its2.toArray from p2') fun h' hz hTI hTO h1 h2 hsz hk => ?_
        refine Calls.spliced_nil ?_
        have I2 : Inv C pins σ H1 { s1 with heap := h' } := I1.kept (t' := s1.toks) hk
        refine lz_call (I1.ok.hd hc) I2 (PySem.W.ktu_apart s1.heap.objs.size a b (Heap.lt_size ho1) (Heap.lt_size ho2)) (fun c hcm => ?_) hz hTI ⟨_, _, hTO⟩ h1 h2 hn S2 fun H' v S3 => k H' v F2 S3
        have e' : c = s1.heap.objs.size + 4 ∨ c = s1.heap.objs.size + 2 ∨ c = s1.heap.objs.size + 3 ∨ c = s1.heap.objs.size ∨ c = s1.heap.objs.size + 1 := by simpa using hcm
        have hle : ∃ n : Nat, c = s1.heap.objs.size + n ∧ n < 5 := by
          rcases e' with q | q | q | q | q
          · exact ⟨4, q, by decide⟩
          · exact ⟨2, q, by decide⟩
          · exact ⟨3, q, by decide⟩
          · exact ⟨0, q, by decide⟩
          · exact ⟨1, q, by decide⟩
        obtain ⟨n, rfl, hn5⟩ := hle
        refine ⟨I1.fpOk (Nat.le_add_right _ _) (I1.hok.fresh (Nat.le_add_right _ _)), ?_⟩
        show s1.heap.objs.size + n < h'.objs.size
        rw [hsz]
        exact Nat.add_lt_add_left hn5 _
end GH
namespace GH
open PySem L2 PySem.Spec RZ
/-! ### zip of a tuple and a list -/
section
variable {prog : Program} {w : World} {A : Around} {E : Value → Shared → Prop} {s : Shared} {z TI TO i1 i2 l1 l2 : Addr}
theorem mx_item {k : Nat} {xs ys : Array Value} {x y a b : Value} {Q : Option Value → Shared → Prop} (D : ZipApart z TI TO i1 i2 l1 l2) (hz : IsZip s.heap z TI TO .none) (hTI : IsPair s.heap TI (.ref i1) (.ref i2)) (hTO : IsPair s.heap TO a b)
    (h1 : s.heap.IsTupleIter i1 l1 k) (h2 : s.heap.IsListIter i2 l2 k) (t1 : s.heap.IsTuple l1 xs) (t2 : s.heap.IsList l2 ys) (hx : xs[k]? = some x) (hy : ys[k]? = some y)
    (q : ∀ h', IsZip h' z TI TO (rawInt s.heap.objs.size) → IsPair h' TO x y → h'.IsTupleIter i1 l1 (k + 1) → h'.IsListIter i2 l2 (k + 1) → IsPair h' s.heap.objs.size x y → h'.objs.size = s.heap.objs.size + 1 →
      (∀ c o, c ≠ z → c ≠ TO → c ≠ i1 → c ≠ i2 → s.heap.get? c = some o → h'.get? c = some o) → Q (some (.ref s.heap.objs.size)) { s with heap := h' }) :
    wpAny (model prog w) A (pyNext (.ref z)) Q E s := by
  have ty : s.TypeIs (.ref z) "zip" := ⟨_, hz, rfl⟩
  have go : wpAny (model prog w) A.in1 (Builtin.«zip.__next__» ⟨[.ref z], []⟩) (fun fin s' => ∃ v, fin = .done (.ret v) ∧ Q (some v) s') (fun _ _ => False) s := by
    show wpAny _ _ (field (.ref z) 2 >>= _) _ _ _
    refine wpAny_bind (wpAny_field hz rfl (x := .bool false) rfl ?_)
    show wpAny _ _ (field (.ref z) 3 >>= _) _ _ _
    refine wpAny_bind (wpAny_field hz rfl (x := .ref TI) rfl (wpAny_bind (wpAny_seqItems hTI rfl ?_)))
    show wpAny _ _ (Builtin.SmallTypes.ownedTupleIsFree (.ref z) >>= _) _ _ _
    refine wpAny_bind ?_
    unfold Builtin.SmallTypes.ownedTupleIsFree
    refine wpAny_bind (wpAny_field hz rfl (x := .none) rfl (wpAny_pure ?_))
    simp only [if_true]
    refine wpAny_bind (wpAny_rule (wpAny_bind (wpAny_field hz rfl (x := .ref TO) rfl (wpAny_bind (wpAny_setField_rec hz (by simp) fun g1 z1 s1 => ?_)))))
    replace z1 : IsZip g1 z TI TO .ellipsis := z1
    refine wpAny_bind ?_
    simp only [List.zipIdx_cons, List.zipIdx_nil, List.forIn_cons, List.forIn_nil]
    refine wpAny_bind (wpAny_bind (wpAny_onRaise ?_))
    show wpAny _ _ (Builtin.SmallTypes.nextOf (.ref i1) >>= _) _ _ _
    refine wpAny_bind (nextOf_tuple_item (h1.extBut s1.extBut D.i1z) (t1.extBut s1.extBut D.l1z) hx fun g2 a2 s2 => wpAny_pure ?_)
    have p2 : IsPair g2 TO a b := s2.extBut _ _ D.TOi1 (s1.extBut _ _ D.TOz hTO)
    refine wpAny_bind (wpAny_seqItems p2 rfl (wpAny_bind (wpAny_updateSeq_pair p2 fun g3 p3 s3 => ?_)))
    replace p3 : IsPair g3 TO x b := p3
    refine wpAny_bind (wpAny_letGo (wpAny_pure ?_))
    refine wpAny_bind (wpAny_bind (wpAny_onRaise ?_))
    show wpAny _ _ (Builtin.SmallTypes.nextOf (.ref i2) >>= _) _ _ _
    refine wpAny_bind (wpAny_nextOf_list_item (((h2.extBut s1.extBut D.i2z).extBut s2.extBut D.i12.symm).extBut s3.extBut D.TOi2.symm) (((t2.extBut s1.extBut D.l2z).extBut s2.extBut D.l2i1).extBut s3.extBut D.l2TO) hy fun g4 a4 s4 => wpAny_pure ?_)
    have p4 : IsPair g4 TO x b := s4.extBut _ _ D.TOi2 p3
    refine wpAny_bind (wpAny_seqItems p4 rfl (wpAny_bind (wpAny_updateSeq_pair p4 fun g5 p5 s5 => ?_)))
    replace p5 : IsPair g5 TO x y := p5
    refine wpAny_bind (wpAny_letGo (wpAny_pure (wpAny_pure ?_)))
    refine wpAny_bind (wpAny_seqItems p5 rfl (wpAny_bind (wpAny_newTuple ?_)))
    have e5 : g5.objs.size = s.heap.objs.size := by rw [s5.1, s4.1, s3.1, s2.1, s1.1]
    have z5 : IsZip g5 z TI TO .ellipsis := s5.extBut _ _ D.TOz.symm (s4.extBut _ _ D.i2z.symm (s3.extBut _ _ D.TOz.symm (s2.extBut _ _ D.i1z.symm z1)))
    have k5 : ∀ c o, c ≠ z → c ≠ TO → c ≠ i1 → c ≠ i2 → s.heap.get? c = some o → g5.get? c = some o := fun c o c1 c2 c3 c4 e => s5.extBut _ _ c2 (s4.extBut _ _ c4 (s3.extBut _ _ c2 (s2.extBut _ _ c3 (s1.extBut _ _ c1 e))))
    have b1 : g5.IsTupleIter i1 l1 (k + 1) := ((a2.extBut s3.extBut D.TOi1.symm).extBut s4.extBut D.i12).extBut s5.extBut D.TOi1.symm
    have b2 : g5.IsListIter i2 l2 (k + 1) := a4.extBut s5.extBut D.TOi2.symm
    have zl : z < g5.objs.size := Heap.lt_size z5
    show wpAny _ _ (Builtin.SmallTypes.ownedTupleHandOut (.ref z) (.ref g5.objs.size) >>= _) _ _ _
    refine wpAny_bind ?_
    unfold Builtin.SmallTypes.ownedTupleHandOut
    have z6 : IsZip (g5.push { cls := .type "tuple", data := .seq #[x, y] }) z TI TO .ellipsis := Heap.get?_push_of_some _ z5
    refine wpAny_bind (wpAny_setField_rec z6 (by simp) fun g7 z7 s7 => ?_)
    replace z7 : IsZip g7 z TI TO (rawInt g5.objs.size) := z7
    refine wpAny_setField_rec z7 (by simp) fun g8 z8 s8 => ?_
    replace z8 : IsZip g8 z TI TO (rawInt g5.objs.size) := z8
    have up : ∀ c o, c ≠ z → g5.get? c = some o → g8.get? c = some o := fun c o c1 e => s8.extBut _ _ c1 (s7.extBut _ _ c1 (Heap.get?_push_of_some _ e))
    have t8 : IsPair g8 g5.objs.size x y := s8.extBut _ _ (Nat.ne_of_gt zl) (s7.extBut _ _ (Nat.ne_of_gt zl) (Heap.get?_push_size _ rfl))
    have e8 : g8.objs.size = g5.objs.size + 1 := by rw [s8.1, s7.1, Heap.size_push]
    rw [e5] at z8 t8 e8
    refine wpAny_pure ⟨_, rfl, ?_⟩
    show Q (some (.ref g5.objs.size)) _
    rw [e5]
    exact q g8 z8 (up _ _ D.TOz p5) (b1.at fun o e => up _ o D.i1z e) (b2.at fun o e => up _ o D.i2z e) t8 e8 fun c o c1 c2 c3 c4 e => up c o c1 (k5 c o c1 c2 c3 c4 e)
  unfold pyNext
  refine wpAny_bind (wpAny_attempt (wpAny_callSpecial?_slot (name := Str.ofString "__next__") ty F.slot_zip_next (wpAny_call_entry F.slot_zip_next ty F.entry_zip_next (wpAny_mono go (fun fin s' h => ?_) fun _ _ h => h.elim) (F.args_zip_next_1 _))))
  obtain ⟨v, e, h⟩ := h
  exact ⟨v, e, wpAny_pure h⟩
theorem mx_end {k : Nat} {xs ys : Array Value} {a b : Value} {Q : Option Value → Shared → Prop} (hh : A.handled = none) (D : ZipApart z TI TO i1 i2 l1 l2) (hz : IsZip s.heap z TI TO .none) (hTI : IsPair s.heap TI (.ref i1) (.ref i2)) (hTO : IsPair s.heap TO a b)
    (h1 : s.heap.IsTupleIter i1 l1 k) (h2 : s.heap.IsListIter i2 l2 k) (t1 : s.heap.IsTuple l1 xs) (t2 : s.heap.IsList l2 ys) (he : xs[k]? = none ∨ ys[k]? = none)
    (q : ∀ h', (∀ c o, c ≠ z → c ≠ TO → c ≠ i1 → c ≠ i2 → s.heap.get? c = some o → h'.get? c = some o) → Q none { s with heap := h' }) : wpAny (model prog w) A (pyNext (.ref z)) Q E s := by
  have ty : s.TypeIs (.ref z) "zip" := ⟨_, hz, rfl⟩
  have go : wpAny (model prog w) A.in1 (Builtin.«zip.__next__» ⟨[.ref z], []⟩) (fun _ _ => False) (fun e s' => ∃ h', s' = { s with heap := h' } ∧ (∀ c o, c ≠ z → c ≠ TO → c ≠ i1 → c ≠ i2 → s.heap.get? c = some o → h'.get? c = some o) ∧ ∃ a o, e = .ref a ∧ h'.get? a = some o ∧ o.cls = .type "StopIteration") s := by
    show wpAny _ _ (field (.ref z) 2 >>= _) _ _ _
    refine wpAny_bind (wpAny_field hz rfl (x := .bool false) rfl ?_)
    show wpAny _ _ (field (.ref z) 3 >>= _) _ _ _
    refine wpAny_bind (wpAny_field hz rfl (x := .ref TI) rfl (wpAny_bind (wpAny_seqItems hTI rfl ?_)))
    show wpAny _ _ (Builtin.SmallTypes.ownedTupleIsFree (.ref z) >>= _) _ _ _
    refine wpAny_bind ?_
    unfold Builtin.SmallTypes.ownedTupleIsFree
    refine wpAny_bind (wpAny_field hz rfl (x := .none) rfl (wpAny_pure ?_))
    simp only [if_true]
    refine wpAny_bind (wpAny_rule (wpAny_bind (wpAny_field hz rfl (x := .ref TO) rfl (wpAny_bind (wpAny_setField_rec hz (by simp) fun g1 z1 s1 => ?_)))))
    replace z1 : IsZip g1 z TI TO .ellipsis := z1
    refine wpAny_bind ?_
    simp only [List.zipIdx_cons, List.zipIdx_nil, List.forIn_cons, List.forIn_nil]
    refine wpAny_bind (wpAny_bind (wpAny_onRaise ?_))
    show wpAny _ _ (Builtin.SmallTypes.nextOf (.ref i1) >>= _) _ _ _
    cases hx : xs[k]? with
    | none =>
      refine wpAny_bind (nextOf_tuple_end hh (h1.extBut s1.extBut D.i1z) (t1.extBut s1.extBut D.l1z) hx fun g2 e s2 ⟨o, ho, hc⟩ => ?_)
      have z2 : IsZip g2 z TI TO .ellipsis := s2 _ _ D.i1z.symm z1
      have hez : e ≠ z := fun x => by subst x; rw [z2] at ho; cases ho; simp at hc
      exact wpAny_setField_rec z2 (by simp) fun g3 _ s3 => ⟨g3, rfl, fun c o c1 _ c3 _ x => s3.extBut _ _ c1 (s2 _ _ c3 (s1.extBut _ _ c1 x)), e, o, rfl, s3.extBut _ _ hez ho, hc⟩
    | some x =>
      have hy : ys[k]? = none := he.elim (fun h => by rw [hx] at h; cases h) id
      refine wpAny_bind (nextOf_tuple_item (h1.extBut s1.extBut D.i1z) (t1.extBut s1.extBut D.l1z) hx fun g2 a2 s2 => wpAny_pure ?_)
      have p2 : IsPair g2 TO a b := s2.extBut _ _ D.TOi1 (s1.extBut _ _ D.TOz hTO)
      refine wpAny_bind (wpAny_seqItems p2 rfl (wpAny_bind (wpAny_updateSeq_pair p2 fun g3 p3 s3 => ?_)))
      refine wpAny_bind (wpAny_letGo (wpAny_pure ?_))
      refine wpAny_bind (wpAny_bind (wpAny_onRaise ?_))
      show wpAny _ _ (Builtin.SmallTypes.nextOf (.ref i2) >>= _) _ _ _
      refine wpAny_bind (wpAny_nextOf_list_end hh (((h2.extBut s1.extBut D.i2z).extBut s2.extBut D.i12.symm).extBut s3.extBut D.TOi2.symm) (((t2.extBut s1.extBut D.l2z).extBut s2.extBut D.l2i1).extBut s3.extBut D.l2TO) hy fun g4 e s4 ⟨o, ho, hc⟩ => ?_)
      have z4 : IsZip g4 z TI TO .ellipsis := s4 _ _ D.i2z.symm (s3.extBut _ _ D.TOz.symm (s2.extBut _ _ D.i1z.symm z1))
      have hez : e ≠ z := fun x => by subst x; rw [z4] at ho; cases ho; simp at hc
      exact wpAny_setField_rec z4 (by simp) fun g5 _ s5 => ⟨g5, rfl, fun c o c1 c2 c3 c4 x => s5.extBut _ _ c1 (s4 _ _ c4 (s3.extBut _ _ c2 (s2.extBut _ _ c3 (s1.extBut _ _ c1 x)))), e, o, rfl, s5.extBut _ _ hez ho, hc⟩
  unfold pyNext
  refine wpAny_bind (wpAny_attempt (wpAny_callSpecial?_slot (name := Str.ofString "__next__") ty F.slot_zip_next (wpAny_call_entry F.slot_zip_next ty F.entry_zip_next (wpAny_mono go (fun _ _ h => h.elim) fun e s' h => ?_) (F.args_zip_next_1 _))))
  obtain ⟨h', rfl, hk, a, o, rfl, ho, hc⟩ := h
  exact wpAny_bind (wpAny_isInstance (T := "StopIteration") (b := true) ⟨o, ho, hc⟩ isSubtype_stop (wpAny_pure (q h' hk)))
end
abbrev mxH1 (h : Heap) (l1 : Addr) : Heap := h.push { cls := .type "tuple_iterator", data := .fields #[.ref l1, .int 0 0] }
abbrev mxH2 (h : Heap) (l1 l2 : Addr) : Heap := (mxH1 h l1).push { cls := .type "list_iterator", data := .fields #[.ref l2, .int 0 0] }
abbrev mxH3 (h : Heap) (l1 l2 : Addr) : Heap := (mxH2 h l1 l2).push { cls := .type "tuple", data := .seq #[.ref h.objs.size, .ref (mxH1 h l1).objs.size] }
abbrev mxH4 (h : Heap) (l1 l2 : Addr) : Heap := (mxH3 h l1 l2).push { cls := .type "tuple", data := .seq #[.none, .none] }
abbrev mxH5 (h : Heap) (l1 l2 : Addr) : Heap := (mxH4 h l1 l2).push { cls := .type "zip", data := .fields #[.none, .bool false, .bool false, .ref (mxH2 h l1 l2).objs.size, .ref (mxH3 h l1 l2).objs.size] }
theorem meets_mx (l1 l2 : Addr) (xs ys : Array Value) :
    Meets (Builtin.«zip.__new__» ⟨[.type "zip", .ref l1, .ref l2], []⟩) (fun _ R s => s.heap.IsTuple l1 xs ∧ s.heap.IsList l2 ys ∧ R (.ok (.ret (.ref (mxH4 s.heap l1 l2).objs.size))) { s with heap := mxH5 s.heap l1 l2 }) :=
  .of_wp fun prog w A R s h => by
    obtain ⟨hp, g, d, tk, os⟩ := s
    obtain ⟨hl1, hl2, h⟩ := h
    have hsub := sub_zip
    have hL1 : Heap.IsTuple (Shared.heap ⟨hp, g, d, tk, os⟩) l1 xs := hl1
    have hL2 : Heap.IsList (Shared.heap ⟨hp.push { cls := .type "tuple_iterator", data := .fields #[.ref l1, .int 0 0] }, g, d, tk, os⟩) l2 ys := Heap.IsList.push hl2 _
    wp_walk using wpAny_pyIter_tuple hL1, wpAny_pyIter_list hL2
    exact ⟨_, rfl, h⟩
theorem call_mx {prog : Program} {w : World} {A : Around} {E : Value → Shared → Prop} {s : Shared} {l1 l2 : Addr} {xs ys : Array Value} {Q : Value → Shared → Prop} (hl1 : s.heap.IsTuple l1 xs) (hl2 : s.heap.IsList l2 ys)
    (h : ∀ h', IsZip h' (s.heap.objs.size + 4) (s.heap.objs.size + 2) (s.heap.objs.size + 3) .none → IsPair h' (s.heap.objs.size + 2) (.ref s.heap.objs.size) (.ref (s.heap.objs.size + 1)) → IsPair h' (s.heap.objs.size + 3) .none .none → h'.IsTupleIter s.heap.objs.size l1 0 → h'.IsListIter (s.heap.objs.size + 1) l2 0 →
      (∀ c o, s.heap.get? c = some o → h'.get? c = some o) → Q (.ref (s.heap.objs.size + 4)) { s with heap := h' }) : wpAny (model prog w) A (call (.type "zip") [.ref l1, .ref l2]) Q E s := by
  refine callType_new F.called_zip (by decide) (F.typeCall_zip_2 _ _) (F.newCall_zip_2 _ _) (fun obj => F.args_object_init_3 obj _ _) F.entry_zip_new (meets_mx l1 l2 xs ys) ⟨hl1, hl2, ?_⟩
  have n1 : (mxH1 s.heap l1).objs.size = s.heap.objs.size + 1 := Heap.size_push ..
  have n2 : (mxH2 s.heap l1 l2).objs.size = s.heap.objs.size + 2 := by rw [Heap.size_push, n1]
  have n3 : (mxH3 s.heap l1 l2).objs.size = s.heap.objs.size + 3 := by rw [Heap.size_push, n2]
  have n4 : (mxH4 s.heap l1 l2).objs.size = s.heap.objs.size + 4 := by rw [Heap.size_push, n3]
  have g5 : (mxH5 s.heap l1 l2).get? (mxH4 s.heap l1 l2).objs.size = some _ := Heap.get?_push_size _ rfl
  have g4 : (mxH5 s.heap l1 l2).get? (mxH3 s.heap l1 l2).objs.size = some _ := Heap.get?_push_of_some _ (Heap.get?_push_size _ rfl)
  have g3 : (mxH5 s.heap l1 l2).get? (mxH2 s.heap l1 l2).objs.size = some _ := Heap.get?_push_of_some _ (Heap.get?_push_of_some _ (Heap.get?_push_size _ rfl))
  have g2 : (mxH5 s.heap l1 l2).get? (mxH1 s.heap l1).objs.size = some _ := Heap.get?_push_of_some _ (Heap.get?_push_of_some _ (Heap.get?_push_of_some _ (Heap.get?_push_size _ rfl)))
  have g1 : (mxH5 s.heap l1 l2).get? s.heap.objs.size = some _ := Heap.get?_push_of_some _ (Heap.get?_push_of_some _ (Heap.get?_push_of_some _ (Heap.get?_push_of_some _ (Heap.get?_push_size _ rfl))))
  show _ ∧ _
  rw [n2, n3, n4] at g5
  rw [n1, n2] at g3
  rw [n3] at g4
  rw [n1] at g2
  rw [n4]
  exact ⟨⟨_, g5, rfl⟩, h _ g5 g3 g4 ⟨_, g1, rfl, rfl⟩ ⟨_, g2, rfl, rfl⟩ fun c o x => Heap.get?_push_of_some _ (Heap.get?_push_of_some _ (Heap.get?_push_of_some _ (Heap.get?_push_of_some _ (Heap.get?_push_of_some _ x))))⟩
/-- the tuple at a and the list at b as they stand at each turn, the items in new pairs -/
def ItzX (K : PySem.W.Frag) (a b : Addr) : It :=
  ⟨fun i H => ∃ (xs ys : List V) (x y : V), SqT K H a xs ∧ SqL K H b ys ∧ xs[i]? = some x ∧ ys[i]? = some y,
    fun i H v H' => ∃ T x y, v = .ref T ∧ H T = none ∧ H' = upd H T (.tup [x, y]) ∧ (∀ xs, SqT K H a xs → xs[i]? = some x) ∧ ∀ ys, SqL K H b ys → ys[i]? = some y,
    fun i H => ∃ xs ys : List V, SqT K H a xs ∧ SqL K H b ys ∧ (xs.length ≤ i ∨ ys.length ≤ i)⟩
theorem five {a b c d e x : Addr} (h : x ∈ [a, b, c, d, e]) : x = a ∨ x = b ∨ x = c ∨ x = d ∨ x = e := by simpa using h
theorem turn_mx {P : Program} {w : World} {K : PySem.W.Frag} {elts : List Expr} {kk : Nat} {tpos : Pos} {a b z TI TO i1 i2 : Addr} (D : ZipApart z TI TO i1 i2 a b) :
    Turn P w K (.Tuple elts kk tpos) (ItzX K a b) [z, TI, TO, i1, i2] z (fun i h => IsZip h z TI TO .none ∧ IsPair h TI (.ref i1) (.ref i2) ∧ (∃ x y, IsPair h TO x y) ∧ h.IsTupleIter i1 a i ∧ h.IsListIter i2 b i) where
  mem := by simp
  obj := fun i h st c hc => by
    obtain ⟨hz, hTI, ⟨x, y, hTO⟩, ⟨o1, e1, _, d1⟩, ⟨o2, e2, _, d2⟩⟩ := st
    rcases five hc with rfl | rfl | rfl | rfl | rfl
    · exact ⟨_, hz, fun v q => nomatch q⟩
    · exact ⟨_, hTI, fun v q => nomatch q⟩
    · exact ⟨_, hTO, fun v q => nomatch q⟩
    · exact ⟨o1, e1, fun v q => by rw [d1] at q; cases q⟩
    · exact ⟨o2, e2, fun v q => by rw [d2] at q; cases q⟩
  keep := fun i h h' st k => by
    obtain ⟨hz, hTI, ⟨x, y, hTO⟩, h1, h2⟩ := st
    exact ⟨k z (by simp) _ hz, k TI (by simp) _ hTI, ⟨x, y, k TO (by simp) _ hTO⟩, h1.at fun o q => k i1 (by simp) o q, h2.at fun o q => k i2 (by simp) o q⟩
  item := by
    intro X hP hw hK hc i pins s σ H E I hf st hg
    subst hP hw hK
    obtain ⟨hz, hTI, ⟨x0, y0, hTO⟩, h1, h2⟩ := st
    obtain ⟨xs, ys, x, y, qx, qy, hx, hy⟩ := hg
    obtain ⟨its, rx, px, _⟩ := I.tuple qx
    obtain ⟨its2, ry, py, _⟩ := I.list qy
    obtain ⟨u, hu, ru⟩ := rx.get hx
    obtain ⟨u2, hu2, ru2⟩ := ry.get hy
    have zl : z < s.heap.objs.size := Heap.lt_size hz
    refine mx_item D hz hTI hTO h1 h2 px py.isList (x := u) (y := u2) (by simpa using hu) (by simpa using hu2) fun h' z' TO' h1' h2' hT hsz hk => ?_
    refine ⟨_, rfl, wpAny_letOwnedTupleGo_zip (s := { s with heap := h' }) z' fun g z'' sb => ?_⟩
    have hT2 : g.get? s.heap.objs.size = some { cls := .type "tuple", data := .seq #[u, u2] } := (sb.2 _ (Nat.ne_of_gt zl)).trans hT
    have new : ObjOk X.prog X.w (upd H s.heap.objs.size (.tup [x, y])) g s.heap.objs.size (.tup [x, y]) := ⟨by show 2 ≤ sizeLine; decide, [u, u2], .cons ru (.cons ru2 .nil), ⟨_, hT2, rfl, _, rfl⟩⟩
    have I1 : Inv X pins σ (upd H s.heap.objs.size (.tup [x, y])) { s with heap := g } :=
      I.turnedNew (t' := s.toks) (ch := [z, TI, TO, i1, i2]) (fun c o hb q => (sb.2 c (fun w => hb (by simp [w]))).trans (hk c o (fun w => hb (by simp [w])) (fun w => hb (by simp [w])) (fun w => hb (by simp [w])) (fun w => hb (by simp [w])) q)) hf (Nat.le_refl _) new
    refine ⟨.ref s.heap.objs.size, _, I1, rfl, ⟨_, x, y, rfl, I.hok.fresh (Nat.le_refl _), rfl, fun l hl => by rw [I.tuple_inj hl qx]; exact hx, fun l hl => by rw [I.list_inj hl qy]; exact hy⟩, ⟨z'', ?_, ⟨u, u2, ?_⟩, ?_, ?_⟩, fun c hcm => ?_⟩
    · exact (sb.2 _ D.TIz).trans (hk _ _ D.TIz D.TITO D.TIi1 D.TIi2 hTI)
    · exact (sb.2 _ D.TOz).trans TO'
    · exact h1'.at fun o q => (sb.2 _ D.i1z).trans q
    · exact h2'.at fun o q => (sb.2 _ D.i2z).trans q
    · have hlt : c < s.heap.objs.size := by
        rcases five hcm with rfl | rfl | rfl | rfl | rfl
        · exact zl
        · exact Heap.lt_size hTI
        · exact Heap.lt_size hTO
        · obtain ⟨_, e1, _⟩ := h1; exact Heap.lt_size e1
        · obtain ⟨_, e2, _⟩ := h2; exact Heap.lt_size e2
      rw [upd_ne (Nat.ne_of_lt hlt)]
      exact (hf c hcm).1
  done := by
    intro X hP hw hK hc i pins s σ H E I hf st hg
    subst hP hw hK
    obtain ⟨hz, hTI, ⟨x0, y0, hTO⟩, h1, h2⟩ := st
    obtain ⟨xs, ys, qx, qy, hend⟩ := hg
    obtain ⟨its, rx, px, _⟩ := I.tuple qx
    obtain ⟨its2, ry, py, _⟩ := I.list qy
    have n1 := rx.length
    have n2 := ry.length
    have he : its.toArray[i]? = none ∨ its2.toArray[i]? = none := by
      rcases hend with q | q
      · exact .inl (by simp; omega)
      · exact .inr (by simp; omega)
    exact mx_end (I.ok.hd hc) D hz hTI hTO h1 h2 px py.isList he fun h' hk => ⟨rfl, I.turnedL (t' := s.toks) (ch := [z, TI, TO, i1, i2]) (fun c o hb q => hk c o (fun w => hb (by simp [w])) (fun w => hb (by simp [w])) (fun w => hb (by simp [w])) (fun w => hb (by simp [w])) q) hf⟩
  self := fun A i s Q E st h => wpAny_pyIter_zip st.1 h
def iZipX (K : PySem.W.Frag) (ta : TA) : TI := fun σ H R => ta σ H fun vs H1 => ∃ a b xs ys, vs = [.ref a, .ref b] ∧ SqT K H1 a xs ∧ SqL K H1 b ys ∧ R (ItzX K a b) H1
theorem pi_zipX {X : Cx} {e e2 : Expr} {ta : TA} {p pos tpos : Pos} {elts : List Expr} {kk : Nat} (hg : Gl X "zip") (hm : X.mg "zip" = none) (ha : PA X [e, e2] ta) (hs : starEach [e, e2] X.env = (false, eval e X.env) :: starEach [e2] X.env := by rfl)
    (hpl : (backTo pos (starEach [e2] X.env)).any (·.1) = false := by rfl) : PI X (.Tuple elts kk tpos) (.Call (.Name "zip" p) [e, e2] [] pos) (iZipX X.K ta) := by
  refine ⟨fun pins s σ H R I h => ?_⟩
  refine PyProof.Rows.Call_ (ld_blt I hg hm PyProof.Rows.boot_zip (PyProof.Rows.callWith_type1 (thn (ha.run pos pins s σ H _ I h) fun us s1 ⟨vs, H1, I1, r1, a, b, xs, ys, ev, qx, qy, q⟩ => ?_) hs hpl))
  subst ev
  cases r1 with
  | cons ra rr =>
    cases rr with
    | cons rb rr =>
      cases rr
      cases ra
      cases rb
      obtain ⟨its, rx, px, _⟩ := I1.tuple qx
      obtain ⟨its2, ry, py, _⟩ := I1.list qy
      obtain ⟨o1, ho1, _⟩ := id px
      refine call_mx (show s1.heap.IsTuple a its.toArray from px) py.isList fun h' hz hTI hTO h1 h2 hk => wpAny_pyIter_zip hz ?_
      have I2 : Inv X pins σ H1 { s1 with heap := h' } := I1.kept (t' := s1.toks) hk
      refine ⟨s1.heap.objs.size + 4, [s1.heap.objs.size + 4, s1.heap.objs.size + 2, s1.heap.objs.size + 3, s1.heap.objs.size, s1.heap.objs.size + 1], _, _, H1, rfl, I2, turn_mx (PySem.W.ktu_apart s1.heap.objs.size a b (Heap.lt_size ho1) py.lt), ⟨hz, hTI, ⟨_, _, hTO⟩, h1, h2⟩, fun c hcm => ?_, q⟩
      have hle : ∃ n : Nat, c = s1.heap.objs.size + n := by
        rcases five hcm with q | q | q | q | q
        · exact ⟨4, q⟩
        · exact ⟨2, q⟩
        · exact ⟨3, q⟩
        · exact ⟨0, q⟩
        · exact ⟨1, q⟩
      obtain ⟨n, rfl⟩ := hle
      exact I1.fpOk (Nat.le_add_right _ _) (I1.hok.fresh (Nat.le_add_right _ _))
theorem srv_zipX {K : PySem.W.Frag} {a b : Addr} {ds es : List PyData} : Srv K (ItzX K a b) [(.p (.tuple ds), .ref a), (.p (.list es), .ref b)] (zipL ds es) where
  go := fun i H L S hi => by
    rw [zipL_len] at hi
    obtain ⟨xs, hx, hl, _⟩ := SL.atT S
    obtain ⟨ys, hy, hm, _⟩ := SL.atL (SL.drop S)
    exact ⟨xs, ys, xs[i], ys[i], hx, hy, List.getElem?_eq_getElem (by omega), List.getElem?_eq_getElem (by omega)⟩
  yld := fun i H L x H' S y d hd => by
    obtain ⟨T, z, w, rfl, hT, rfl, y1, y2⟩ := y
    obtain ⟨p, q, hp, hq, rfl⟩ := zipL_get hd
    obtain ⟨xs, hx, hl, S1⟩ := SL.atT S
    have S2 := S1.pickL hp (y1 xs hx)
    have S4 : SL K H ((.p (.list es), .ref b) :: ((.p p, z) :: (.p (.tuple ds), .ref a) :: L)) := S2.perm ((List.Perm.cons _ (.swap _ _ _)).trans (.swap _ _ _))
    obtain ⟨ys', hy', hm', S5⟩ := SL.atL S4
    have S6 := S5.pickL hq (y2 ys' hy')
    have S7 : SL K H ((.p p, z) :: (.p q, w) :: (.p (.tuple ds), .ref a) :: (.p (.list es), .ref b) :: L) := S6.perm ((List.Perm.cons _ (.swap _ _ _)).trans ((List.Perm.swap _ _ _).trans (List.Perm.cons _ (List.Perm.cons _ (.swap _ _ _)))))
    exact SL.pair S7 hT
  stop := fun H L S => by
    obtain ⟨xs, hx, hl, _⟩ := SL.atT S
    obtain ⟨ys, hy, hm, _⟩ := SL.atL (SL.drop S)
    exact ⟨xs, ys, hx, hy, by rw [zipL_len]; omega⟩
theorem pi_alt {C : Cx} {tg e : Expr} {t1 t2 : TI} (h1 : PI C tg e t1) (h2 : PI C tg e t2) : PI C tg e (fun σ H R => t1 σ H R ∨ t2 σ H R) := ⟨fun pins s σ H R I q => q.elim (h1.run pins s σ H R I) (h2.run pins s σ H R I)⟩
/-- zip of lists, of tuples, of a tuple and a list -/
def zipX (fa : MA) : MI := fun Γ => (fa Γ).bind fun r => match r.1 with
  | [d, e] => match fz d, fz e with
    | some (.tuple ds), some (.list es) => some (zipL ds es, r.2)
    | _, _ => none
  | _ => none
def zipA (fa : MA) : MI := fun Γ => match zipX fa Γ with
  | some r => some r
  | none => zipI fa Γ
theorem ei_zipX {C : Cx} {e e2 : Expr} {fa : MA} {ls : List (Option Nat)} {p pos tpos : Pos} {elts : List Expr} {kk : Nat} (hg : Gl C "zip") (hm : C.mg "zip" = none) (ha : PA C [e, e2] (okA C.K ls fa)) (hs : starEach [e, e2] C.env = (false, eval e C.env) :: starEach [e2] C.env := by rfl)
    (hpl : (backTo pos (starEach [e2] C.env)).any (·.1) = false := by rfl) : PI C (.Tuple elts kk tpos) (.Call (.Name "zip" p) [e, e2] [] pos) (okI C.K (zipX fa)) := (pi_zipX hg hm ha hs hpl).gimp fun σ H R ⟨Γ, X, ds, Γ', F, S, e, k⟩ => by
  obtain ⟨⟨d, Γ1⟩, e1, e⟩ := bindS e
  refine ⟨Γ, X, d, Γ1, F, S, e1, fun H1 vs F1 hl _ S1 => ?_⟩
  dsimp only at e
  split at e
  · rename_i d1 d2
    match vs, hl, S1 with
    | [x, y], _, S1 =>
      have S1 : SL C.K H1 ((d1, x) :: (d2, y) :: (slots _ σ ++ X)) := S1
      split at e
      · rename_i qs rs eq er
        cases e
        have S2 := ((S1.frz eq).swp.frz er).swp
        obtain ⟨a, xs, rfl, hx, _, _⟩ := S2.items
        obtain ⟨b, ys, rfl, hy, _, _⟩ := S2.drop.itemsL
        exact ⟨a, b, xs, ys, rfl, hx, hy, k H1 _ _ F1 srv_zipX S2⟩
      · cases e
  · cases e
theorem ei_zipA {C : Cx} {e e2 : Expr} {fa : MA} {ls : List (Option Nat)} {p pos tpos : Pos} {elts : List Expr} {kk : Nat} (hg : Gl C "zip") (hm : C.mg "zip" = none) (ha : PA C [e, e2] (okA C.K ls fa)) (hs : starEach [e, e2] C.env = (false, eval e C.env) :: starEach [e2] C.env := by rfl)
    (hpl : (backTo pos (starEach [e2] C.env)).any (·.1) = false := by rfl) : PI C (.Tuple elts kk tpos) (.Call (.Name "zip" p) [e, e2] [] pos) (okI C.K (zipA fa)) := (pi_alt (ei_zipX hg hm ha hs hpl) (ei_zip hg hm ha hs hpl)).gimp fun σ H R ⟨Γ, X, ds, Γ', F, S, e, k⟩ => by
  unfold zipA at e
  split at e
  · rename_i r er
    cases e
    exact .inl ⟨Γ, X, ds, Γ', F, S, er, k⟩
  · exact .inr ⟨Γ, X, ds, Γ', F, S, e, k⟩
/-! evaluation rules -/
theorem w_zipTT {fa : MA} {Γ : Nv} {QI : List PyData → Nv → Prop} (k : wA fa Γ fun xs Γ1 => ∃ ds es, xs = [.p (.tuple ds), .p (.tuple es)] ∧ QI (zipL ds es) Γ1) : wI (zipA fa) Γ QI := by
  obtain ⟨_, Γ1, e1, ds, es, rfl, k⟩ := k
  exact ⟨_, _, by unfold zipA zipX zipI; rw [e1]; rfl, k⟩
theorem w_zipTL {fa : MA} {Γ : Nv} {QI : List PyData → Nv → Prop} (k : wA fa Γ fun xs Γ1 => ∃ ds es, xs = [.p (.tuple ds), .p (.list es)] ∧ QI (zipL ds es) Γ1) : wI (zipA fa) Γ QI := by
  obtain ⟨_, Γ1, e1, ds, es, rfl, k⟩ := k
  exact ⟨_, _, by unfold zipA zipX; rw [e1]; rfl, k⟩
theorem w_lzip {fa : MA} {Γ : Nv} {Q : KD} (k : wA fa Γ fun xs Γ1 => ∃ ds es, xs = [.p (.tuple ds), .p (.tuple es)] ∧ (zipL ds es).length ≤ 1000000 ∧ Q (.l ((zipL ds es).map .p)) Γ1) : wE (lzipM fa) Γ Q := by
  obtain ⟨_, Γ1, e1, ds, es, rfl, hn, k⟩ := k
  refine ⟨_, _, ?_, k⟩
  unfold lzipM
  rw [e1]
  show (if _ then _ else _) = _
  rw [if_pos hn]
end GH
namespace GH
open PySem L2
/-! ### dicts that are owned, of fixed text keys -/
theorem dks_map : ∀ {ks : List Str} {vs : List V}, (dks ks vs).map (fun kv => (kV kv.1, kv.2)) = (ks.map V.str).zip vs
  | [], _ => rfl
  | _ :: _, [] => rfl
  | k :: ks, v :: vs => by
    show (V.str k, v) :: (dks ks vs).map (fun kv => (kV kv.1, kv.2)) = _
    rw [dks_map (ks := ks) (vs := vs)]
    rfl
theorem dks_len {ks : List Str} {vs : List V} (h : ks.length = vs.length) : (dks ks vs).length = ks.length := by
  unfold dks
  rw [List.length_zip, List.length_map, ← h, Nat.min_self]
theorem dks_val : ∀ {ks : List Str} {vs : List V} {c : Nat} {key : Str}, ks.Nodup → ks[c]? = some key → valV (dks ks vs) (Sum.inr key : Key) = vs[c]?
  | [], _, _, _, _, h => by simp at h
  | _ :: _, [], c, key, _, h => by
    show valV ([] : List (Key × V)) _ = _
    rw [valV_nil]
    simp
  | k :: ks, v :: vs, 0, key, _, h => by
    simp at h
    subst h
    show valV ((Sum.inr k, v) :: dks ks vs) (Sum.inr k : Key) = _
    rw [valV_pos rfl]
    rfl
  | k :: ks, v :: vs, c + 1, key, nd, h => by
    obtain ⟨n1, n2⟩ := List.nodup_cons.mp nd
    have h' : ks[c]? = some key := by simpa using h
    have ne : k ≠ key := fun z => n1 (z ▸ List.mem_of_getElem? h')
    show valV ((Sum.inr k, v) :: dks ks vs) (Sum.inr key : Key) = _
    rw [valV_neg (fun z => ne (Sum.inr.inj z)), dks_val n2 h']
    rfl
theorem put_neg {κ : Type} [DecidableEq κ] {p : κ × V} {r : List (κ × V)} {k : κ} {v : V} (e : ¬ p.1 = k) : putK (p :: r) k v = p :: putK r k v := by
  unfold putK
  rw [List.any_cons, decide_eq_false e, Bool.false_or, List.map_cons, if_neg e]
  split <;> rfl
theorem map_id_of {κ : Type} [DecidableEq κ] {k : κ} {v : V} : ∀ {r : List (κ × V)}, (∀ p ∈ r, ¬ p.1 = k) → r.map (fun kv => if kv.1 = k then (kv.1, v) else kv) = r
  | [], _ => rfl
  | p :: r, h => by rw [List.map_cons, if_neg (h p List.mem_cons_self), map_id_of fun q hq => h q (List.mem_cons_of_mem _ hq)]
theorem dks_keys {ks : List Str} {vs : List V} {p : Key × V} (h : p ∈ dks ks vs) : ∃ k ∈ ks, p.1 = Sum.inr k := by
  have := (List.of_mem_zip (show (p.1, p.2) ∈ (ks.map Sum.inr).zip vs from h)).1
  obtain ⟨k, hk, e⟩ := List.mem_map.mp this
  exact ⟨k, hk, e.symm⟩
theorem dks_put : ∀ {ks : List Str} {vs : List V} {c : Nat} {key : Str} {v : V}, ks.length = vs.length → ks.Nodup → ks[c]? = some key → putK (dks ks vs) (Sum.inr key : Key) v = dks ks (vs.set c v)
  | [], _, _, _, _, _, _, h => by simp at h
  | k :: ks, u :: vs, 0, key, v, _, nd, h => by
    simp at h
    subst h
    have n1 := (List.nodup_cons.mp nd).1
    show putK ((Sum.inr k, u) :: dks ks vs) (Sum.inr k : Key) v = (Sum.inr k, v) :: dks ks vs
    unfold putK
    rw [List.any_cons, decide_eq_true rfl, Bool.true_or, if_pos rfl, List.map_cons, if_pos rfl, map_id_of fun p hp z => ?_]
    obtain ⟨k', hk', e⟩ := dks_keys hp
    exact n1 ((Sum.inr.inj (e.symm.trans z)) ▸ hk')
  | k :: ks, u :: vs, c + 1, key, v, hl, nd, h => by
    obtain ⟨n1, n2⟩ := List.nodup_cons.mp nd
    have h' : ks[c]? = some key := by simpa using h
    have ne : k ≠ key := fun z => n1 (z ▸ List.mem_of_getElem? h')
    show putK ((Sum.inr k, u) :: dks ks vs) (Sum.inr key : Key) v = (Sum.inr k, u) :: dks ks (vs.set c v)
    rw [put_neg (fun z => ne (Sum.inr.inj z)), dks_put (Nat.succ.inj hl) n2 h']
theorem put_new {κ : Type} [DecidableEq κ] {r : List (κ × V)} {k : κ} {v : V} (h : ∀ p ∈ r, ¬ p.1 = k) : putK r k v = r ++ [(k, v)] := by
  unfold putK
  rw [if_neg]
  intro z
  obtain ⟨p, hp, e⟩ := List.any_eq_true.mp z
  exact h p hp (of_decide_eq_true e)
theorem merge_new : ∀ {more kvs : List (Key × V)}, ((kvs ++ more).map (·.1)).Nodup → mergeK kvs more = kvs ++ more
  | [], kvs, _ => by
    show kvs = kvs ++ []
    rw [List.append_nil]
  | p :: more, kvs, nd => by
    show mergeK (putK kvs p.1 p.2) more = _
    have hn : ∀ q ∈ kvs, ¬ q.1 = p.1 := fun q hq z => by
      rw [List.map_append, List.map_cons] at nd
      exact (List.nodup_append.mp nd).2.2 q.1 (List.mem_map.mpr ⟨q, hq, rfl⟩) p.1 List.mem_cons_self z
    rw [put_new hn, merge_new (by rw [List.append_assoc]; exact nd), List.append_assoc]
    rfl
theorem dks_fst {ks : List Str} {vs : List V} (h : ks.length = vs.length) : (dks ks vs).map (·.1) = ks.map Sum.inr := by
  unfold dks
  exact List.map_fst_zip (by rw [List.length_map]; omega)
theorem inr_nodup {ks : List Str} (h : ks.Nodup) : (ks.map (Sum.inr : Str → Key)).Nodup := by
  induction ks with
  | nil => exact List.nodup_nil
  | cons k ks ih =>
    obtain ⟨n1, n2⟩ := List.nodup_cons.mp h
    refine List.nodup_cons.mpr ⟨fun z => ?_, ih n2⟩
    obtain ⟨k', hk, e⟩ := List.mem_map.mp z
    exact n1 (Sum.inr.inj e ▸ hk)
theorem dks_merge {ks : List Str} {vs : List V} (h : ks.length = vs.length) (nd : ks.Nodup) : mergeK [] (dks ks vs) = dks ks vs := by
  refine merge_new ?_
  rw [List.nil_append, dks_fst h]
  exact inr_nodup nd
theorem units1 {k : Nat} {A : Around} (r : Room k A) : A.units + 1 < cLine := by
  have := units65 r
  omega
/-! displays -/
def mkM (ks : List Str) : List D → Option D := fun ds => if ds.length = ks.length then some (.m ks ds) else none
section
variable {C : Cx} {a b e : Expr} {es : List Expr} {f g : M} {fa : MA} {pos p apos cpos : Pos} {i c : Nat} {ls : List (Option Nat)} {ks : List Str} {key : Str}
variable {K : PySem.W.Frag} {H : Hp} {Γ : Nv} {σ : St} {X L : List (D × V)}
structure KDx (C : Cx) (pos : Pos) (keys : List (Option Expr)) (vals : List Expr) (ks : List Str) (fa : MA) : Prop where
  n1 : keys.length = ks.length
  n2 : vals.length = ks.length
  all : keys.all (·.isSome) = true
  go : ∃ trs, PPs C pos keys vals trs ∧ ∀ σ H (P : List (V × V) → Hp → Prop), okA C.K (ks.map fun _ => none) fa σ H (fun vs H1 => vs.length = ks.length → P ((ks.map V.str).zip vs) H1) → tPairs trs σ H P
theorem kd_nil : KDx C pos [] [] [] argN := ⟨rfl, rfl, rfl, [], pps_nil, fun σ H P ⟨Γ, X, ds, Γ', F, S, e, k⟩ => by
  cases e
  exact k H [] F rfl trivial S rfl⟩
theorem kd_cons {kpos : Pos} {j} {keys : List (Option Expr)} {vals : List Expr} (hv : PE C e (okE C.K f)) (hr : KDx C pos keys vals ks fa) : KDx C pos (some (.Constant (.str key) j kpos) :: keys) (e :: vals) (key :: ks) (argC f fa) := by
  obtain ⟨trs, hp, hg⟩ := hr.go
  refine ⟨congrArg (· + 1) hr.n1, congrArg (· + 1) hr.n2, by rw [List.all_cons, hr.all]; rfl, _, pps_cons pe_str hv hp, fun σ H P ⟨Γ, X, ds, Γ', F, S, e, k⟩ => ?_⟩
  obtain ⟨⟨x, Γ1⟩, e1, e⟩ := bindS e
  obtain ⟨⟨xs, Γ2⟩, e2, e⟩ := bindS e
  cases e
  refine ⟨Γ, X, x, Γ1, F, S, e1, fun H1 v F1 S1 => ?_⟩
  refine hg σ H1 _ ⟨Γ1, (x, v) :: X, xs, _, F1, S1.perm List.perm_middle.symm, e2, fun H2 vs F2 hl hL S2 hk => ?_⟩
  refine k H2 (v :: vs) F2 (congrArg (· + 1) hl) hL (S2.perm ?_) (congrArg (· + 1) hk)
  rw [← List.append_assoc]
  show ((xs.zip vs ++ slots _ σ) ++ (x, v) :: X).Perm ((x, v) :: (xs.zip vs ++ (slots _ σ ++ X)))
  rw [← List.append_assoc]
  exact List.perm_middle
theorem ee_disp {keys : List (Option Expr)} {vals : List Expr} (h : KDx C pos keys vals ks fa) (nd : ks.Nodup := by decide) (h0 : keys ≠ [] := by simp) (h15 : ks.length ≤ 15 := by decide) : PE C (.Dict keys vals pos) (okE C.K (appD (mkM ks) fa)) := by
  obtain ⟨trs, hp, hg⟩ := h.go
  refine (pe_disp hp h.all (h.n1.trans h.n2.symm) h0 (by rw [h.n1]; exact h15)).gimp fun σ H Q ⟨Γ, X, d, Γ', F, S, e, k⟩ => ?_
  obtain ⟨⟨ds, Γ1⟩, e1, e⟩ := bindS e
  obtain ⟨z, e2, e⟩ := mapS e
  cases e
  unfold mkM at e2
  split at e2
  · rename_i hlen
    cases e2
    intro a hn
    refine hg σ _ _ ⟨Γ, (.k [] [], .ref a) :: X, ds, _, F, (S.newk hn).perm List.perm_middle.symm, e1, fun H2 vs F2 hl _ S2 hk => ?_⟩
    have S3 : SL C.K H2 ((.k [] [], .ref a) :: (ds.zip vs ++ (slots _ σ ++ X))) := S2.perm ((List.Perm.append_left _ List.perm_middle).trans List.perm_middle)
    obtain ⟨a', ea, hH, _⟩ := S3.katt
    cases ea
    refine ⟨hH, dks ks vs, dks_map.symm, by rw [dks_len hk.symm]; exact h15, ?_⟩
    rw [dks_merge hk.symm nd]
    exact k _ _ F2 (SL.closek hl (S3.writek hk.symm))
  · cases e2
/-! what a key holds -/
def rdK (ks : List Str) (i c : Nat) : M := fun Γ => match Γ[i]? with
  | some (some (.m ks' xs)) => if ks' = ks then match xs[c]? with
    | some (.p q) => some (.p q, Γ)
    | some d => (fz d).map fun q => (.p q, Γ.set i (some (.m ks (xs.set c (.p q)))))
    | none => none
    else none
  | _ => none
def mutK (o : D → List D → Option (D × D)) (ks : List Str) (i c : Nat) (fa : MA) : M := fun Γ => match Γ[i]? with
  | some (some (.m ks' xs)) => if ks' = ks then match xs[c]? with
    | some (.l ys) => (fa (Γ.set i none)).bind fun r => match r.2[i]? with
      | some none => (o (.l ys) r.1).bind fun s => some (s.1, r.2.set i (some (.m ks (xs.set c s.2))))
      | _ => none
    | _ => none
    else none
  | _ => none
def rdPK (o : D → D → Option D) (ks : List Str) (i c : Nat) (g : M) : M := fun Γ => match Γ[i]? with
  | some (some (.m ks' xs)) => if ks' = ks then match xs[c]? with
    | some y => (g (Γ.set i none)).bind fun r => match r.2[i]? with
      | some none => (o y r.1).bind fun d => some (d, r.2.set i (some (.m ks xs)))
      | _ => none
    | _ => none
    else none
  | _ => none
def setK (ks : List Str) (i c : Nat) (f : M) : MS := fun Γ => (f Γ).bind fun r => match r.2[i]? with
  | some (some (.m ks' xs)) => if ks' = ks ∧ c < xs.length then some (.nx (r.2.set i (some (.m ks (xs.set c r.1))))) else none
  | _ => none
/-- the slot's dict opened, the slot left empty -/
theorem SL.openAtK {xs : List D} {y : D} (S : SL K H (slots Γ σ ++ X)) (F : Fits Γ σ) (ex : Γ[i]? = some (some (.m ks xs))) (hy : xs[c]? = some y) : ∃ a vs u, σ[i]? = some (some (.ref a)) ∧ H a = some (.dK (dks ks vs)) ∧ ks.length = vs.length ∧ xs.length = vs.length ∧ vs[c]? = some u ∧ SL K H ((y, u) :: (slots (Γ.set i none) σ ++ ((.k ks vs, .ref a) :: ((xs.eraseIdx c).zip (vs.eraseIdx c) ++ X)))) := by
  obtain ⟨v, hv, S1⟩ := S.take F ex
  obtain ⟨a, vs, rfl, ha, hk, hl, S2⟩ := S1.openk
  have hc : c < vs.length := by rw [← hl]; exact (List.getElem?_eq_some_iff.mp hy).1
  refine ⟨a, vs, vs[c], hv, ha, hk, hl, List.getElem?_eq_getElem hc, S2.perm ?_⟩
  refine (List.Perm.cons _ ((zip_erase hy (List.getElem?_eq_getElem hc)).append_right _)).trans ?_
  refine (List.Perm.swap _ _ _).trans (List.Perm.cons _ ?_)
  refine (List.Perm.cons _ (swap3 _ _ _)).trans ?_
  exact List.perm_middle.symm
theorem SL.shutK {a : Addr} {xs : List D} {vs : List V} {y : D} {u : V} (S : SL K H ((y, u) :: (slots Γ σ ++ ((.k ks vs, .ref a) :: ((xs.eraseIdx c).zip (vs.eraseIdx c) ++ X))))) (F : Fits Γ σ) (hn : Γ[i]? = some none) (hv : σ[i]? = some (some (.ref a))) (hl : xs.length = vs.length) (hc : c < xs.length) (hu : vs[c]? = some u) :
    SL K H (slots (Γ.set i (some (.m ks (xs.set c y)))) σ ++ X) := by
  have S1 : SL K H ((.k ks vs, .ref a) :: (((xs.set c y).zip vs) ++ (slots Γ σ ++ X))) := S.perm (by
    refine (List.Perm.cons _ List.perm_middle).trans ((List.Perm.swap _ _ _).trans (List.Perm.cons _ ?_))
    refine (List.Perm.cons _ (swap3 _ _ _)).trans ?_
    exact (zip_put (d := y) hc hu).append_right _)
  exact SL.back (SL.closek (by simpa using hl) S1) hn hv
theorem k_te {a : Addr} {vs : List V} {u : V} {Q : VK} (nd : ks.Nodup) (hk : ks[c]? = some key) (hv : σ[i]? = some (some (.ref a))) (ha : H a = some (.dK (dks ks vs))) (hu : vs[c]? = some u) (q : Q u H) : tDGet (tVar i) (tC (.str key)) σ H Q :=
  ⟨_, hv, a, u, rfl, .inl ⟨_, .inr key, .inl ha, rfl, by rw [dks_val nd hk, hu]⟩, q⟩
theorem ee_rdK {x : Str} {j} {p' : Pos} (hu : C.A.units + 1 < cLine) (nd : ks.Nodup) (hk : ks[c]? = some key) (hv : PE C (.Name x p) (tVar i)) : PE C (.Subscript (.Name x p) (.Constant (.str key) j p') pos) (okE C.K (rdK ks i c)) :=
  (pe_dget hu hv pe_str (fun _ _ => rfl)).gimp fun σ H Q ⟨Γ, X, d, Γ', F, S, e, k⟩ => by
  unfold rdK at e
  split at e
  · rename_i ks' xs ex
    split at e
    · rename_i eks
      subst eks
      split at e
      · rename_i q eq
        cases e
        obtain ⟨a, vs, u, hv, ha, hkl, hl, hu, S1⟩ := S.openAtK F ex eq
        refine k_te nd hk hv ha hu ?_
        have S2 := S1.dup
        have S3 := SL.shutK (X := (.p q, u) :: X) (y := .p q) (u := u) (a := a) (S2.perm (List.Perm.cons _ (by
          refine List.perm_middle.symm.trans (List.Perm.append_left _ ?_)
          refine (List.Perm.swap _ _ _).trans (List.Perm.cons _ ?_)
          exact List.perm_middle.symm))) F.unset (get_set (List.getElem?_eq_some_iff.mp ex).1) hv hl (List.getElem?_eq_some_iff.mp eq).1 hu
        rw [List.set_set, set_same eq, set_same ex] at S3
        exact k H u F (S3.perm List.perm_middle)
      · rename_i d0 hd eq
        obtain ⟨q, e1, e⟩ := mapS e
        cases e
        obtain ⟨a, vs, u, hv, ha, hkl, hl, hu, S1⟩ := S.openAtK F ex eq
        refine k_te nd hk hv ha hu ?_
        have S2 := (S1.frz e1).dup
        have S3 := SL.shutK (X := (.p q, u) :: X) (y := .p q) (u := u) (a := a) (S2.perm (List.Perm.cons _ (by
          refine List.perm_middle.symm.trans (List.Perm.append_left _ ?_)
          refine (List.Perm.swap _ _ _).trans (List.Perm.cons _ ?_)
          exact List.perm_middle.symm))) F.unset (get_set (List.getElem?_eq_some_iff.mp ex).1) hv hl (List.getElem?_eq_some_iff.mp eq).1 hu
        rw [List.set_set] at S3
        exact k H u (F.put hv) (S3.perm List.perm_middle)
      · cases e
    · cases e
  · cases e
theorem mutK_run {o : D → List D → Option (D × D)} {Q : VK} {r : V → List V → Hp → VK → Prop} (nd : ks.Nodup) (hk : ks[c]? = some key) (hr : ∀ x vs H Q, okM K o x vs H Q → r x vs H Q) (h : okE K (mutK o ks i c fa) σ H Q) : tBM K "list" r (tDGet (tVar i) (tC (.str key))) (okA K ls fa) σ H Q := by
  obtain ⟨Γ, X, d, Γ', F, S, e, k⟩ := h
  unfold mutK at e
  split at e
  · rename_i ks' xs ex
    split at e
    · rename_i eks
      subst eks
      split at e
      · rename_i ys ey
        obtain ⟨⟨ds, Γ1⟩, e1, e⟩ := bindS e
        obtain ⟨a, vs, u, hv, ha, hkl, hl, hu, S1⟩ := S.openAtK F ex ey
        refine k_te nd hk hv ha hu ⟨S1.tyL, _, _, ds, Γ1, F.unset, S1.perm List.perm_middle.symm, e1, fun H1 us F1 hl1 _ S2 => hr _ _ _ _ ?_⟩
        dsimp only at e
        split at e
        · rename_i en
          obtain ⟨⟨d1, y1⟩, e2, e⟩ := bindS e
          cases e
          refine ⟨_, .l ys, ds, _, hl1, S2.perm ((List.Perm.append_left _ List.perm_middle).trans List.perm_middle), e2, fun H2 w S3 => k H2 w (F1.put hv) ?_⟩
          have hc : c < xs.length := (List.getElem?_eq_some_iff.mp ey).1
          have S4 := SL.shutK (X := (_, w) :: X) (y := y1) (u := u) (a := a) (S3.perm (by
            refine (List.Perm.swap _ _ _).trans (List.Perm.cons _ ?_)
            refine List.Perm.trans ?_ (List.Perm.append_left _ (List.Perm.cons _ List.perm_middle.symm))
            refine List.Perm.trans ?_ (List.Perm.append_left _ (.swap _ _ _))
            exact List.perm_middle.symm)) F1 en hv hl hc hu
          exact S4.perm List.perm_middle
        · cases e
      · cases e
    · cases e
  · cases e
theorem rdPK_run {Q : VK} {oo : D → D → Option D} (nd : ks.Nodup) (hk : ks[c]? = some key) (h : okE K (rdPK oo ks i c g) σ H Q) : tOp (okR K oo) (tDGet (tVar i) (tC (.str key))) (okE K g) σ H Q := by
  obtain ⟨Γ, X, d, Γ', F, S, e, k⟩ := h
  unfold rdPK at e
  split at e
  · rename_i ks' xs ex
    split at e
    · rename_i eks
      subst eks
      split at e
      · rename_i y ey
        obtain ⟨⟨z, Γ1⟩, e1, e⟩ := bindS e
        obtain ⟨a, vs, u, hv, ha, hkl, hl, hu, S1⟩ := S.openAtK F ex ey
        refine k_te nd hk hv ha hu ⟨_, _, z, Γ1, F.unset, S1.perm List.perm_middle.symm, e1, fun H1 w F1 S2 => ?_⟩
        dsimp only at e
        split at e
        · rename_i en
          obtain ⟨d1, e2, e⟩ := bindS e
          cases e
          refine ⟨_, y, z, _, S2.perm (List.Perm.cons _ List.perm_middle), e2, fun H2 t S3 => k H2 t (F1.put hv) ?_⟩
          have hc : c < xs.length := (List.getElem?_eq_some_iff.mp ey).1
          have S4 := SL.shutK (X := (_, t) :: X) (y := y) (u := u) (a := a) (S3.perm (by
            refine (List.Perm.swap _ _ _).trans (List.Perm.cons _ ?_)
            refine List.Perm.trans ?_ (List.Perm.append_left _ (List.Perm.cons _ List.perm_middle.symm))
            refine List.Perm.trans ?_ (List.Perm.append_left _ (.swap _ _ _))
            exact List.perm_middle.symm)) F1 en hv hl hc hu
          rw [set_same ey] at S4
          exact S4.perm List.perm_middle
        · cases e
      · cases e
    · cases e
  · cases e
theorem pe_K {x : Str} {j} {p' : Pos} (hu : C.A.units + 1 < cLine) (hv : PE C (.Name x p) (tVar i)) : PE C (.Subscript (.Name x p) (.Constant (.str key) j p') pos) (tDGet (tVar i) (tC (.str key))) := pe_dget hu hv pe_str (fun _ _ => rfl)
theorem ee_mutK {o : D → List D → Option (D × D)} {name : Str} {id : String} {r : V → List V → Hp → VK → Prop} {bx : Expr} (pa : PlainAttrs "list") (slot : Slot "list" name id) (hty : typeOf (.builtin id) = pure (.type "method_descriptor")) (hm : MtR C id r) (hr : ∀ x vs H Q, okM C.K o x vs H Q → r x vs H Q)
    (nd : ks.Nodup) (hk : ks[c]? = some key) (hv : PE C bx (tDGet (tVar i) (tC (.str key)))) (ha : PA C (a :: es) (okA C.K ls fa))
    (hbase : attributeBase bx name C.env (eval bx C.env) = eval bx C.env := by rfl)
    (hfew : ((backTo cpos (starEach (a :: es) C.env)).all (fun x => !x.1) && (backToKw cpos (keywordEach [] C.env)).all (fun x => x.1.isSome) && decide ((a :: es).length + ([] : List Keyword).length + (if ([] : List Keyword).isEmpty then 0 else 1) < 30)) = true := by rfl)
    (hline : (apos.endLine == cpos.line) = true := by rfl) (hs : starEach (a :: es) C.env = (false, eval a C.env) :: starEach es C.env := by rfl) (hplain : (backTo cpos (starEach es C.env)).any (·.1) = false := by rfl) :
    PE C (.Call (.Attribute bx name apos) (a :: es) [] cpos) (okE C.K (mutK o ks i c fa)) := (pe_bm pa slot hty hm hv ha hbase hfew hline hs hplain).gimp fun σ H Q h => mutK_run nd hk hr h
theorem ee_mutK0 {o : D → List D → Option (D × D)} {name : Str} {id : String} {r : V → List V → Hp → VK → Prop} {bx : Expr} (pa : PlainAttrs "list") (slot : Slot "list" name id) (hty : typeOf (.builtin id) = pure (.type "method_descriptor")) (hm : MtR C id r) (hr : ∀ x vs H Q, okM C.K o x vs H Q → r x vs H Q)
    (nd : ks.Nodup) (hk : ks[c]? = some key) (hv : PE C bx (tDGet (tVar i) (tC (.str key))))
    (hbase : attributeBase bx name C.env (eval bx C.env) = eval bx C.env := by rfl) (hline : (apos.endLine == cpos.line) = true := by rfl) :
    PE C (.Call (.Attribute bx name apos) [] [] cpos) (okE C.K (mutK o ks i c argN)) := (pe_bm0 pa slot hty hm hv hbase hline).gimp fun σ H Q h => by
  obtain ⟨v, hv, a, u, ea, g, ty, Γ2, X2, ds, Γ3, F2, S2, e2, k2⟩ := mutK_run (ls := []) nd hk hr h
  cases e2
  exact ⟨v, hv, a, u, ea, g, ty, k2 _ [] F2 rfl trivial S2⟩
theorem et_cmpPK {op : CmpOp} {oo : D → D → Option D} {bx : Expr} (ho : OpR C (compareOp op) (okR C.K oo)) (nd : ks.Nodup) (hk : ks[c]? = some key) (hv : PE C bx (tDGet (tVar i) (tC (.str key)))) (hb : PE C b (okE C.K g)) (hm : behindInMarks op b = false) : PT C (.Compare bx [op] [b] pos) (okT C.K (isT (rdPK oo ks i c g))) :=
  (pt_cmpR ho hv hb hm).gimp fun σ H Q h => rdPK_run nd hk (isT_run h)
theorem ee_ixPK {bx : Expr} (nd : ks.Nodup) (hk : ks[c]? = some key) (hv : PE C bx (tDGet (tVar i) (tC (.str key)))) (hb : PE C b (okE C.K g)) (hs : PlainIx b) : PE C (.Subscript bx b pos) (okE C.K (rdPK ixD ks i c g)) := (pe_ix r_ix hv hb hs).gimp fun _ _ _ h => rdPK_run nd hk h
/-! x["key"] = e -/
theorem es_setK {x : Str} {j} {p' pos' : Pos} {ro : Nat → Prop} (hu : C.A.units + 1 < cLine) (nd : ks.Nodup) (hk : ks[c]? = some key) (hv : PE C (.Name x p) (tVar i)) (he : PE C e (okE C.K f))
    (hs : swapsWith e (some (.Subscript (.Name x p) (.Constant (.str key) j p') pos')) pos.line C.env = pure false := by rfl) (h15 : ks.length ≤ 15 := by decide) : PS C (.Assign [.Subscript (.Name x p) (.Constant (.str key) j p') pos'] e pos) (okS C.K ro (setK ks i c f)) :=
  (ps_dput hu hv pe_str he hs).gimp fun D σ H ⟨Γ, X, out, F, S, e, k⟩ => by
  obtain ⟨⟨d, Γ1⟩, e1, e⟩ := bindS e
  refine ⟨Γ, X, d, Γ1, F, S, e1, fun H1 v F1 S1 => ?_⟩
  dsimp only at e
  split at e
  · rename_i ks' xs ex
    split at e
    · rename_i h1
      obtain ⟨eks, hc⟩ := h1
      subst eks
      cases e
      have S0 : SL C.K H1 (slots Γ1 σ ++ ((d, v) :: X)) := S1.perm List.perm_middle.symm
      obtain ⟨a, vs, u, hv, ha, hkl, hl, hu, S2⟩ := S0.openAtK F1 ex (List.getElem?_eq_getElem hc)
      have hlen : (dks ks' vs).length < sizeLine := by
        rw [dks_len hkl, lineM]
        omega
      refine ⟨_, hv, a, upd H1 a (.dK (dks ks' (vs.set c v))), rfl, .inl ⟨_, .inr key, ha, rfl, hlen, by rw [dks_put hkl nd hk]⟩, ?_⟩
      have hcv : c < vs.length := by rw [← hl]; exact hc
      have S3 : SL C.K H1 ((.k ks' vs, .ref a) :: ((d, v) :: ((xs.eraseIdx c).zip (vs.eraseIdx c) ++ (slots (Γ1.set i none) σ ++ X)))) := by
        refine S2.drop.perm ?_
        refine List.perm_middle.trans (List.Perm.cons _ ?_)
        refine (List.Perm.append_left _ List.perm_middle).trans (List.perm_middle.trans (List.Perm.cons _ ?_))
        exact swap3 _ _ _
      have S4 := S3.writek (ks' := ks') (vs' := vs.set c v) (by rw [List.length_set]; exact hkl)
      have P2 : ((d, v) :: (xs.eraseIdx c).zip (vs.eraseIdx c)).Perm ((xs.set c d).zip (vs.set c v)) := by
        have q := zip_put (xs := xs) (us := vs.set c v) (k := c) (d := d) (y := v) hc (get_set hcv)
        rwa [List.eraseIdx_set_eq] at q
      have S5 : SL C.K (upd H1 a (.dK (dks ks' (vs.set c v)))) ((.k ks' (vs.set c v), .ref a) :: ((xs.set c d).zip (vs.set c v) ++ (slots (Γ1.set i none) σ ++ X))) := S4.perm (List.Perm.cons _ (P2.append_right _))
      have S7 := SL.back (i := i) (SL.closek (by simpa using hl) S5) (get_set (List.getElem?_eq_some_iff.mp ex).1) hv
      rw [List.set_set] at S7
      exact k _ σ .refl (F1.put hv) S7
    · cases e
  · cases e
end
/-! evaluation rules -/
section
variable {Γ : Nv} {Q : KD} {QA : List D → Nv → Prop} {QD : D → Prop} {N B C' : Nv → Prop} {R : KD} {f g : M} {fa : MA} {ks : List Str} {xs ys : List D} {i c : Nat} {q : PyData} {y : D}
theorem w_rdK (h : Γ[i]? = some (some (.m ks xs))) (hc : xs[c]? = some (.p q)) (k : Q (.p q) Γ) : wE (rdK ks i c) Γ Q := ⟨.p q, Γ, by unfold rdK; rw [h]; dsimp only; rw [if_pos rfl, hc], k⟩
theorem w_rdKl (h : Γ[i]? = some (some (.m ks xs))) (hc : xs[c]? = some (.l ys)) (hz : fz (.l ys) = some q) (k : wN (Γ.set i (some (.m ks (xs.set c (.p q))))) fun Γ' => Q (.p q) Γ') : wE (rdK ks i c) Γ Q := ⟨.p q, Γ.set i (some (.m ks (xs.set c (.p q)))), by unfold rdK; rw [h]; dsimp only; rw [if_pos rfl, hc]; dsimp only; rw [hz]; rfl, k⟩
theorem w_mutK {m : D → List D → Option (D × D)} (h : Γ[i]? = some (some (.m ks xs))) (hc : xs[c]? = some (.l ys)) (k : wN (Γ.set i none) fun Γ0 => wA fa Γ0 fun ds Γ1 => Γ1[i]? = some none ∧ wO (m (.l ys) ds) fun r => wN (Γ1.set i (some (.m ks (xs.set c r.2)))) fun Γ2 => Q r.1 Γ2) : wE (mutK m ks i c fa) Γ Q := by
  obtain ⟨ds, Γ1, e1, ex, r, e2, k⟩ := k
  refine ⟨r.1, Γ1.set i (some (.m ks (xs.set c r.2))), ?_, k⟩
  unfold mutK; rw [h]; dsimp only; rw [if_pos rfl, hc]; show (fa (Γ.set i none)).bind _ = _; rw [e1]; show (match Γ1[i]? with | some none => (m (.l ys) ds).bind fun s => some (s.1, Γ1.set i (some (.m ks (xs.set c s.2)))) | _ => none) = _; rw [ex]; show (m (.l ys) ds).bind _ = _; rw [e2]; rfl
theorem w_rdPK {o : D → D → Option D} (h : Γ[i]? = some (some (.m ks xs))) (hc : xs[c]? = some y) (k : wN (Γ.set i none) fun Γ0 => wE g Γ0 fun z Γ1 => Γ1[i]? = some none ∧ wO (o y z) fun r => wN (Γ1.set i (some (.m ks xs))) fun Γ2 => Q r Γ2) : wE (rdPK o ks i c g) Γ Q := by
  obtain ⟨ds, Γ1, e1, ex, r, e2, k⟩ := k
  refine ⟨r, Γ1.set i (some (.m ks xs)), ?_, k⟩
  unfold rdPK; rw [h]; dsimp only; rw [if_pos rfl, hc]; show (g (Γ.set i none)).bind _ = _; rw [e1]; show (match Γ1[i]? with | some none => (o y ds).bind fun d => some (d, Γ1.set i (some (.m ks xs))) | _ => none) = _; rw [ex]; show (o y ds).bind _ = _; rw [e2]; rfl
theorem w_mvm (h : Γ[i]? = some (some (.m ks xs))) (k : wN (Γ.set i none) fun Γ' => Q (.m ks xs) Γ') : wE (mvM i) Γ Q := ⟨.m ks xs, Γ.set i none, by unfold mvM; rw [h], k⟩
theorem w_setK (k : wE f Γ fun d Γ1 => ∃ xs, Γ1[i]? = some (some (.m ks xs)) ∧ c < xs.length ∧ wN (Γ1.set i (some (.m ks (xs.set c d)))) N) : wS (setK ks i c f) Γ N R B C' := by
  obtain ⟨d, Γ1, e1, xs, ex, hc, k⟩ := k
  refine ⟨.nx (Γ1.set i (some (.m ks (xs.set c d)))), ?_, k⟩
  unfold setK
  rw [e1]
  show (match Γ1[i]? with | some (some (.m ks' xs)) => if ks' = ks ∧ c < xs.length then some (Out.nx (Γ1.set i (some (.m ks (xs.set c d))))) else none | _ => none) = _
  rw [ex]
  exact if_pos ⟨rfl, hc⟩
theorem w_slotK {d : D} (h : Γ[i]? = some (some (.m ks xs))) (hl : decide (c < xs.length) = true) (k : wN (Γ.set i (some (.m ks (xs.set c d)))) N) : ∃ xs, Γ[i]? = some (some (.m ks xs)) ∧ c < xs.length ∧ wN (Γ.set i (some (.m ks (xs.set c d)))) N := ⟨xs, h, of_decide_eq_true hl, k⟩
theorem w_dsp (h : xs.length = ks.length) (k : QD (.m ks xs)) : wO (mkM ks xs) QD := ⟨_, if_pos h, k⟩
end
end GH
namespace GH
open PySem L2 PySem.Spec RZ
/-! ### zip of a tuple and a list -/
section
variable {prog : Program} {w : World} {A : Around} {E : Value → Shared → Prop} {s : Shared} {z TI TO i1 i2 l1 l2 : Addr}
theorem my_item {k : Nat} {xs ys : Array Value} {x y a b : Value} {Q : Option Value → Shared → Prop} (D : ZipApart z TI TO i1 i2 l1 l2) (hz : IsZip s.heap z TI TO .none) (hTI : IsPair s.heap TI (.ref i1) (.ref i2)) (hTO : IsPair s.heap TO a b)
    (h1 : s.heap.IsListIter i1 l1 k) (h2 : s.heap.IsTupleIter i2 l2 k) (t1 : s.heap.IsList l1 xs) (t2 : s.heap.IsTuple l2 ys) (hx : xs[k]? = some x) (hy : ys[k]? = some y)
    (q : ∀ h', IsZip h' z TI TO (rawInt s.heap.objs.size) → IsPair h' TO x y → h'.IsListIter i1 l1 (k + 1) → h'.IsTupleIter i2 l2 (k + 1) → IsPair h' s.heap.objs.size x y → h'.objs.size = s.heap.objs.size + 1 →
      (∀ c o, c ≠ z → c ≠ TO → c ≠ i1 → c ≠ i2 → s.heap.get? c = some o → h'.get? c = some o) → Q (some (.ref s.heap.objs.size)) { s with heap := h' }) :
    wpAny (model prog w) A (pyNext (.ref z)) Q E s := by
  have ty : s.TypeIs (.ref z) "zip" := ⟨_, hz, rfl⟩
  have go : wpAny (model prog w) A.in1 (Builtin.«zip.__next__» ⟨[.ref z], []⟩) (fun fin s' => ∃ v, fin = .done (.ret v) ∧ Q (some v) s') (fun _ _ => False) s := by
    show wpAny _ _ (field (.ref z) 2 >>= _) _ _ _
    refine wpAny_bind (wpAny_field hz rfl (x := .bool false) rfl ?_)
    show wpAny _ _ (field (.ref z) 3 >>= _) _ _ _
    refine wpAny_bind (wpAny_field hz rfl (x := .ref TI) rfl (wpAny_bind (wpAny_seqItems hTI rfl ?_)))
    show wpAny _ _ (Builtin.SmallTypes.ownedTupleIsFree (.ref z) >>= _) _ _ _
    refine wpAny_bind ?_
    unfold Builtin.SmallTypes.ownedTupleIsFree
    refine wpAny_bind (wpAny_field hz rfl (x := .none) rfl (wpAny_pure ?_))
    simp only [if_true]
    refine wpAny_bind (wpAny_rule (wpAny_bind (wpAny_field hz rfl (x := .ref TO) rfl (wpAny_bind (wpAny_setField_rec hz (by simp) fun g1 z1 s1 => ?_)))))
    replace z1 : IsZip g1 z TI TO .ellipsis := z1
    refine wpAny_bind ?_
    simp only [List.zipIdx_cons, List.zipIdx_nil, List.forIn_cons, List.forIn_nil]
    refine wpAny_bind (wpAny_bind (wpAny_onRaise ?_))
    show wpAny _ _ (Builtin.SmallTypes.nextOf (.ref i1) >>= _) _ _ _
    refine wpAny_bind (wpAny_nextOf_list_item (h1.extBut s1.extBut D.i1z) (t1.extBut s1.extBut D.l1z) hx fun g2 a2 s2 => wpAny_pure ?_)
    have p2 : IsPair g2 TO a b := s2.extBut _ _ D.TOi1 (s1.extBut _ _ D.TOz hTO)
    refine wpAny_bind (wpAny_seqItems p2 rfl (wpAny_bind (wpAny_updateSeq_pair p2 fun g3 p3 s3 => ?_)))
    replace p3 : IsPair g3 TO x b := p3
    refine wpAny_bind (wpAny_letGo (wpAny_pure ?_))
    refine wpAny_bind (wpAny_bind (wpAny_onRaise ?_))
    show wpAny _ _ (Builtin.SmallTypes.nextOf (.ref i2) >>= _) _ _ _
    refine wpAny_bind (nextOf_tuple_item (((h2.extBut s1.extBut D.i2z).extBut s2.extBut D.i12.symm).extBut s3.extBut D.TOi2.symm) (((t2.extBut s1.extBut D.l2z).extBut s2.extBut D.l2i1).extBut s3.extBut D.l2TO) hy fun g4 a4 s4 => wpAny_pure ?_)
    have p4 : IsPair g4 TO x b := s4.extBut _ _ D.TOi2 p3
    refine wpAny_bind (wpAny_seqItems p4 rfl (wpAny_bind (wpAny_updateSeq_pair p4 fun g5 p5 s5 => ?_)))
    replace p5 : IsPair g5 TO x y := p5
    refine wpAny_bind (wpAny_letGo (wpAny_pure (wpAny_pure ?_)))
    refine wpAny_bind (wpAny_seqItems p5 rfl (wpAny_bind (wpAny_newTuple ?_)))
    have e5 : g5.objs.size = s.heap.objs.size := by rw [s5.1, s4.1, s3.1, s2.1, s1.1]
    have z5 : IsZip g5 z TI TO .ellipsis := s5.extBut _ _ D.TOz.symm (s4.extBut _ _ D.i2z.symm (s3.extBut _ _ D.TOz.symm (s2.extBut _ _ D.i1z.symm z1)))
    have k5 : ∀ c o, c ≠ z → c ≠ TO → c ≠ i1 → c ≠ i2 → s.heap.get? c = some o → g5.get? c = some o := fun c o c1 c2 c3 c4 e => s5.extBut _ _ c2 (s4.extBut _ _ c4 (s3.extBut _ _ c2 (s2.extBut _ _ c3 (s1.extBut _ _ c1 e))))
    have b1 : g5.IsListIter i1 l1 (k + 1) := ((a2.extBut s3.extBut D.TOi1.symm).extBut s4.extBut D.i12).extBut s5.extBut D.TOi1.symm
    have b2 : g5.IsTupleIter i2 l2 (k + 1) := a4.extBut s5.extBut D.TOi2.symm
    have zl : z < g5.objs.size := Heap.lt_size z5
    show wpAny _ _ (Builtin.SmallTypes.ownedTupleHandOut (.ref z) (.ref g5.objs.size) >>= _) _ _ _
    refine wpAny_bind ?_
    unfold Builtin.SmallTypes.ownedTupleHandOut
    have z6 : IsZip (g5.push { cls := .type "tuple", data := .seq #[x, y] }) z TI TO .ellipsis := Heap.get?_push_of_some _ z5
    refine wpAny_bind (wpAny_setField_rec z6 (by simp) fun g7 z7 s7 => ?_)
    replace z7 : IsZip g7 z TI TO (rawInt g5.objs.size) := z7
    refine wpAny_setField_rec z7 (by simp) fun g8 z8 s8 => ?_
    replace z8 : IsZip g8 z TI TO (rawInt g5.objs.size) := z8
    have up : ∀ c o, c ≠ z → g5.get? c = some o → g8.get? c = some o := fun c o c1 e => s8.extBut _ _ c1 (s7.extBut _ _ c1 (Heap.get?_push_of_some _ e))
    have t8 : IsPair g8 g5.objs.size x y := s8.extBut _ _ (Nat.ne_of_gt zl) (s7.extBut _ _ (Nat.ne_of_gt zl) (Heap.get?_push_size _ rfl))
    have e8 : g8.objs.size = g5.objs.size + 1 := by rw [s8.1, s7.1, Heap.size_push]
    rw [e5] at z8 t8 e8
    refine wpAny_pure ⟨_, rfl, ?_⟩
    show Q (some (.ref g5.objs.size)) _
    rw [e5]
    exact q g8 z8 (up _ _ D.TOz p5) (b1.at fun o e => up _ o D.i1z e) (b2.at fun o e => up _ o D.i2z e) t8 e8 fun c o c1 c2 c3 c4 e => up c o c1 (k5 c o c1 c2 c3 c4 e)
  unfold pyNext
  refine wpAny_bind (wpAny_attempt (wpAny_callSpecial?_slot (name := Str.ofString "__next__") ty F.slot_zip_next (wpAny_call_entry F.slot_zip_next ty F.entry_zip_next (wpAny_mono go (fun fin s' h => ?_) fun _ _ h => h.elim) (F.args_zip_next_1 _))))
  obtain ⟨v, e, h⟩ := h
  exact ⟨v, e, wpAny_pure h⟩
theorem my_end {k : Nat} {xs ys : Array Value} {a b : Value} {Q : Option Value → Shared → Prop} (hh : A.handled = none) (D : ZipApart z TI TO i1 i2 l1 l2) (hz : IsZip s.heap z TI TO .none) (hTI : IsPair s.heap TI (.ref i1) (.ref i2)) (hTO : IsPair s.heap TO a b)
    (h1 : s.heap.IsListIter i1 l1 k) (h2 : s.heap.IsTupleIter i2 l2 k) (t1 : s.heap.IsList l1 xs) (t2 : s.heap.IsTuple l2 ys) (he : xs[k]? = none ∨ ys[k]? = none)
    (q : ∀ h', (∀ c o, c ≠ z → c ≠ TO → c ≠ i1 → c ≠ i2 → s.heap.get? c = some o → h'.get? c = some o) → Q none { s with heap := h' }) : wpAny (model prog w) A (pyNext (.ref z)) Q E s := by
  have ty : s.TypeIs (.ref z) "zip" := ⟨_, hz, rfl⟩
  have go : wpAny (model prog w) A.in1 (Builtin.«zip.__next__» ⟨[.ref z], []⟩) (fun _ _ => False) (fun e s' => ∃ h', s' = { s with heap := h' } ∧ (∀ c o, c ≠ z → c ≠ TO → c ≠ i1 → c ≠ i2 → s.heap.get? c = some o → h'.get? c = some o) ∧ ∃ a o, e = .ref a ∧ h'.get? a = some o ∧ o.cls = .type "StopIteration") s := by
    show wpAny _ _ (field (.ref z) 2 >>= _) _ _ _
    refine wpAny_bind (wpAny_field hz rfl (x := .bool false) rfl ?_)
    show wpAny _ _ (field (.ref z) 3 >>= _) _ _ _
    refine wpAny_bind (wpAny_field hz rfl (x := .ref TI) rfl (wpAny_bind (wpAny_seqItems hTI rfl ?_)))
    show wpAny _ _ (Builtin.SmallTypes.ownedTupleIsFree (.ref z) >>= _) _ _ _
    refine wpAny_bind ?_
    unfold Builtin.SmallTypes.ownedTupleIsFree
    refine wpAny_bind (wpAny_field hz rfl (x := .none) rfl (wpAny_pure ?_))
    simp only [if_true]
    refine wpAny_bind (wpAny_rule (wpAny_bind (wpAny_field hz rfl (x := .ref TO) rfl (wpAny_bind (wpAny_setField_rec hz (by simp) fun g1 z1 s1 => ?_)))))
    replace z1 : IsZip g1 z TI TO .ellipsis := z1
    refine wpAny_bind ?_
    simp only [List.zipIdx_cons, List.zipIdx_nil, List.forIn_cons, List.forIn_nil]
    refine wpAny_bind (wpAny_bind (wpAny_onRaise ?_))
    show wpAny _ _ (Builtin.SmallTypes.nextOf (.ref i1) >>= _) _ _ _
    cases hx : xs[k]? with
    | none =>
      refine wpAny_bind (wpAny_nextOf_list_end hh (h1.extBut s1.extBut D.i1z) (t1.extBut s1.extBut D.l1z) hx fun g2 e s2 ⟨o, ho, hc⟩ => ?_)
      have z2 : IsZip g2 z TI TO .ellipsis := s2 _ _ D.i1z.symm z1
      have hez : e ≠ z := fun x => by subst x; rw [z2] at ho; cases ho; simp at hc
      exact wpAny_setField_rec z2 (by simp) fun g3 _ s3 => ⟨g3, rfl, fun c o c1 _ c3 _ x => s3.extBut _ _ c1 (s2 _ _ c3 (s1.extBut _ _ c1 x)), e, o, rfl, s3.extBut _ _ hez ho, hc⟩
    | some x =>
      have hy : ys[k]? = none := he.elim (fun h => by rw [hx] at h; cases h) id
      refine wpAny_bind (wpAny_nextOf_list_item (h1.extBut s1.extBut D.i1z) (t1.extBut s1.extBut D.l1z) hx fun g2 a2 s2 => wpAny_pure ?_)
      have p2 : IsPair g2 TO a b := s2.extBut _ _ D.TOi1 (s1.extBut _ _ D.TOz hTO)
      refine wpAny_bind (wpAny_seqItems p2 rfl (wpAny_bind (wpAny_updateSeq_pair p2 fun g3 p3 s3 => ?_)))
      refine wpAny_bind (wpAny_letGo (wpAny_pure ?_))
      refine wpAny_bind (wpAny_bind (wpAny_onRaise ?_))
      show wpAny _ _ (Builtin.SmallTypes.nextOf (.ref i2) >>= _) _ _ _
      refine wpAny_bind (nextOf_tuple_end hh (((h2.extBut s1.extBut D.i2z).extBut s2.extBut D.i12.symm).extBut s3.extBut D.TOi2.symm) (((t2.extBut s1.extBut D.l2z).extBut s2.extBut D.l2i1).extBut s3.extBut D.l2TO) hy fun g4 e s4 ⟨o, ho, hc⟩ => ?_)
      have z4 : IsZip g4 z TI TO .ellipsis := s4 _ _ D.i2z.symm (s3.extBut _ _ D.TOz.symm (s2.extBut _ _ D.i1z.symm z1))
      have hez : e ≠ z := fun x => by subst x; rw [z4] at ho; cases ho; simp at hc
      exact wpAny_setField_rec z4 (by simp) fun g5 _ s5 => ⟨g5, rfl, fun c o c1 c2 c3 c4 x => s5.extBut _ _ c1 (s4 _ _ c4 (s3.extBut _ _ c2 (s2.extBut _ _ c3 (s1.extBut _ _ c1 x)))), e, o, rfl, s5.extBut _ _ hez ho, hc⟩
  unfold pyNext
  refine wpAny_bind (wpAny_attempt (wpAny_callSpecial?_slot (name := Str.ofString "__next__") ty F.slot_zip_next (wpAny_call_entry F.slot_zip_next ty F.entry_zip_next (wpAny_mono go (fun _ _ h => h.elim) fun e s' h => ?_) (F.args_zip_next_1 _))))
  obtain ⟨h', rfl, hk, a, o, rfl, ho, hc⟩ := h
  exact wpAny_bind (wpAny_isInstance (T := "StopIteration") (b := true) ⟨o, ho, hc⟩ isSubtype_stop (wpAny_pure (q h' hk)))
end
abbrev myH1 (h : Heap) (l1 : Addr) : Heap := h.push { cls := .type "list_iterator", data := .fields #[.ref l1, .int 0 0] }
abbrev myH2 (h : Heap) (l1 l2 : Addr) : Heap := (myH1 h l1).push { cls := .type "tuple_iterator", data := .fields #[.ref l2, .int 0 0] }
abbrev myH3 (h : Heap) (l1 l2 : Addr) : Heap := (myH2 h l1 l2).push { cls := .type "tuple", data := .seq #[.ref h.objs.size, .ref (myH1 h l1).objs.size] }
abbrev myH4 (h : Heap) (l1 l2 : Addr) : Heap := (myH3 h l1 l2).push { cls := .type "tuple", data := .seq #[.none, .none] }
abbrev myH5 (h : Heap) (l1 l2 : Addr) : Heap := (myH4 h l1 l2).push { cls := .type "zip", data := .fields #[.none, .bool false, .bool false, .ref (myH2 h l1 l2).objs.size, .ref (myH3 h l1 l2).objs.size] }
theorem meets_my (l1 l2 : Addr) (xs ys : Array Value) :
    Meets (Builtin.«zip.__new__» ⟨[.type "zip", .ref l1, .ref l2], []⟩) (fun _ R s => s.heap.IsList l1 xs ∧ s.heap.IsTuple l2 ys ∧ R (.ok (.ret (.ref (myH4 s.heap l1 l2).objs.size))) { s with heap := myH5 s.heap l1 l2 }) :=
  .of_wp fun prog w A R s h => by
    obtain ⟨hp, g, d, tk, os⟩ := s
    obtain ⟨hl1, hl2, h⟩ := h
    have hsub := sub_zip
    have hL1 : Heap.IsList (Shared.heap ⟨hp, g, d, tk, os⟩) l1 xs := hl1
    have hL2 : Heap.IsTuple (Shared.heap ⟨hp.push { cls := .type "list_iterator", data := .fields #[.ref l1, .int 0 0] }, g, d, tk, os⟩) l2 ys := Heap.IsTuple.push hl2 _
    wp_walk using wpAny_pyIter_list hL1, wpAny_pyIter_tuple hL2
    exact ⟨_, rfl, h⟩
theorem call_my {prog : Program} {w : World} {A : Around} {E : Value → Shared → Prop} {s : Shared} {l1 l2 : Addr} {xs ys : Array Value} {Q : Value → Shared → Prop} (hl1 : s.heap.IsList l1 xs) (hl2 : s.heap.IsTuple l2 ys)
    (h : ∀ h', IsZip h' (s.heap.objs.size + 4) (s.heap.objs.size + 2) (s.heap.objs.size + 3) .none → IsPair h' (s.heap.objs.size + 2) (.ref s.heap.objs.size) (.ref (s.heap.objs.size + 1)) → IsPair h' (s.heap.objs.size + 3) .none .none → h'.IsListIter s.heap.objs.size l1 0 → h'.IsTupleIter (s.heap.objs.size + 1) l2 0 →
      (∀ c o, s.heap.get? c = some o → h'.get? c = some o) → Q (.ref (s.heap.objs.size + 4)) { s with heap := h' }) : wpAny (model prog w) A (call (.type "zip") [.ref l1, .ref l2]) Q E s := by
  refine callType_new F.called_zip (by decide) (F.typeCall_zip_2 _ _) (F.newCall_zip_2 _ _) (fun obj => F.args_object_init_3 obj _ _) F.entry_zip_new (meets_my l1 l2 xs ys) ⟨hl1, hl2, ?_⟩
  have n1 : (myH1 s.heap l1).objs.size = s.heap.objs.size + 1 := Heap.size_push ..
  have n2 : (myH2 s.heap l1 l2).objs.size = s.heap.objs.size + 2 := by rw [Heap.size_push, n1]
  have n3 : (myH3 s.heap l1 l2).objs.size = s.heap.objs.size + 3 := by rw [Heap.size_push, n2]
  have n4 : (myH4 s.heap l1 l2).objs.size = s.heap.objs.size + 4 := by rw [Heap.size_push, n3]
  have g5 : (myH5 s.heap l1 l2).get? (myH4 s.heap l1 l2).objs.size = some _ := Heap.get?_push_size _ rfl
  have g4 : (myH5 s.heap l1 l2).get? (myH3 s.heap l1 l2).objs.size = some _ := Heap.get?_push_of_some _ (Heap.get?_push_size _ rfl)
  have g3 : (myH5 s.heap l1 l2).get? (myH2 s.heap l1 l2).objs.size = some _ := Heap.get?_push_of_some _ (Heap.get?_push_of_some _ (Heap.get?_push_size _ rfl))
  have g2 : (myH5 s.heap l1 l2).get? (myH1 s.heap l1).objs.size = some _ := Heap.get?_push_of_some _ (Heap.get?_push_of_some _ (Heap.get?_push_of_some _ (Heap.get?_push_size _ rfl)))
  have g1 : (myH5 s.heap l1 l2).get? s.heap.objs.size = some _ := Heap.get?_push_of_some _ (Heap.get?_push_of_some _ (Heap.get?_push_of_some _ (Heap.get?_push_of_some _ (Heap.get?_push_size _ rfl))))
  show _ ∧ _
  rw [n2, n3, n4] at g5
  rw [n1, n2] at g3
  rw [n3] at g4
  rw [n1] at g2
  rw [n4]
  exact ⟨⟨_, g5, rfl⟩, h _ g5 g3 g4 ⟨_, g1, rfl, rfl⟩ ⟨_, g2, rfl, rfl⟩ fun c o x => Heap.get?_push_of_some _ (Heap.get?_push_of_some _ (Heap.get?_push_of_some _ (Heap.get?_push_of_some _ (Heap.get?_push_of_some _ x))))⟩
/-- the tuple at a and the list at b as they stand at each turn, the items in new pairs -/
def ItzY (K : PySem.W.Frag) (a b : Addr) : It :=
  ⟨fun i H => ∃ (xs ys : List V) (x y : V), SqL K H a xs ∧ SqT K H b ys ∧ xs[i]? = some x ∧ ys[i]? = some y,
    fun i H v H' => ∃ T x y, v = .ref T ∧ H T = none ∧ H' = upd H T (.tup [x, y]) ∧ (∀ xs, SqL K H a xs → xs[i]? = some x) ∧ ∀ ys, SqT K H b ys → ys[i]? = some y,
    fun i H => ∃ xs ys : List V, SqL K H a xs ∧ SqT K H b ys ∧ (xs.length ≤ i ∨ ys.length ≤ i)⟩
theorem turn_my {P : Program} {w : World} {K : PySem.W.Frag} {elts : List Expr} {kk : Nat} {tpos : Pos} {a b z TI TO i1 i2 : Addr} (D : ZipApart z TI TO i1 i2 a b) :
    Turn P w K (.Tuple elts kk tpos) (ItzY K a b) [z, TI, TO, i1, i2] z (fun i h => IsZip h z TI TO .none ∧ IsPair h TI (.ref i1) (.ref i2) ∧ (∃ x y, IsPair h TO x y) ∧ h.IsListIter i1 a i ∧ h.IsTupleIter i2 b i) where
  mem := by simp
  obj := fun i h st c hc => by
    obtain ⟨hz, hTI, ⟨x, y, hTO⟩, ⟨o1, e1, _, d1⟩, ⟨o2, e2, _, d2⟩⟩ := st
    rcases five hc with rfl | rfl | rfl | rfl | rfl
    · exact ⟨_, hz, fun v q => nomatch q⟩
    · exact ⟨_, hTI, fun v q => nomatch q⟩
    · exact ⟨_, hTO, fun v q => nomatch q⟩
    · exact ⟨o1, e1, fun v q => by rw [d1] at q; cases q⟩
    · exact ⟨o2, e2, fun v q => by rw [d2] at q; cases q⟩
  keep := fun i h h' st k => by
    obtain ⟨hz, hTI, ⟨x, y, hTO⟩, h1, h2⟩ := st
    exact ⟨k z (by simp) _ hz, k TI (by simp) _ hTI, ⟨x, y, k TO (by simp) _ hTO⟩, h1.at fun o q => k i1 (by simp) o q, h2.at fun o q => k i2 (by simp) o q⟩
  item := by
    intro X hP hw hK hc i pins s σ H E I hf st hg
    subst hP hw hK
    obtain ⟨hz, hTI, ⟨x0, y0, hTO⟩, h1, h2⟩ := st
    obtain ⟨xs, ys, x, y, qx, qy, hx, hy⟩ := hg
    obtain ⟨its, rx, px, _⟩ := I.list qx
    obtain ⟨its2, ry, py, _⟩ := I.tuple qy
    obtain ⟨u, hu, ru⟩ := rx.get hx
    obtain ⟨u2, hu2, ru2⟩ := ry.get hy
    have zl : z < s.heap.objs.size := Heap.lt_size hz
    refine my_item D hz hTI hTO h1 h2 px.isList py (x := u) (y := u2) (by simpa using hu) (by simpa using hu2) fun h' z' TO' h1' h2' hT hsz hk => ?_
    refine ⟨_, rfl, wpAny_letOwnedTupleGo_zip (s := { s with heap := h' }) z' fun g z'' sb => ?_⟩
    have hT2 : g.get? s.heap.objs.size = some { cls := .type "tuple", data := .seq #[u, u2] } := (sb.2 _ (Nat.ne_of_gt zl)).trans hT
    have new : ObjOk X.prog X.w (upd H s.heap.objs.size (.tup [x, y])) g s.heap.objs.size (.tup [x, y]) := ⟨by show 2 ≤ sizeLine; decide, [u, u2], .cons ru (.cons ru2 .nil), ⟨_, hT2, rfl, _, rfl⟩⟩
    have I1 : Inv X pins σ (upd H s.heap.objs.size (.tup [x, y])) { s with heap := g } :=
      I.turnedNew (t' := s.toks) (ch := [z, TI, TO, i1, i2]) (fun c o hb q => (sb.2 c (fun w => hb (by simp [w]))).trans (hk c o (fun w => hb (by simp [w])) (fun w => hb (by simp [w])) (fun w => hb (by simp [w])) (fun w => hb (by simp [w])) q)) hf (Nat.le_refl _) new
    refine ⟨.ref s.heap.objs.size, _, I1, rfl, ⟨_, x, y, rfl, I.hok.fresh (Nat.le_refl _), rfl, fun l hl => by rw [I.list_inj hl qx]; exact hx, fun l hl => by rw [I.tuple_inj hl qy]; exact hy⟩, ⟨z'', ?_, ⟨u, u2, ?_⟩, ?_, ?_⟩, fun c hcm => ?_⟩
    · exact (sb.2 _ D.TIz).trans (hk _ _ D.TIz D.TITO D.TIi1 D.TIi2 hTI)
    · exact (sb.2 _ D.TOz).trans TO'
    · exact h1'.at fun o q => (sb.2 _ D.i1z).trans q
    · exact h2'.at fun o q => (sb.2 _ D.i2z).trans q
    · have hlt : c < s.heap.objs.size := by
        rcases five hcm with rfl | rfl | rfl | rfl | rfl
        · exact zl
        · exact Heap.lt_size hTI
        · exact Heap.lt_size hTO
        · obtain ⟨_, e1, _⟩ := h1; exact Heap.lt_size e1
        · obtain ⟨_, e2, _⟩ := h2; exact Heap.lt_size e2
      rw [upd_ne (Nat.ne_of_lt hlt)]
      exact (hf c hcm).1
  done := by
    intro X hP hw hK hc i pins s σ H E I hf st hg
    subst hP hw hK
    obtain ⟨hz, hTI, ⟨x0, y0, hTO⟩, h1, h2⟩ := st
    obtain ⟨xs, ys, qx, qy, hend⟩ := hg
    obtain ⟨its, rx, px, _⟩ := I.list qx
    obtain ⟨its2, ry, py, _⟩ := I.tuple qy
    have n1 := rx.length
    have n2 := ry.length
    have he : its.toArray[i]? = none ∨ its2.toArray[i]? = none := by
      rcases hend with q | q
      · exact .inl (by simp; omega)
      · exact .inr (by simp; omega)
    exact my_end (I.ok.hd hc) D hz hTI hTO h1 h2 px.isList py he fun h' hk => ⟨rfl, I.turnedL (t' := s.toks) (ch := [z, TI, TO, i1, i2]) (fun c o hb q => hk c o (fun w => hb (by simp [w])) (fun w => hb (by simp [w])) (fun w => hb (by simp [w])) (fun w => hb (by simp [w])) q) hf⟩
  self := fun A i s Q E st h => wpAny_pyIter_zip st.1 h
def iZipY (K : PySem.W.Frag) (ta : TA) : TI := fun σ H R => ta σ H fun vs H1 => ∃ a b xs ys, vs = [.ref a, .ref b] ∧ SqL K H1 a xs ∧ SqT K H1 b ys ∧ R (ItzY K a b) H1
theorem pi_zipY {X : Cx} {e e2 : Expr} {ta : TA} {p pos tpos : Pos} {elts : List Expr} {kk : Nat} (hg : Gl X "zip") (hm : X.mg "zip" = none) (ha : PA X [e, e2] ta) (hs : starEach [e, e2] X.env = (false, eval e X.env) :: starEach [e2] X.env := by rfl)
    (hpl : (backTo pos (starEach [e2] X.env)).any (·.1) = false := by rfl) : PI X (.Tuple elts kk tpos) (.Call (.Name "zip" p) [e, e2] [] pos) (iZipY X.K ta) := by
  refine ⟨fun pins s σ H R I h => ?_⟩
  refine PyProof.Rows.Call_ (ld_blt I hg hm PyProof.Rows.boot_zip (PyProof.Rows.callWith_type1 (thn (ha.run pos pins s σ H _ I h) fun us s1 ⟨vs, H1, I1, r1, a, b, xs, ys, ev, qx, qy, q⟩ => ?_) hs hpl))
  subst ev
  cases r1 with
  | cons ra rr =>
    cases rr with
    | cons rb rr =>
      cases rr
      cases ra
      cases rb
      obtain ⟨its, rx, px, _⟩ := I1.list qx
      obtain ⟨its2, ry, py, _⟩ := I1.tuple qy
      obtain ⟨o1, ho1, _⟩ := id py
      refine call_my px.isList (show s1.heap.IsTuple b its2.toArray from py) fun h' hz hTI hTO h1 h2 hk => wpAny_pyIter_zip hz ?_
      have I2 : Inv X pins σ H1 { s1 with heap := h' } := I1.kept (t' := s1.toks) hk
      refine ⟨s1.heap.objs.size + 4, [s1.heap.objs.size + 4, s1.heap.objs.size + 2, s1.heap.objs.size + 3, s1.heap.objs.size, s1.heap.objs.size + 1], _, _, H1, rfl, I2, turn_my (PySem.W.ktu_apart s1.heap.objs.size a b px.lt (Heap.lt_size ho1)), ⟨hz, hTI, ⟨_, _, hTO⟩, h1, h2⟩, fun c hcm => ?_, q⟩
      have hle : ∃ n : Nat, c = s1.heap.objs.size + n := by
        rcases five hcm with q | q | q | q | q
        · exact ⟨4, q⟩
        · exact ⟨2, q⟩
        · exact ⟨3, q⟩
        · exact ⟨0, q⟩
        · exact ⟨1, q⟩
      obtain ⟨n, rfl⟩ := hle
      exact I1.fpOk (Nat.le_add_right _ _) (I1.hok.fresh (Nat.le_add_right _ _))
theorem srv_zipY {K : PySem.W.Frag} {a b : Addr} {ds es : List PyData} : Srv K (ItzY K a b) [(.p (.list ds), .ref a), (.p (.tuple es), .ref b)] (zipL ds es) where
  go := fun i H L S hi => by
    rw [zipL_len] at hi
    obtain ⟨xs, hx, hl, _⟩ := SL.atL S
    obtain ⟨ys, hy, hm, _⟩ := SL.atT (SL.drop S)
    exact ⟨xs, ys, xs[i], ys[i], hx, hy, List.getElem?_eq_getElem (by omega), List.getElem?_eq_getElem (by omega)⟩
  yld := fun i H L x H' S y d hd => by
    obtain ⟨T, z, w, rfl, hT, rfl, y1, y2⟩ := y
    obtain ⟨p, q, hp, hq, rfl⟩ := zipL_get hd
    obtain ⟨xs, hx, hl, S1⟩ := SL.atL S
    have S2 := S1.pickL hp (y1 xs hx)
    have S4 : SL K H ((.p (.tuple es), .ref b) :: ((.p p, z) :: (.p (.list ds), .ref a) :: L)) := S2.perm ((List.Perm.cons _ (.swap _ _ _)).trans (.swap _ _ _))
    obtain ⟨ys', hy', hm', S5⟩ := SL.atT S4
    have S6 := S5.pickL hq (y2 ys' hy')
    have S7 : SL K H ((.p p, z) :: (.p q, w) :: (.p (.list ds), .ref a) :: (.p (.tuple es), .ref b) :: L) := S6.perm ((List.Perm.cons _ (.swap _ _ _)).trans ((List.Perm.swap _ _ _).trans (List.Perm.cons _ (List.Perm.cons _ (.swap _ _ _)))))
    exact SL.pair S7 hT
  stop := fun H L S => by
    obtain ⟨xs, hx, hl, _⟩ := SL.atL S
    obtain ⟨ys, hy, hm, _⟩ := SL.atT (SL.drop S)
    exact ⟨xs, ys, hx, hy, by rw [zipL_len]; omega⟩
/-- zip of lists, of tuples, of a tuple and a list -/
def zipY (fa : MA) : MI := fun Γ => (fa Γ).bind fun r => match r.1 with
  | [d, e] => match fz d, fz e with
    | some (.list ds), some (.tuple es) => some (zipL ds es, r.2)
    | _, _ => none
  | _ => none
theorem ei_zipY {C : Cx} {e e2 : Expr} {fa : MA} {ls : List (Option Nat)} {p pos tpos : Pos} {elts : List Expr} {kk : Nat} (hg : Gl C "zip") (hm : C.mg "zip" = none) (ha : PA C [e, e2] (okA C.K ls fa)) (hs : starEach [e, e2] C.env = (false, eval e C.env) :: starEach [e2] C.env := by rfl)
    (hpl : (backTo pos (starEach [e2] C.env)).any (·.1) = false := by rfl) : PI C (.Tuple elts kk tpos) (.Call (.Name "zip" p) [e, e2] [] pos) (okI C.K (zipY fa)) := (pi_zipY hg hm ha hs hpl).gimp fun σ H R ⟨Γ, X, ds, Γ', F, S, e, k⟩ => by
  obtain ⟨⟨d, Γ1⟩, e1, e⟩ := bindS e
  refine ⟨Γ, X, d, Γ1, F, S, e1, fun H1 vs F1 hl _ S1 => ?_⟩
  dsimp only at e
  split at e
  · rename_i d1 d2
    match vs, hl, S1 with
    | [x, y], _, S1 =>
      have S1 : SL C.K H1 ((d1, x) :: (d2, y) :: (slots _ σ ++ X)) := S1
      split at e
      · rename_i qs rs eq er
        cases e
        have S2 := ((S1.frz eq).swp.frz er).swp
        obtain ⟨a, xs, rfl, hx, _, _⟩ := S2.itemsL
        obtain ⟨b, ys, rfl, hy, _, _⟩ := S2.drop.items
        exact ⟨a, b, xs, ys, rfl, hx, hy, k H1 _ _ F1 srv_zipY S2⟩
      · cases e
  · cases e
/-- zip of whatever two sequences -/
def zipB (fa : MA) : MI := fun Γ => match zipY fa Γ with
  | some r => some r
  | none => zipA fa Γ
theorem ei_zipB {C : Cx} {e e2 : Expr} {fa : MA} {ls : List (Option Nat)} {p pos tpos : Pos} {elts : List Expr} {kk : Nat} (hg : Gl C "zip") (hm : C.mg "zip" = none) (ha : PA C [e, e2] (okA C.K ls fa)) (hs : starEach [e, e2] C.env = (false, eval e C.env) :: starEach [e2] C.env := by rfl)
    (hpl : (backTo pos (starEach [e2] C.env)).any (·.1) = false := by rfl) : PI C (.Tuple elts kk tpos) (.Call (.Name "zip" p) [e, e2] [] pos) (okI C.K (zipB fa)) := (pi_alt (ei_zipY hg hm ha hs hpl) (ei_zipA hg hm ha hs hpl)).gimp fun σ H R ⟨Γ, X, ds, Γ', F, S, e, k⟩ => by
  unfold zipB at e
  split at e
  · rename_i r er
    cases e
    exact .inl ⟨Γ, X, ds, Γ', F, S, er, k⟩
  · exact .inr ⟨Γ, X, ds, Γ', F, S, e, k⟩
def seqQ (d : D) (ds : List PyData) : Prop := fz d = some (.list ds) ∨ fz d = some (.tuple ds)
theorem w_zipB {fa : MA} {Γ : Nv} {QI : List PyData → Nv → Prop} (k : wA fa Γ fun xs Γ1 => ∃ x y, xs = [x, y] ∧ ∃ ds es, seqQ x ds ∧ seqQ y es ∧ QI (zipL ds es) Γ1) : wI (zipB fa) Γ QI := by
  obtain ⟨_, Γ1, e1, x, y, rfl, ds, es, h1 | h1, h2 | h2, k⟩ := k
  · exact ⟨_, _, by unfold zipB zipY zipA zipX zipI; rw [e1]; dsimp only [Option.bind]; rw [h1, h2], k⟩
  · exact ⟨_, _, by unfold zipB zipY; rw [e1]; dsimp only [Option.bind]; rw [h1, h2], k⟩
  · exact ⟨_, _, by unfold zipB zipY zipA zipX; rw [e1]; dsimp only [Option.bind]; rw [h1, h2], k⟩
  · exact ⟨_, _, by unfold zipB zipY zipA zipX zipI; rw [e1]; dsimp only [Option.bind]; rw [h1, h2], k⟩
end GH
namespace GH
open PySem L2
open PySem.W (alike alikeAll AllAlike Sortable dataLe dataLt EachIs)
/-! ### sorted of a list of data that are alike -/
def isT1 : PyData → Bool
  | .tuple (_ :: _) => true
  | _ => false
def noT : PyData → Bool
  | .none => false
  | .tuple _ => false
  | _ => true
def sortOk (ds : List PyData) : Bool := (ds.all fun d => ds.all fun d' => alike d d') && (ds.all isT1 || ds.all noT) && decide (ds.length ≤ 1000000) && decide (PyData.depthAll ds ≤ 50)
def sortQ (ds : List PyData) : List PyData := ds.mergeSort (dataLe false id)
def sortD (d : D) : Option D := match fz d with
  | some (.list ds) => if sortOk ds = true then some (.l ((sortQ ds).map .p)) else none
  | _ => none
theorem depth_mem : ∀ {ds : List PyData} {d : PyData}, d ∈ ds → d.depth ≤ PyData.depthAll ds
  | x :: ds, d, h => by
    rw [PyData.depthAll]
    rcases List.mem_cons.mp h with rfl | h
    · exact Nat.le_max_left _ _
    · exact Nat.le_trans (depth_mem h) (Nat.le_max_right _ _)
theorem sortOk_iff {ds : List PyData} (h : sortOk ds = true) : AllAlike ds ∧ Sortable ds ∧ ds.length ≤ 1000000 ∧ ∀ d ∈ ds, d.depth ≤ 50 := by
  unfold sortOk at h
  simp only [Bool.and_eq_true, Bool.or_eq_true, decide_eq_true_eq, List.all_eq_true] at h
  obtain ⟨⟨⟨h1, h2⟩, h3⟩, h4⟩ := h
  refine ⟨fun d hd d' hd' => h1 d hd d' hd', ?_, h3, fun d hd => Nat.le_trans (depth_mem hd) h4⟩
  rcases h2 with h2 | h2
  · refine .inl fun d hd => ?_
    have := h2 d hd
    unfold isT1 at this
    split at this
    · exact ⟨_, _, rfl⟩
    · cases this
  · refine .inr fun d hd => ?_
    have := h2 d hd
    unfold noT at this
    split at this
    · cases this
    · cases this
    · rename_i x1 x2 x3
      exact ⟨x2, x3⟩
section
variable {C : Cx} {pins : List (Addr × Obj)} {σ : L2.St} {H : Hp} {s : Shared}
theorem each_rel : ∀ {bs : List (PyData × V)} {its : List Value}, Vals (bs.map (·.2)) its → EachIs (fun (v : Value) (b : PyData × V) => RelV b.2 v) its bs
  | [], _, r => by
    cases r
    exact .nil
  | b :: bs, _, r => by
    rw [List.map_cons] at r
    cases r with
    | cons h t => exact .cons h (each_rel t)
theorem each_back : ∀ {bs : List (PyData × V)} {out : List Value}, EachIs (fun (v : Value) (b : PyData × V) => RelV b.2 v) out bs → Vals (bs.map (·.2)) out
  | _, _, .nil => .nil
  | _, _, .cons h t => .cons h (each_back t)
theorem each_and {α β : Type} {R S : α → β → Prop} {as : List α} {bs : List β} (h : EachIs R as bs) (hs : ∀ a b, b ∈ bs → R a b → S a b) : EachIs S as bs := by
  induction h with
  | nil => exact .nil
  | cons h t ih => exact .cons (hs _ _ List.mem_cons_self h) (ih fun a b hb => hs a b (List.mem_cons_of_mem _ hb))
theorem call_sortedQ (hu : C.A.units + 60 < cLine) : CallR C (.builtin "sorted") (fun vs H Q => ∃ (a : Addr) (bs : List (PyData × V)), vs = [V.ref a] ∧ SqL C.K H a (bs.map (·.2)) ∧ (∀ b ∈ bs, Dq C.K H b.2 b.1) ∧ sortOk (bs.map (·.1)) = true ∧
    ∀ p, H p = none → Q (.ref p) (upd H p (.lst ((bs.mergeSort (dataLe false (Prod.fst : PyData × V → PyData))).map (·.2))))) := by
  intro pins s σ H vs us Q I r h
  obtain ⟨a, bs, rfl, hs, hq, ho, q⟩ := h
  obtain ⟨u, rfl, ru⟩ := vals1 r
  obtain rfl : u = Value.ref a := ru
  obtain ⟨its, rv, hl, hz⟩ := I.list hs
  obtain ⟨o1, o2, o3, o4⟩ := sortOk_iff ho
  have e1 := each_rel rv
  rw [List.length_map] at o3
  refine PySem.W.sorted_data (β := PyData × V) (enc := Prod.fst) hl.isList e1 (each_and e1 fun v b hb hr => ?_) o1 o2 (by rw [lineM]; omega) (fun b hb => ?_) fun out hlen eo => ?_
  · obtain ⟨as, rd⟩ := Dq.reads I (hq b hb) hr
    exact ⟨as, rd.to⟩
  · have := o4 b.1 (List.mem_map.mpr ⟨b, hb, rfl⟩)
    omega
  · have hperm : (bs.mergeSort (dataLe false (Prod.fst : PyData × V → PyData))).Perm bs := List.mergeSort_perm _ _
    obtain ⟨n, hn⟩ := PyProof.Rows.sortedAll_at s.heap its (List.toArray out)
    refine ⟨.ref (s.heap.objs.size + 1), _, I.laid (t' := s.toks) (a := s.heap.objs.size + 1) (o := .lst ((bs.mergeSort (dataLe false (Prod.fst : PyData × V → PyData))).map (·.2))) (fun b o e => PyProof.Rows.sortedAll_old e) (Nat.le_succ _) ⟨?_, out, n, each_back eo, hn⟩, rfl, q _ (I.hok.fresh (Nat.le_succ _))⟩
    rw [List.length_map, hperm.length_eq, lineM]
    omega
theorem zip_fst_snd : ∀ ss : List (PyData × V), ss.map (fun b => (D.p b.1, b.2)) = ((ss.map (·.1)).map D.p).zip (ss.map (·.2))
  | [] => rfl
  | x :: ss => by
    rw [List.map_cons, zip_fst_snd ss]
    rfl
theorem dq_zip {K : PySem.W.Frag} {H : Hp} : ∀ {xs : List V} {qs : List PyData}, DqAll K H xs qs → ∀ b ∈ qs.zip xs, Dq K H b.2 b.1
  | _, _, .nil, _, h => nomatch h
  | _, _, .cons h t, b, hb => by
    rcases List.mem_cons.mp hb with rfl | hb
    · exact h
    · exact dq_zip t b hb
theorem c_sorted (hu : C.A.units + 60 < cLine) : CallR C (.builtin "sorted") (okC C.K (un1 sortD)) := (call_sortedQ hu).gimp fun vs H Q ⟨L, ds, d, hl, S, e, k⟩ => by
  unfold un1 at e
  split at e
  · rename_i dx
    match vs, hl, S with
    | [x], _, S =>
      have S : SL C.K H ((dx, x) :: L) := S
      unfold sortD at e
      split at e
      · rename_i qs eq
        split at e
        · rename_i ho
          cases e
          have S1 := S.frz eq
          obtain ⟨a, xs, rfl, hx, hl, S2⟩ := S1.itemsL
          have z1 : (qs.zip xs).map (·.1) = qs := List.map_fst_zip (Nat.le_of_eq hl)
          have z2 : (qs.zip xs).map (·.2) = xs := List.map_snd_zip (Nat.le_of_eq hl.symm)
          have zp : ((qs.zip xs).mergeSort (dataLe false (Prod.fst : PyData × V → PyData))).Perm (qs.zip xs) := List.mergeSort_perm _ _
          have zm : ((qs.zip xs).mergeSort (dataLe false (Prod.fst : PyData × V → PyData))).map (·.1) = sortQ qs := by
            have := PySem.W.sort_maps (r := dataLe false (Prod.fst : PyData × V → PyData)) (s := dataLe false id) (Prod.fst : PyData × V → PyData) (l := qs.zip xs) (fun a _ b _ => rfl)
            rw [z1] at this
            exact this
          have S3 : SL C.K H ((qs.zip xs).map (fun b => (D.p b.1, b.2)) ++ L) := by
            have e0 : ((qs.map D.p).zip xs) = (qs.zip xs).map (fun b => (D.p b.1, b.2)) := by
              rw [List.zip_map_left]
              rfl
            have := (S2.perm List.perm_middle).drop
            rwa [e0] at this
          refine ⟨a, qs.zip xs, rfl, by rw [z2]; exact hx, fun b hb => ?_, by rw [z1]; exact ho, fun p hp => k _ _ ?_⟩
          · have hd := SL.dpAll (ds := qs) (vs := xs) hl S2
            exact dq_zip hd b hb
          · have S4 := S3.perm ((zp.symm.map (fun b => (D.p b.1, b.2))).append_right L)
            generalize (qs.zip xs).mergeSort (dataLe false (Prod.fst : PyData × V → PyData)) = ss at *
            rw [← zm]
            have e5 := zip_fst_snd ss
            rw [e5] at S4
            exact SL.close (by simp) (S4.newc hp)
        · cases e
      · cases e
  · cases e
end
end GH
namespace GH
open PySem PySem.Spec L2 PyProof.Rows
open PySem.W (alike alikeAll AllAlike Sortable dataLe dataLt EachIs)
/-! ### sorted(set(..)) of a list of tuples of integers -/
abbrev tpE (q : Addr × List Int) : PyData := .tuple (q.2.map .int)
section
variable {P : Program} {w : World} {A : Around} {E : Value → Shared → Prop} {s : Shared}
theorem each_refs : ∀ L : List (Addr × List Int), EachIs (fun (v : Value) (q : Addr × List Int) => v = Value.ref q.1) (L.map fun q => Value.ref q.1) L
  | [] => .nil
  | _ :: L => .cons rfl (each_refs L)
theorem each_refs_eq : ∀ {out : List Value} {L : List (Addr × List Int)}, EachIs (fun (v : Value) (q : Addr × List Int) => v = Value.ref q.1) out L → out = L.map fun q => Value.ref q.1
  | _, _, .nil => rfl
  | _, _, .cons h t => by rw [List.map_cons, ← h, ← each_refs_eq t]
theorem sorted_setQ {a : Addr} {L : List (Addr × List Int)} {es : Array (Int × Value)} {ep : Nat} {t : SetTable} {Q : Value → Shared → Prop} (R : SetTR P w s.heap a L es ep t) (hh : A.handled = none) (hu : A.units + 60 < cLine)
    (hal : AllAlike (L.map tpE)) (hk : Sortable (L.map tpE))
    (hQ : ∀ s' p (out : Array Value) (c : Nat) (L' : List (Addr × List Int)), (∀ b o, s.heap.get? b = some o → s'.heap.get? b = some o) → s'.gens = s.gens → s'.os = s.os → s.heap.objs.size ≤ p →
      s'.heap.get? p = some (seqObj "list" out c) → out.toList = L'.map (fun q => Value.ref q.1) → L'.Perm L → (∃ L1 : List (Addr × List Int), L' = L1.mergeSort (dataLe false tpE)) → Q (.ref p) s') :
    wpAny (model P w) A (call (.builtin "sorted") [.ref a]) Q E s := by
  obtain ⟨o, ho, hex, hd⟩ := R.ob
  have hsz := R.size
  have hfew := R.few
  refine Calls.call_function_entry kind_sorted plain_sorted entry_sorted (args_sorted1 _) ?_
  unfold Builtin.«sorted»
  refine wpAny_bind (m := checkCount "sorted" 1 1 _) (wpAny_pure ?_)
  refine wpAny_bind (collect_set (A := A.in1) hh ⟨o, ho, hex.1, hd⟩ R.fits (by unfold scanBound; omega) R.tab.ris R.led fun s1 vs k1 hz g1 o1 pm => ?_)
  have hes : es.toList.map (·.2) = L.map fun q => Value.ref q.1 := by
    rw [R.rows]
    unfold rowsOf
    rw [List.map_map] <;> rfl
  rw [hes] at pm
  have ord : ∀ vs : List Value, (∀ v ∈ vs, ∃ q ∈ L, v = Value.ref q.1) → ∃ L1 : List (Addr × List Int), vs = L1.map (fun q => Value.ref q.1) ∧ ∀ q ∈ L1, q ∈ L := by
    intro vs
    induction vs with
    | nil => intro _; exact ⟨[], rfl, fun q hq => (by cases hq)⟩
    | cons v vs ih =>
      intro hv
      obtain ⟨q, hq, e⟩ := hv v List.mem_cons_self
      obtain ⟨L1, e1, hs⟩ := ih fun u hu => hv u (List.mem_cons_of_mem _ hu)
      refine ⟨q :: L1, by rw [List.map_cons, e, e1], fun r hr => ?_⟩
      rcases List.mem_cons.mp hr with z | z
      · rw [z]; exact hq
      · exact hs r z
  have one : ∀ q ∈ L, ∀ r ∈ L, q.1 = r.1 → q = r := fun q hq r hr e => by
    have a1 := R.tup q hq
    have a2 := R.tup r hr
    rw [e] at a1
    have e2 : q.2 = r.2 := a1.inj a2
    exact Prod.ext e e2
  have perm_of : ∀ L1 : List (Addr × List Int), (∀ q ∈ L1, q ∈ L) → (L1.map (fun q => Value.ref q.1)).Perm (L.map fun q => Value.ref q.1) → L1.Perm L := by
    intro L1 hs pm1
    have nL : L.Nodup := nodup_of_map R.nd
    have nref : (L.map fun q => Value.ref q.1).Nodup := by
      refine List.pairwise_map.mpr (List.Pairwise.imp_of_mem (fun {q r} hq hr hne e => ?_) nL)
      injection e with e
      exact hne (one q hq r hr e)
    have n1 : L1.Nodup := nodup_of_map (pm1.nodup_iff.mpr nref)
    refine (List.perm_ext_iff_of_nodup n1 nL).mpr fun q => ⟨hs q, fun hq => ?_⟩
    have hm : Value.ref q.1 ∈ L1.map (fun q => Value.ref q.1) := pm1.mem_iff.mpr (List.mem_map.mpr ⟨q, hq, rfl⟩)
    obtain ⟨r, hr, e⟩ := List.mem_map.mp hm
    injection e with e
    rw [← one r (hs r hr) q hq e]
    exact hr
  obtain ⟨L1, rfl, hs1⟩ := ord vs fun v hv => by
    obtain ⟨q, hq, e⟩ := List.mem_map.mp (pm.mem_iff.mp hv)
    exact ⟨q, hq, e.symm⟩
  have pL1 := perm_of L1 hs1 pm
  have hvl : L1.length < 64 := by rw [pL1.length_eq]; exact hfew
  refine wpAny_bind (wpAny_newList ?_ (by rw [List.length_map, sizeLine_eq]; omega))
  have hoL : (s1.heap.push (seqObj "list" (L1.map fun q => Value.ref q.1).toArray 0)).get? s1.heap.objs.size = some (seqObj "list" (L1.map fun q => Value.ref q.1).toArray 0) := Heap.get?_push_size _ rfl
  have rd : ∀ q ∈ L1, ∃ as, Reads (s1.heap.push (seqObj "list" (L1.map fun q => Value.ref q.1).toArray 0)) (.ref q.1) (tpE q) as ∧ s1.heap.objs.size ∉ as := fun q hq => by
    obtain ⟨o, items, n, ho, hc, hd, hi⟩ := isT_keep (R.tup q (hs1 q hq)) fun b u e => Heap.get?_push_of_some _ (k1 b u e)
    have hi' := ints_of_items hi
    have rall : ∀ {ks : List Int} {vs : List Value}, IntsAre vs ks → ReadsAll (s1.heap.push (seqObj "list" (L1.map fun q => Value.ref q.1).toArray 0)) vs (ks.map .int) [] := by
      intro ks vs h
      induction h with
      | nil => exact .nil
      | cons k t _ ih => exact .cons (as := []) (bs := []) (.int k t) ih
    exact ⟨[], Reads.tuple ho hc hd (rall hi'), by simp⟩
  have hbig : ∀ q ∈ L1, tpE q ∈ L.map tpE := fun q hq => List.mem_map.mpr ⟨q, hs1 q hq, rfl⟩
  have hal1 : AllAlike (L1.map tpE) := fun d hd d' hd' => by
    obtain ⟨q, hq, rfl⟩ := List.mem_map.mp hd
    obtain ⟨r, hr, rfl⟩ := List.mem_map.mp hd'
    exact hal _ (hbig q hq) _ (hbig r hr)
  have hk1 : Sortable (L1.map tpE) := hk.imp (fun h d hd => by
    obtain ⟨q, hq, rfl⟩ := List.mem_map.mp hd
    exact h _ (hbig q hq)) (fun h d hd => by
    obtain ⟨q, hq, rfl⟩ := List.mem_map.mp hd
    exact h _ (hbig q hq))
  have hdep : ∀ ks : List Int, PyData.depthAll (ks.map .int) ≤ 1 := fun ks => by
    induction ks with
    | nil => exact Nat.zero_le _
    | cons k ks ih => exact Nat.max_le.mpr ⟨by simp [PyData.depth], ih⟩
  refine wpAny_bind (wpAny_holding (PySem.W.list_sort_data (enc := tpE) (bs := L1) (R := fun v q => v = Value.ref q.1) (s := { s1 with heap := s1.heap.push (seqObj "list" (L1.map fun q => Value.ref q.1).toArray 0) }) hoL (each_refs L1) (each_and (each_refs L1) fun v q hq e => ?_) hal1 hk1 (by rw [sizeLine_eq]; omega) (fun q hq => ?_) fun out a1 a2 => ?_))
  · rw [e]
    exact rd q hq
  · have := hdep q.2
    show _ + 1 + (PyData.tuple _).depth < _
    rw [PyData.depth]
    show A.units + 1 + 1 + (PyData.depthAll _ + 1) < _
    omega
  · obtain ⟨c, hc⟩ := sortedHeap_at (vs := L1.map fun q => Value.ref q.1) (out := out.toArray) hoL
    have e' : out = (L1.mergeSort (dataLe false tpE)).map fun q => Value.ref q.1 := each_refs_eq a2
    refine wpAny_pure ⟨_, rfl, hQ _ s1.heap.objs.size out.toArray c (L1.mergeSort (dataLe false tpE)) (fun b u e => ?_) g1 o1 hz hc e' ((List.mergeSort_perm _ _).trans pL1) ⟨L1, rfl⟩⟩
    have q := k1 b u e
    have hlt := Heap.lt_size q
    show (sortedHeap (s1.heap.push (seqObj "list" _ 0)) s1.heap.objs.size _ out.toArray).get? b = some u
    rw [sortedHeap_old (Nat.ne_of_lt hlt) (by rw [size_push']; exact Nat.lt_succ_of_lt hlt)]
    exact Heap.get?_push_of_some _ q
end
end GH
namespace GH
open PySem PySem.Spec L2 PyProof.Rows
open PySem.W (alike alikeAll AllAlike Sortable dataLe dataLt EachIs keyToks keyToksAll)
/-! ### rows of integers, their order and their set -/
def tI (k : List Int) : PyData := .tuple (k.map .int)
def intsO : List PyData → Option (List Int)
  | [] => some []
  | .int i :: ds => (intsO ds).map (i :: ·)
  | _ :: _ => none
def irows : List PyData → Option (List (List Int))
  | [] => some []
  | .tuple xs :: ds => (intsO xs).bind fun k => (irows ds).map (k :: ·)
  | _ :: _ => none
theorem intsEq : ∀ {ds : List PyData} {k : List Int}, intsO ds = some k → ds = k.map .int
  | [], k, h => by cases h; rfl
  | d :: ds, k, h => by
    unfold intsO at h
    split at h
    · rename_i e; cases e
    · rename_i i ds' e
      cases e
      obtain ⟨k', e1, e2⟩ := mapS h
      cases e2
      rw [List.map_cons, ← intsEq e1]
    · cases h
theorem irows_eq : ∀ {ds : List PyData} {kss : List (List Int)}, irows ds = some kss → ds = kss.map tI
  | [], k, h => by cases h; rfl
  | d :: ds, k, h => by
    unfold irows at h
    split at h
    · rename_i e; cases e
    · rename_i xs ds' e
      cases e
      obtain ⟨k', e1, h⟩ := bindS h
      obtain ⟨ks, e2, e3⟩ := mapS h
      cases e3
      rw [List.map_cons, ← irows_eq e2, tI, ← intsEq e1]
    · cases h
def ddup : List (List Int) → List (List Int)
  | [] => []
  | k :: ks => if k ∈ ks then ddup ks else k :: ddup ks
theorem mem_ddup {k : List Int} : ∀ {ks : List (List Int)}, k ∈ ddup ks ↔ k ∈ ks
  | [] => Iff.rfl
  | x :: ks => by
    unfold ddup
    split
    · rename_i hx
      rw [mem_ddup, List.mem_cons]
      exact ⟨.inr, fun h => h.elim (fun e => e ▸ hx) id⟩
    · rw [List.mem_cons, List.mem_cons, mem_ddup]
theorem nodup_ddup : ∀ {ks : List (List Int)}, (ddup ks).Nodup
  | [] => .nil
  | x :: ks => by
    unfold ddup
    split
    · exact nodup_ddup
    · rename_i hx
      exact List.nodup_cons.mpr ⟨fun h => hx (mem_ddup.mp h), nodup_ddup⟩
def leI : List Int → List Int → Bool := dataLe false tI
def setSort (kss : List (List Int)) : List (List Int) := (ddup kss).mergeSort leI
theorem toks_inj : ∀ {a b : List Int}, keyToksAll (a.map .int) = keyToksAll (b.map .int) → a = b
  | [], [], _ => rfl
  | [], b :: bs, h => by simp [keyToksAll] at h
  | a :: as, [], h => by simp [keyToksAll] at h
  | a :: as, b :: bs, h => by
    simp only [List.map_cons, keyToksAll, keyToks, List.cons_append, List.nil_append, List.cons.injEq, Sum.inl.injEq, true_and] at h
    rw [h.1, toks_inj h.2]
theorem leI_anti {a b : List Int} (h1 : leI a b = true) (h2 : leI b a = true) : a = b := by
  unfold leI dataLe PySem.W.sortLe at h1 h2
  simp only [cond_false, Bool.not_eq_true'] at h1 h2
  have := lex_total _ _ h1 h2
  unfold tI at this
  rw [keyToks, keyToks] at this
  exact (toks_inj this).symm
theorem sort_uniq {A B : List (List Int)} (h : A.Perm B) : A.mergeSort leI = B.mergeSort leI := by
  have T := PySem.W.sortLe_total (PyProof.Rows.listOrd PyProof.Rows.itemOrd) false fun b => keyToks (tI b)
  have pw : ∀ l : List (List Int), List.Pairwise (fun a b => leI a b = true) (l.mergeSort leI) := fun l => List.pairwise_mergeSort (le := leI) (fun a b c => T.trans a b c) (fun a b => by
    have := T.total a b
    exact Bool.or_eq_true_iff.mpr this) l
  exact List.Perm.eq_of_pairwise (fun a b _ _ => leI_anti) (pw A) (pw B) ((List.mergeSort_perm _ _).trans (h.trans (List.mergeSort_perm _ _).symm))
theorem setSort_of {L L' L1 : List (Addr × List Int)} {kss : List (List Int)} (hp : L'.Perm L) (hn : (L'.map (·.2)).Nodup) (he : L' = L1.mergeSort (dataLe false tpE)) (h1 : ∀ p ∈ L, p.2 ∈ kss) (h2 : ∀ k ∈ kss, k ∈ L.map (·.2)) : L'.map (·.2) = setSort kss := by
  have zm : L'.map (·.2) = (L1.map (·.2)).mergeSort leI := by
    rw [he]
    exact PySem.W.sort_maps (r := dataLe false tpE) (s := leI) (fun p : Addr × List Int => p.2) (l := L1) (fun a _ b _ => rfl)
  rw [zm]
  have pl : (L1.map (·.2)).Perm (L'.map (·.2)) := by rw [he]; exact (List.mergeSort_perm _ _).symm.map _
  refine sort_uniq (pl.trans ((List.perm_ext_iff_of_nodup hn nodup_ddup).mpr fun k => ?_))
  rw [mem_ddup]
  refine ⟨fun hk => ?_, fun hk => ?_⟩
  · obtain ⟨p, hp', rfl⟩ := List.mem_map.mp hk
    exact h1 p (hp.mem_iff.mp hp')
  · obtain ⟨p, hp', rfl⟩ := List.mem_map.mp (h2 k hk)
    exact List.mem_map.mpr ⟨p, hp.mem_iff.mpr hp', rfl⟩
end GH
namespace GH
open PySem PySem.Spec L2 PyProof.Rows
open PySem.W (alike alikeAll AllAlike Sortable dataLe dataLt EachIs keyToks keyToksAll)
section
variable {C : Cx}
def rSortQ (K : PySem.W.Frag) (P : Program) (w : World) : List V → Hp → VK → Prop := fun vs H Q => ∃ (a : Addr) (L : List (Addr × List Int)), vs = [V.ref a] ∧ H a = some (SetTO P w a L) ∧ (∀ p ∈ L, SqT K H p.1 (p.2.map V.int)) ∧ AllAlike (L.map tpE) ∧ Sortable (L.map tpE) ∧
  ∀ (L' L1 : List (Addr × List Int)) (p : Addr), L'.Perm L → (L'.map (·.2)).Nodup → L' = L1.mergeSort (dataLe false tpE) → H p = none → Q (.ref p) (upd H p (.lst (L'.map fun q => V.ref q.1)))
theorem cr_sortQ (hc : C.calm = true) (hu : C.A.units + 60 < cLine) : CallR C (.builtin "sorted") (rSortQ C.K C.prog C.w) := by
  intro pins s σ H vs us Q I r h
  obtain ⟨a, L, rfl, ha, hk, hal, hso, q⟩ := h
  have R0 : SetT0 C.prog C.w s.heap a L := (I.hok a _ ha).1
  obtain ⟨es, ep, t, R⟩ := R0.full fun p hp => I.isT (hk p hp)
  rw [Vals.ref1 r]
  refine sorted_setQ R (I.ok.hd hc) hu hal hso fun s' p out c L' k g o hp hg hout pm ⟨L1, e1⟩ => ?_
  have hfew : L'.length < 64 := by rw [pm.length_eq]; exact R.few
  have hlen : (L'.map fun q => V.ref q.1).length ≤ sizeLine := by rw [List.length_map, sizeLine_eq]; omega
  have hn : H p = none := I.hok.fresh hp
  have hv : Vals (L'.map fun q => V.ref q.1) out.toList := by rw [hout]; exact vals_of_refs L'
  have J : Inv C pins σ (upd H p (.lst (L'.map fun q => V.ref q.1))) { s with heap := s'.heap, gens := s'.gens, drawn := s'.drawn, toks := s'.toks } :=
    I.call (ch := []) (Un.laid k hp hn) (I.hok.laid k hp ⟨hlen, out.toList, c, hv, hg⟩) (by rw [g]; exact I.bare) (fun _ z => nomatch z)
  have e : s' = { s with heap := s'.heap, gens := s'.gens, drawn := s'.drawn, toks := s'.toks } := by
    cases s'
    cases s
    cases o
    rfl
  rw [e]
  exact ⟨.ref p, _, J, rfl, q L' L1 p pm ((pm.map (·.2)).nodup_iff.mpr R.nd) e1 hn⟩
def setOk (kss : List (List Int)) : Bool := decide (kss.length < 64) && kss.all fun k => !k.isEmpty
def setSortD (d : D) : Option D := match fz d with
  | some (.list ds) => match irows ds with
    | some kss => if setOk kss = true then some (.l ((setSort kss).map fun k => .p (tI k))) else none
    | none => none
  | _ => none
theorem dq_ints {K : PySem.W.Frag} {H : Hp} : ∀ {k : List Int} {xs : List V}, DqAll K H xs (k.map .int) → xs = k.map V.int
  | [], _, h => by cases h; rfl
  | i :: k, _, h => by
    cases h with
    | cons h t =>
      cases h
      rw [dq_ints t, List.map_cons] <;> rfl
theorem dq_rows {K : PySem.W.Frag} {H : Hp} : ∀ {kss : List (List Int)} {xs : List V}, DqAll K H xs (kss.map tI) → ∃ ks : List (Addr × List Int), xs = ks.map (fun p => V.ref p.1) ∧ kss = ks.map (·.2) ∧ ∀ p ∈ ks, SqT K H p.1 (p.2.map V.int)
  | [], _, h => by cases h; exact ⟨[], rfl, rfl, fun p hp => (by cases hp)⟩
  | k :: kss, _, h => by
    cases h with
    | cons h t =>
      obtain ⟨ks, e1, e2, h3⟩ := dq_rows t
      cases h with
      | tup h g =>
        rename_i a xs
        refine ⟨(a, k) :: ks, by rw [e1]; rfl, by rw [e2]; rfl, fun p hp => ?_⟩
        rcases List.mem_cons.mp hp with rfl | hp
        · rw [← dq_ints g]; exact h
        · exact h3 p hp
abbrev rowE (p : Addr × List Int) : D × V := (D.p (tI p.2), V.ref p.1)
theorem SL.more {K : PySem.W.Frag} {H : Hp} {X : List (D × V)} {A : List (Addr × List Int)} (S : SL K H (A.map rowE ++ X)) : ∀ (L : List (Addr × List Int)), (∀ p ∈ L, p ∈ A) → SL K H (L.map rowE ++ (A.map rowE ++ X))
  | [], _ => S
  | p :: L, h => by
    have ih := SL.more S L fun q hq => h q (List.mem_cons_of_mem _ hq)
    obtain ⟨s, t, e⟩ := List.append_of_mem (h p List.mem_cons_self)
    have P : (L.map rowE ++ (A.map rowE ++ X)).Perm (rowE p :: (L.map rowE ++ (s.map rowE ++ t.map rowE ++ X))) := by
      have e2 : L.map rowE ++ (A.map rowE ++ X) = (L.map rowE ++ s.map rowE) ++ rowE p :: (t.map rowE ++ X) := by
        rw [e]
        simp only [List.map_append, List.map_cons, List.append_assoc, List.cons_append]
      rw [e2]
      refine List.perm_middle.trans ?_
      rw [List.append_assoc, List.append_assoc]
    have := (ih.perm P).dup.perm (P.symm.cons _)
    exact this
theorem setsort_run {K : PySem.W.Frag} {P : Program} {w : World} {vs : List V} {H : Hp} {Q : VK} (h : okC K (un1 setSortD) vs H Q) : rSetOfT K P w vs H fun v H1 => rSortQ K P w [v] H1 Q := by
  obtain ⟨L, ds, d, hl, S, e, k⟩ := h
  unfold un1 at e
  split at e
  · rename_i dx
    match vs, hl, S with
    | [x], _, S =>
      have S : SL K H ((dx, x) :: L) := S
      unfold setSortD at e
      split at e
      · rename_i qs eq
        split at e
        · rename_i kss ek
          split at e
          · rename_i ho
            cases e
            obtain rfl := irows_eq ek
            have S1 := S.frz eq
            obtain ⟨a, xs, rfl, hx, hl, S2⟩ := S1.itemsL
            have S3 := (S2.perm List.perm_middle).drop
            obtain ⟨ks, rfl, rfl, hk⟩ := dq_rows (SL.dpAll hl S3)
            unfold setOk at ho
            simp only [Bool.and_eq_true, decide_eq_true_eq, List.all_eq_true] at ho
            rw [List.length_map] at ho
            have S4 : SL K H (ks.map rowE ++ L) := by
              have e0 : ((((ks.map (·.2)).map tI).map D.p).zip (ks.map fun p => V.ref p.1)) = ks.map rowE := by
                rw [List.map_map, List.map_map, List.zip_map']
                rfl
              rwa [e0] at S3
            refine ⟨a, ks, rfl, hx, hk, ho.1, fun b M hb hsub hsup => ⟨b, M, rfl, upd_same, fun p hp => Same.seqT (same_upd hb) (hk p (hsub p hp)), ?_, .inl fun d hd => ?_, fun L' L1 p pm nd e1 hp => k _ _ ?_⟩⟩
            · intro d hd d' hd'
              obtain ⟨q, hq, rfl⟩ := List.mem_map.mp hd
              obtain ⟨r, hr, rfl⟩ := List.mem_map.mp hd'
              unfold tpE alike
              exact PySem.W.alike_ints _ _
            · obtain ⟨q, hq, rfl⟩ := List.mem_map.mp hd
              have := ho.2 q.2 (List.mem_map.mpr ⟨q, hsub q hq, rfl⟩)
              match q, this with
              | (b, i :: is), _ => exact ⟨_, _, rfl⟩
              | (b, []), h => simp at h
            · have S5 := SL.more S4 L' fun q hq => hsub q (pm.mem_iff.mp hq)
              have S6 := (S5.grow (same_upd (o := SetTO P w b M) hb)).newc (vs := L'.map fun q => V.ref q.1) hp
              have ez := setSort_of (kss := ks.map (·.2)) pm nd e1 (fun p hp => List.mem_map.mpr ⟨p, hsub p hp, rfl⟩) (fun k hk => by
                obtain ⟨p, hp, rfl⟩ := List.mem_map.mp hk
                exact hsup p hp)
              refine SL.close (vs := L'.map fun q => V.ref q.1) (by simp [← ez]) ?_
              have e3 : (((setSort (ks.map (·.2))).map fun k => D.p (tI k)).zip (L'.map fun q => V.ref q.1)) = L'.map rowE := by
                rw [← ez, List.map_map, List.zip_map']
                exact List.map_congr_left fun _ _ => rfl
              rw [e3]
              refine S6.sub (.cons_cons _ ?_)
              exact (List.Sublist.refl _).append (List.sublist_append_right _ _)
          · cases e
        · cases e
      · cases e
  · cases e
/-- sorted(set(e)), a list of rows of integers -/
theorem ee_sortset {e : Expr} {fa : MA} {ls : List (Option Nat)} {p p2 pos pos2 : Pos} (hc : C.calm = true) (hu : C.A.units + 64 < cLine) (hg : Gl C "sorted") (hm : C.mg "sorted" = none) (hv : bootBuiltins "sorted" = some (.builtin "sorted")) (zg : Gl C "set") (zm : C.mg "set" = none) (zv : bootBuiltins "set" = some (.type "set"))
    (ha : PA C [e] (okA C.K ls fa))
    (he : starEach [e] C.env = (false, eval e C.env) :: starEach [] C.env := by rfl) (hpl : (backTo pos2 (starEach [] C.env)).any (·.1) = false := by rfl)
    (he2 : starEach [.Call (.Name "set" p2) [e] [] pos2] C.env = (false, eval (.Call (.Name "set" p2) [e] [] pos2) C.env) :: starEach [] C.env := by rfl) (hpl2 : (backTo pos (starEach [] C.env)).any (·.1) = false := by rfl) :
    PE C (.Call (.Name "sorted" p) [.Call (.Name "set" p2) [e] [] pos2] [] pos) (okE C.K (appD (un1 setSortD) fa)) :=
  (pe_callB (cr_sortQ hc (by omega)) hg hm hv (pa_cons (pe_callTy (cr_setOfT hc hu) zg zm zv ha (by decide) (by decide) he hpl) pa_nil he2) (by decide) (by decide) he2 hpl2).gimp fun σ H Q h => by
    obtain ⟨Γ, X, d, Γ', F, S, e, k⟩ := app_run h
    exact ⟨Γ, X, d, Γ', F, S, e, fun H1 vs F1 hl hL S1 => setsort_run (k H1 vs F1 hl hL S1)⟩
end
end GH
namespace GH
open PySem L2 PySem.Spec RZ
/-! ### enumerate(zip(x, y)) of two tuples -/
section
variable {prog : Program} {w : World} {A : Around} {E : Value → Shared → Prop} {s : Shared} {z TI TO i1 i2 l1 l2 S : Addr}
abbrev IsZipF (h : Heap) (z TI TO : Addr) (f0 : Value) (f : Bool) : Prop :=
  h.get? z = some { cls := .type "zip", dict := none, data := .fields #[f0, .bool f, .bool false, .ref TI, .ref TO], slots := #[] }
theorem gone {a : Addr} {Q : Option Obj → Shared → Prop} (h : s.heap.get? a = none) (q : Q none s) : wpAny (model prog w) A (loadIfAlive a) Q E s := by
  intro Γ p hΓ
  unfold loadIfAlive
  rw [Sem.wp_loadIfAlive, h]
  exact wpAny_pure q Γ p hΓ
theorem zfree {f0 : Value} {f : Bool} {Q : Bool → Shared → Prop} (hz : IsZipF s.heap z TI TO f0 f) (hf : f0 = .none ∨ ∃ T : Addr, f0 = rawInt T ∧ s.heap.get? T = none) (q : Q true s) : wpAny (model prog w) A (Builtin.SmallTypes.ownedTupleIsFree (.ref z)) Q E s := by
  unfold Builtin.SmallTypes.ownedTupleIsFree
  rcases hf with rfl | ⟨T, rfl, hT⟩
  · exact wpAny_bind (wpAny_field hz rfl (x := .none) rfl (wpAny_pure q))
  · refine wpAny_bind (wpAny_field hz rfl (x := rawInt T) rfl ?_)
    show wpAny _ _ (loadIfAlive ((T : Int).toNat) >>= _) _ _ _
    rw [Int.toNat_natCast]
    refine wpAny_bind (gone hT ?_)
    exact wpAny_pure q
theorem nx_item {f0 : Value} {f : Bool} {k : Nat} {xs ys : Array Value} {x y a b : Value} {Q : Value → Shared → Prop} (D : ZipApart z TI TO i1 i2 l1 l2) (hz : IsZipF s.heap z TI TO f0 f) (hf : f0 = .none ∨ ∃ T : Addr, f0 = rawInt T ∧ s.heap.get? T = none) (hTI : IsPair s.heap TI (.ref i1) (.ref i2)) (hTO : IsPair s.heap TO a b)
    (h1 : s.heap.IsTupleIter i1 l1 k) (h2 : s.heap.IsTupleIter i2 l2 k) (t1 : s.heap.IsTuple l1 xs) (t2 : s.heap.IsTuple l2 ys) (hx : xs[k]? = some x) (hy : ys[k]? = some y)
    (q : ∀ h', IsZipF h' z TI TO (rawInt s.heap.objs.size) false → IsPair h' TO x y → h'.IsTupleIter i1 l1 (k + 1) → h'.IsTupleIter i2 l2 (k + 1) → IsPair h' s.heap.objs.size x y → h'.objs.size = s.heap.objs.size + 1 →
      (∀ c o, c ≠ z → c ≠ TO → c ≠ i1 → c ≠ i2 → s.heap.get? c = some o → h'.get? c = some o) → Q (.ref s.heap.objs.size) { s with heap := h' }) :
    wpAny (model prog w) A (Builtin.SmallTypes.nextOf (.ref z)) Q E s := by
  have ty : s.TypeIs (.ref z) "zip" := ⟨_, hz, rfl⟩
  have go : wpAny (model prog w) A.in1 (Builtin.«zip.__next__» ⟨[.ref z], []⟩) (fun fin s' => ∃ v, fin = .done (.ret v) ∧ Q v s') (fun _ _ => False) s := by
    show wpAny _ _ (field (.ref z) 2 >>= _) _ _ _
    refine wpAny_bind (wpAny_field hz rfl (x := .bool false) rfl ?_)
    show wpAny _ _ (field (.ref z) 3 >>= _) _ _ _
    refine wpAny_bind (wpAny_field hz rfl (x := .ref TI) rfl (wpAny_bind (wpAny_seqItems hTI rfl ?_)))
    show wpAny _ _ (Builtin.SmallTypes.ownedTupleIsFree (.ref z) >>= _) _ _ _
    refine wpAny_bind (zfree hz hf ?_)
    simp only [if_true]
    refine wpAny_bind (wpAny_rule (wpAny_bind (wpAny_field hz rfl (x := .ref TO) rfl (wpAny_bind (wpAny_setField_rec hz (by simp) fun g1 z1 s1 => ?_)))))
    replace z1 : IsZipF g1 z TI TO .ellipsis f := z1
    refine wpAny_bind ?_
    simp only [List.zipIdx_cons, List.zipIdx_nil, List.forIn_cons, List.forIn_nil]
    refine wpAny_bind (wpAny_bind (wpAny_onRaise ?_))
    show wpAny _ _ (Builtin.SmallTypes.nextOf (.ref i1) >>= _) _ _ _
    refine wpAny_bind (nextOf_tuple_item (h1.extBut s1.extBut D.i1z) (t1.extBut s1.extBut D.l1z) hx fun g2 a2 s2 => wpAny_pure ?_)
    have p2 : IsPair g2 TO a b := s2.extBut _ _ D.TOi1 (s1.extBut _ _ D.TOz hTO)
    refine wpAny_bind (wpAny_seqItems p2 rfl (wpAny_bind (wpAny_updateSeq_pair p2 fun g3 p3 s3 => ?_)))
    replace p3 : IsPair g3 TO x b := p3
    refine wpAny_bind (wpAny_letGo (wpAny_pure ?_))
    refine wpAny_bind (wpAny_bind (wpAny_onRaise ?_))
    show wpAny _ _ (Builtin.SmallTypes.nextOf (.ref i2) >>= _) _ _ _
    refine wpAny_bind (nextOf_tuple_item (((h2.extBut s1.extBut D.i2z).extBut s2.extBut D.i12.symm).extBut s3.extBut D.TOi2.symm) (((t2.extBut s1.extBut D.l2z).extBut s2.extBut D.l2i1).extBut s3.extBut D.l2TO) hy fun g4 a4 s4 => wpAny_pure ?_)
    have p4 : IsPair g4 TO x b := s4.extBut _ _ D.TOi2 p3
    refine wpAny_bind (wpAny_seqItems p4 rfl (wpAny_bind (wpAny_updateSeq_pair p4 fun g5 p5 s5 => ?_)))
    replace p5 : IsPair g5 TO x y := p5
    refine wpAny_bind (wpAny_letGo (wpAny_pure (wpAny_pure ?_)))
    refine wpAny_bind (wpAny_seqItems p5 rfl (wpAny_bind (wpAny_newTuple ?_)))
    have e5 : g5.objs.size = s.heap.objs.size := by rw [s5.1, s4.1, s3.1, s2.1, s1.1]
    have z5 : IsZipF g5 z TI TO .ellipsis f := s5.extBut _ _ D.TOz.symm (s4.extBut _ _ D.i2z.symm (s3.extBut _ _ D.TOz.symm (s2.extBut _ _ D.i1z.symm z1)))
    have k5 : ∀ c o, c ≠ z → c ≠ TO → c ≠ i1 → c ≠ i2 → s.heap.get? c = some o → g5.get? c = some o := fun c o c1 c2 c3 c4 e => s5.extBut _ _ c2 (s4.extBut _ _ c4 (s3.extBut _ _ c2 (s2.extBut _ _ c3 (s1.extBut _ _ c1 e))))
    have b1 : g5.IsTupleIter i1 l1 (k + 1) := ((a2.extBut s3.extBut D.TOi1.symm).extBut s4.extBut D.i12).extBut s5.extBut D.TOi1.symm
    have b2 : g5.IsTupleIter i2 l2 (k + 1) := a4.extBut s5.extBut D.TOi2.symm
    have zl : z < g5.objs.size := Heap.lt_size z5
    show wpAny _ _ (Builtin.SmallTypes.ownedTupleHandOut (.ref z) (.ref g5.objs.size) >>= _) _ _ _
    refine wpAny_bind ?_
    unfold Builtin.SmallTypes.ownedTupleHandOut
    have z6 : IsZipF (g5.push { cls := .type "tuple", data := .seq #[x, y] }) z TI TO .ellipsis f := Heap.get?_push_of_some _ z5
    refine wpAny_bind (wpAny_setField_rec z6 (by simp) fun g7 z7 s7 => ?_)
    replace z7 : IsZipF g7 z TI TO (rawInt g5.objs.size) f := z7
    refine wpAny_setField_rec z7 (by simp) fun g8 z8 s8 => ?_
    replace z8 : IsZipF g8 z TI TO (rawInt g5.objs.size) false := z8
    have up : ∀ c o, c ≠ z → g5.get? c = some o → g8.get? c = some o := fun c o c1 e => s8.extBut _ _ c1 (s7.extBut _ _ c1 (Heap.get?_push_of_some _ e))
    have t8 : IsPair g8 g5.objs.size x y := s8.extBut _ _ (Nat.ne_of_gt zl) (s7.extBut _ _ (Nat.ne_of_gt zl) (Heap.get?_push_size _ rfl))
    have e8 : g8.objs.size = g5.objs.size + 1 := by rw [s8.1, s7.1, Heap.size_push]
    rw [e5] at z8 t8 e8
    refine wpAny_pure ⟨_, rfl, ?_⟩
    show Q (.ref g5.objs.size) _
    rw [e5]
    exact q g8 z8 (up _ _ D.TOz p5) (b1.at fun o e => up _ o D.i1z e) (b2.at fun o e => up _ o D.i2z e) t8 e8 fun c o c1 c2 c3 c4 e => up c o c1 (k5 c o c1 c2 c3 c4 e)
  unfold Builtin.SmallTypes.nextOf
  refine wpAny_bind (wpAny_callSpecial?_slot (name := Str.ofString "__next__") ty F.slot_zip_next (wpAny_call_entry F.slot_zip_next ty F.entry_zip_next (wpAny_mono go (fun fin s' h => ?_) fun _ _ h => h.elim) (F.args_zip_next_1 _)))
  obtain ⟨v, e, h⟩ := h
  exact ⟨v, e, wpAny_pure h⟩
theorem nx_end {f0 : Value} {f : Bool} {k : Nat} {xs ys : Array Value} {a b : Value} {Q : Value → Shared → Prop} (hh : A.handled = none) (D : ZipApart z TI TO i1 i2 l1 l2) (hz : IsZipF s.heap z TI TO f0 f) (hf : f0 = .none ∨ ∃ T : Addr, f0 = rawInt T ∧ s.heap.get? T = none) (hTI : IsPair s.heap TI (.ref i1) (.ref i2)) (hTO : IsPair s.heap TO a b)
    (h1 : s.heap.IsTupleIter i1 l1 k) (h2 : s.heap.IsTupleIter i2 l2 k) (t1 : s.heap.IsTuple l1 xs) (t2 : s.heap.IsTuple l2 ys) (he : xs[k]? = none ∨ ys[k]? = none)
    (q : ∀ h' e, (∀ c o, c ≠ z → c ≠ TO → c ≠ i1 → c ≠ i2 → s.heap.get? c = some o → h'.get? c = some o) → (∃ o, h'.get? e = some o ∧ o.cls = .type "StopIteration") → E (.ref e) { s with heap := h' }) : wpAny (model prog w) A (Builtin.SmallTypes.nextOf (.ref z)) Q E s := by
  have ty : s.TypeIs (.ref z) "zip" := ⟨_, hz, rfl⟩
  have go : wpAny (model prog w) A.in1 (Builtin.«zip.__next__» ⟨[.ref z], []⟩) (fun _ _ => False) (fun e s' => ∃ h', s' = { s with heap := h' } ∧ (∀ c o, c ≠ z → c ≠ TO → c ≠ i1 → c ≠ i2 → s.heap.get? c = some o → h'.get? c = some o) ∧ ∃ a o, e = .ref a ∧ h'.get? a = some o ∧ o.cls = .type "StopIteration") s := by
    show wpAny _ _ (field (.ref z) 2 >>= _) _ _ _
    refine wpAny_bind (wpAny_field hz rfl (x := .bool false) rfl ?_)
    show wpAny _ _ (field (.ref z) 3 >>= _) _ _ _
    refine wpAny_bind (wpAny_field hz rfl (x := .ref TI) rfl (wpAny_bind (wpAny_seqItems hTI rfl ?_)))
    show wpAny _ _ (Builtin.SmallTypes.ownedTupleIsFree (.ref z) >>= _) _ _ _
    refine wpAny_bind (zfree hz hf ?_)
    simp only [if_true]
    refine wpAny_bind (wpAny_rule (wpAny_bind (wpAny_field hz rfl (x := .ref TO) rfl (wpAny_bind (wpAny_setField_rec hz (by simp) fun g1 z1 s1 => ?_)))))
    replace z1 : IsZipF g1 z TI TO .ellipsis f := z1
    refine wpAny_bind ?_
    simp only [List.zipIdx_cons, List.zipIdx_nil, List.forIn_cons, List.forIn_nil]
    refine wpAny_bind (wpAny_bind (wpAny_onRaise ?_))
    show wpAny _ _ (Builtin.SmallTypes.nextOf (.ref i1) >>= _) _ _ _
    cases hx : xs[k]? with
    | none =>
      refine wpAny_bind (nextOf_tuple_end hh (h1.extBut s1.extBut D.i1z) (t1.extBut s1.extBut D.l1z) hx fun g2 e s2 ⟨o, ho, hc⟩ => ?_)
      have z2 : IsZipF g2 z TI TO .ellipsis f := s2 _ _ D.i1z.symm z1
      have hez : e ≠ z := fun x => by subst x; rw [z2] at ho; cases ho; simp at hc
      exact wpAny_setField_rec z2 (by simp) fun g3 _ s3 => ⟨g3, rfl, fun c o c1 _ c3 _ x => s3.extBut _ _ c1 (s2 _ _ c3 (s1.extBut _ _ c1 x)), e, o, rfl, s3.extBut _ _ hez ho, hc⟩
    | some x =>
      have hy : ys[k]? = none := he.elim (fun h => by rw [hx] at h; cases h) id
      refine wpAny_bind (nextOf_tuple_item (h1.extBut s1.extBut D.i1z) (t1.extBut s1.extBut D.l1z) hx fun g2 a2 s2 => wpAny_pure ?_)
      have p2 : IsPair g2 TO a b := s2.extBut _ _ D.TOi1 (s1.extBut _ _ D.TOz hTO)
      refine wpAny_bind (wpAny_seqItems p2 rfl (wpAny_bind (wpAny_updateSeq_pair p2 fun g3 p3 s3 => ?_)))
      refine wpAny_bind (wpAny_letGo (wpAny_pure ?_))
      refine wpAny_bind (wpAny_bind (wpAny_onRaise ?_))
      show wpAny _ _ (Builtin.SmallTypes.nextOf (.ref i2) >>= _) _ _ _
      refine wpAny_bind (nextOf_tuple_end hh (((h2.extBut s1.extBut D.i2z).extBut s2.extBut D.i12.symm).extBut s3.extBut D.TOi2.symm) (((t2.extBut s1.extBut D.l2z).extBut s2.extBut D.l2i1).extBut s3.extBut D.l2TO) hy fun g4 e s4 ⟨o, ho, hc⟩ => ?_)
      have z4 : IsZipF g4 z TI TO .ellipsis f := s4 _ _ D.i2z.symm (s3.extBut _ _ D.TOz.symm (s2.extBut _ _ D.i1z.symm z1))
      have hez : e ≠ z := fun x => by subst x; rw [z4] at ho; cases ho; simp at hc
      exact wpAny_setField_rec z4 (by simp) fun g5 _ s5 => ⟨g5, rfl, fun c o c1 c2 c3 c4 x => s5.extBut _ _ c1 (s4 _ _ c4 (s3.extBut _ _ c2 (s2.extBut _ _ c3 (s1.extBut _ _ c1 x)))), e, o, rfl, s5.extBut _ _ hez ho, hc⟩
  unfold Builtin.SmallTypes.nextOf
  refine wpAny_bind (wpAny_callSpecial?_slot (name := Str.ofString "__next__") ty F.slot_zip_next (wpAny_call_entry F.slot_zip_next ty F.entry_zip_next (wpAny_mono go (fun _ _ h => h.elim) fun e s' h => ?_) (F.args_zip_next_1 _)))
  obtain ⟨h', rfl, hk, a, o, rfl, ho, hc⟩ := h
  exact q h' a hk ⟨o, ho, hc⟩
/-- the zip while the first pair that it gave is still there -/
theorem nx_held {T : Addr} {f : Bool} {oT : Obj} {k : Nat} {xs ys : Array Value} {x y : Value} {Q : Value → Shared → Prop} (D : ZipApart z TI TO i1 i2 l1 l2)
    (hz : IsZipHeld s.heap z TI TO T f) (hT : s.heap.get? T = some oT) (hTI : IsPair s.heap TI (.ref i1) (.ref i2)) (h1 : s.heap.IsTupleIter i1 l1 k) (h2 : s.heap.IsTupleIter i2 l2 k) (t1 : s.heap.IsTuple l1 xs) (t2 : s.heap.IsTuple l2 ys) (hx : xs[k]? = some x) (hy : ys[k]? = some y)
    (q : ∀ h', IsZipHeld h' z TI TO T true → h'.IsTupleIter i1 l1 (k + 1) → h'.IsTupleIter i2 l2 (k + 1) → IsPair h' s.heap.objs.size x y → h'.objs.size = s.heap.objs.size + 1 → (∀ c o, c ≠ z → c ≠ i1 → c ≠ i2 → s.heap.get? c = some o → h'.get? c = some o) → Q (.ref s.heap.objs.size) { s with heap := h' }) :
    wpAny (model prog w) A (Builtin.SmallTypes.nextOf (.ref z)) Q E s := by
  have ty : s.TypeIs (.ref z) "zip" := ⟨_, hz, rfl⟩
  have go : wpAny (model prog w) A.in1 (Builtin.«zip.__next__» ⟨[.ref z], []⟩) (fun fin s' => ∃ v, fin = .done (.ret v) ∧ Q v s') (fun _ _ => False) s := by
    show wpAny _ _ (field (.ref z) 2 >>= _) _ _ _
    refine wpAny_bind (wpAny_field hz rfl (x := .bool false) rfl ?_)
    show wpAny _ _ (field (.ref z) 3 >>= _) _ _ _
    refine wpAny_bind (wpAny_field hz rfl (x := .ref TI) rfl (wpAny_bind (wpAny_seqItems hTI rfl ?_)))
    show wpAny _ _ (Builtin.SmallTypes.ownedTupleIsFree (.ref z) >>= _) _ _ _
    refine wpAny_bind (wpAny_tupleHeld_zip hz hT fun g1 z1 s1 => ?_)
    simp only [Bool.false_eq_true, if_false]
    refine wpAny_bind ?_
    rw [← Array.forIn_toList]
    simp only [List.forIn_cons, List.forIn_nil]
    refine wpAny_bind (wpAny_bind (wpAny_holding ?_))
    show wpAny _ _ (Builtin.SmallTypes.nextOf (.ref i1) >>= _) _ _ _
    refine wpAny_bind (nextOf_tuple_item (s := { s with heap := g1 }) (h1.extBut s1.extBut D.i1z) (t1.extBut s1.extBut D.l1z) hx fun g2 a2 s2 => wpAny_pure (wpAny_pure ?_))
    refine wpAny_bind (wpAny_bind (wpAny_holding ?_))
    show wpAny _ _ (Builtin.SmallTypes.nextOf (.ref i2) >>= _) _ _ _
    refine wpAny_bind (nextOf_tuple_item (s := { s with heap := g2 }) ((h2.extBut s1.extBut D.i2z).extBut s2.extBut D.i12.symm) ((t2.extBut s1.extBut D.l2z).extBut s2.extBut D.l2i1) hy fun g3 a3 s3 => wpAny_pure (wpAny_pure (wpAny_pure ?_)))
    show wpAny _ _ (newTuple [x, y] >>= _) _ _ _
    refine wpAny_bind (wpAny_newTuple (wpAny_pure ⟨_, rfl, ?_⟩))
    have e3 : g3.objs.size = s.heap.objs.size := by rw [s3.1, s2.1, s1.1]
    have new : IsPair (g3.push { cls := .type "tuple", data := .seq #[x, y] }) g3.objs.size x y := Heap.get?_push_size _ rfl
    have more : (g3.push { cls := .type "tuple", data := .seq #[x, y] }).objs.size = g3.objs.size + 1 := Heap.size_push ..
    show Q (.ref g3.objs.size) _
    rw [e3] at new more ⊢
    exact q _ (Heap.get?_push_of_some _ (s3.extBut _ _ D.i2z.symm (s2.extBut _ _ D.i1z.symm z1))) ((a2.extBut s3.extBut D.i12).at fun o e => Heap.get?_push_of_some _ e) (a3.at fun o e => Heap.get?_push_of_some _ e) new more
      fun c o c1 c2 c3 e => Heap.get?_push_of_some _ (s3.extBut _ _ c3 (s2.extBut _ _ c2 (s1.extBut _ _ c1 e)))
  unfold Builtin.SmallTypes.nextOf
  refine wpAny_bind (wpAny_callSpecial?_slot (name := Str.ofString "__next__") ty F.slot_zip_next (wpAny_call_entry F.slot_zip_next ty F.entry_zip_next (wpAny_mono go (fun fin s' h => ?_) fun _ _ h => h.elim) (F.args_zip_next_1 _)))
  obtain ⟨v, e, h⟩ := h
  exact ⟨v, e, wpAny_pure h⟩
theorem nx_heldEnd {T : Addr} {f : Bool} {oT : Obj} {k : Nat} {xs ys : Array Value} {Q : Value → Shared → Prop} (hh : A.handled = none) (D : ZipApart z TI TO i1 i2 l1 l2)
    (hz : IsZipHeld s.heap z TI TO T f) (hT : s.heap.get? T = some oT) (hTI : IsPair s.heap TI (.ref i1) (.ref i2)) (h1 : s.heap.IsTupleIter i1 l1 k) (h2 : s.heap.IsTupleIter i2 l2 k) (t1 : s.heap.IsTuple l1 xs) (t2 : s.heap.IsTuple l2 ys) (he : xs[k]? = none ∨ ys[k]? = none)
    (q : ∀ h' e, (∀ c o, c ≠ z → c ≠ i1 → c ≠ i2 → s.heap.get? c = some o → h'.get? c = some o) → (∃ o, h'.get? e = some o ∧ o.cls = .type "StopIteration") → E (.ref e) { s with heap := h' }) : wpAny (model prog w) A (Builtin.SmallTypes.nextOf (.ref z)) Q E s := by
  have ty : s.TypeIs (.ref z) "zip" := ⟨_, hz, rfl⟩
  have go : wpAny (model prog w) A.in1 (Builtin.«zip.__next__» ⟨[.ref z], []⟩) (fun _ _ => False) (fun e s' => ∃ h', s' = { s with heap := h' } ∧ (∀ c o, c ≠ z → c ≠ i1 → c ≠ i2 → s.heap.get? c = some o → h'.get? c = some o) ∧ ∃ a o, e = .ref a ∧ h'.get? a = some o ∧ o.cls = .type "StopIteration") s := by
    show wpAny _ _ (field (.ref z) 2 >>= _) _ _ _
    refine wpAny_bind (wpAny_field hz rfl (x := .bool false) rfl ?_)
    show wpAny _ _ (field (.ref z) 3 >>= _) _ _ _
    refine wpAny_bind (wpAny_field hz rfl (x := .ref TI) rfl (wpAny_bind (wpAny_seqItems hTI rfl ?_)))
    show wpAny _ _ (Builtin.SmallTypes.ownedTupleIsFree (.ref z) >>= _) _ _ _
    refine wpAny_bind (wpAny_tupleHeld_zip hz hT fun g1 z1 s1 => ?_)
    simp only [Bool.false_eq_true, if_false]
    refine wpAny_bind ?_
    rw [← Array.forIn_toList]
    simp only [List.forIn_cons, List.forIn_nil]
    refine wpAny_bind (wpAny_bind (wpAny_holding ?_))
    show wpAny _ _ (Builtin.SmallTypes.nextOf (.ref i1) >>= _) _ _ _
    cases hx : xs[k]? with
    | none => exact wpAny_bind (nextOf_tuple_end (s := { s with heap := g1 }) hh (h1.extBut s1.extBut D.i1z) (t1.extBut s1.extBut D.l1z) hx fun g2 e s2 ⟨o, ho, hc⟩ => ⟨g2, rfl, fun c o c1 c2 _ y => s2 _ _ c2 (s1.extBut _ _ c1 y), e, o, rfl, ho, hc⟩)
    | some x =>
      have hy : ys[k]? = none := he.elim (fun h => by rw [hx] at h; cases h) id
      refine wpAny_bind (nextOf_tuple_item (s := { s with heap := g1 }) (h1.extBut s1.extBut D.i1z) (t1.extBut s1.extBut D.l1z) hx fun g2 a2 s2 => wpAny_pure (wpAny_pure ?_))
      refine wpAny_bind (wpAny_bind (wpAny_holding ?_))
      show wpAny _ _ (Builtin.SmallTypes.nextOf (.ref i2) >>= _) _ _ _
      exact wpAny_bind (nextOf_tuple_end (s := { s with heap := g2 }) hh ((h2.extBut s1.extBut D.i2z).extBut s2.extBut D.i12.symm) ((t2.extBut s1.extBut D.l2z).extBut s2.extBut D.l2i1) hy fun g3 e s3 ⟨o, ho, hc⟩ => ⟨g3, rfl, fun c o c1 c2 c3 y => s3 _ _ c3 (s2.extBut _ _ c2 (s1.extBut _ _ c1 y)), e, o, rfl, ho, hc⟩)
  unfold Builtin.SmallTypes.nextOf
  refine wpAny_bind (wpAny_callSpecial?_slot (name := Str.ofString "__next__") ty F.slot_zip_next (wpAny_call_entry F.slot_zip_next ty F.entry_zip_next (wpAny_mono go (fun _ _ h => h.elim) fun e s' h => ?_) (F.args_zip_next_1 _)))
  obtain ⟨h', rfl, hk, a, o, rfl, ho, hc⟩ := h
  exact q h' a hk ⟨o, ho, hc⟩
/-- the zip behind k pairs, whatever became of the pairs -/
def ZSu (h : Heap) (z TI TO i1 i2 l1 l2 : Addr) (k : Nat) : Prop := IsPair h TI (.ref i1) (.ref i2) ∧ h.IsTupleIter i1 l1 k ∧ h.IsTupleIter i2 l2 k ∧ (∃ x y, IsPair h TO x y) ∧ ∃ f0 f, (f0 = .none ∨ ∃ T : Addr, f0 = rawInt T) ∧ IsZipF h z TI TO f0 f
theorem ZSu.off {h h' : Heap} {k : Nat} (st : ZSu h z TI TO i1 i2 l1 l2 k) (hk : ∀ c ∈ [z, TI, TO, i1, i2], ∀ o, h.get? c = some o → h'.get? c = some o) : ZSu h' z TI TO i1 i2 l1 l2 k := by
  obtain ⟨p, a, b, ⟨x, y, hp⟩, f0, f, h0, hz⟩ := st
  exact ⟨hk TI (by simp) _ p, a.at fun o e => hk i1 (by simp) o e, b.at fun o e => hk i2 (by simp) o e, ⟨x, y, hk TO (by simp) _ hp⟩, f0, f, h0, hk z (by simp) _ hz⟩
theorem zsn_next {k : Nat} {xs ys : Array Value} {x y : Value} {Q : Value → Shared → Prop} (D : ZipApart z TI TO i1 i2 l1 l2) (st : ZSu s.heap z TI TO i1 i2 l1 l2 k) (t1 : s.heap.IsTuple l1 xs) (t2 : s.heap.IsTuple l2 ys) (hx : xs[k]? = some x) (hy : ys[k]? = some y)
    (q : ∀ h', ZSu h' z TI TO i1 i2 l1 l2 (k + 1) → IsPair h' s.heap.objs.size x y → h'.objs.size = s.heap.objs.size + 1 → (∀ c o, c ≠ z → c ≠ TO → c ≠ i1 → c ≠ i2 → s.heap.get? c = some o → h'.get? c = some o) → Q (.ref s.heap.objs.size) { s with heap := h' }) :
    wpAny (model prog w) A (Builtin.SmallTypes.nextOf (.ref z)) Q E s := by
  obtain ⟨p, a, b, ⟨x0, y0, hp⟩, f0, f, h0, hz⟩ := st
  have fr (hf : f0 = .none ∨ ∃ T : Addr, f0 = rawInt T ∧ s.heap.get? T = none) : wpAny (model prog w) A (Builtin.SmallTypes.nextOf (.ref z)) Q E s :=
    nx_item D hz hf p hp a b t1 t2 hx hy fun h' a1 a2 a3 a4 a5 a6 a7 => q h' ⟨a7 _ _ D.TIz D.TITO D.TIi1 D.TIi2 p, a3, a4, ⟨_, _, a2⟩, _, _, .inr ⟨_, rfl⟩, a1⟩ a5 a6 a7
  rcases h0 with rfl | ⟨T, rfl⟩
  · exact fr (.inl rfl)
  · cases hT : s.heap.get? T with
    | none => exact fr (.inr ⟨T, rfl, hT⟩)
    | some oT => exact nx_held D hz hT p a b t1 t2 hx hy fun h' a1 a3 a4 a5 a6 a7 => q h' ⟨a7 _ _ D.TIz D.TIi1 D.TIi2 p, a3, a4, ⟨_, _, a7 _ _ D.TOz D.TOi1 D.TOi2 hp⟩, _, _, .inr ⟨_, rfl⟩, a1⟩ a5 a6 fun c o c1 _ c3 c4 e => a7 c o c1 c3 c4 e
theorem zsn_end {k : Nat} {xs ys : Array Value} {Q : Value → Shared → Prop} (hh : A.handled = none) (D : ZipApart z TI TO i1 i2 l1 l2) (st : ZSu s.heap z TI TO i1 i2 l1 l2 k) (t1 : s.heap.IsTuple l1 xs) (t2 : s.heap.IsTuple l2 ys) (he : xs[k]? = none ∨ ys[k]? = none)
    (q : ∀ h' e, (∀ c o, c ≠ z → c ≠ TO → c ≠ i1 → c ≠ i2 → s.heap.get? c = some o → h'.get? c = some o) → (∃ o, h'.get? e = some o ∧ o.cls = .type "StopIteration") → E (.ref e) { s with heap := h' }) : wpAny (model prog w) A (Builtin.SmallTypes.nextOf (.ref z)) Q E s := by
  obtain ⟨p, a, b, ⟨x0, y0, hp⟩, f0, f, h0, hz⟩ := st
  rcases h0 with rfl | ⟨T, rfl⟩
  · exact nx_end hh D hz (.inl rfl) p hp a b t1 t2 he q
  · cases hT : s.heap.get? T with
    | none => exact nx_end hh D hz (.inr ⟨T, rfl, hT⟩) p hp a b t1 t2 he q
    | some oT => exact nx_heldEnd hh D hz hT p a b t1 t2 he fun h' e hk => q h' e fun c o c1 _ c3 c4 x => hk c o c1 c3 c4 x
theorem en_item {e : Addr} {c : Int} {old : Value} {k : Nat} {xs ys : Array Value} {x y : Value} {Q : Option Value → Shared → Prop} (D : ZipApart z TI TO i1 i2 l1 l2) (nS : ∀ b ∈ [z, TI, TO, i1, i2], b ≠ e) (he : IsEnum s.heap e z c old)
    (st : ZSu s.heap z TI TO i1 i2 l1 l2 k) (t1 : s.heap.IsTuple l1 xs) (t2 : s.heap.IsTuple l2 ys) (hx : xs[k]? = some x) (hy : ys[k]? = some y)
    (q : ∀ h', IsEnumOut h' e z (c + 1) (.ref s.heap.objs.size) (s.heap.objs.size + 1) → ZSu h' z TI TO i1 i2 l1 l2 (k + 1) → IsPair h' s.heap.objs.size x y → h'.get? (s.heap.objs.size + 1) = some { cls := .type "tuple", data := .seq #[.int c s.toks, .ref s.heap.objs.size] } →
      h'.objs.size = s.heap.objs.size + 2 → (∀ b o, b ≠ e → b ≠ z → b ≠ TO → b ≠ i1 → b ≠ i2 → s.heap.get? b = some o → h'.get? b = some o) → Q (some (.ref (s.heap.objs.size + 1))) { s with heap := h', toks := s.toks + 1 }) :
    wpAny (model prog w) A (pyNext (.ref e)) Q E s := by
  have hT : s.TypeIs (.ref e) "enumerate" := ⟨_, he, rfl⟩
  have el : e < s.heap.objs.size := Heap.lt_size he
  unfold pyNext
  refine wpAny_bind (wpAny_attempt (wpAny_callSpecial?_slot (name := Str.ofString "__next__") hT F.slot_enumerate_next (wpAny_call_entry F.slot_enumerate_next hT F.entry_enumerate_next ?_ (F.args_enumerate_next_1 _))))
  show wpAny _ _ (field (.ref e) 2 >>= _) _ _ _
  refine wpAny_bind (wpAny_field he rfl (x := .ref z) rfl ?_)
  refine wpAny_bind (zsn_next D st t1 t2 hx hy fun h1 st1 p1 z1 k1 => ?_)
  have e1 : IsEnum h1 e z c old := k1 e _ (nS z (by simp)).symm (nS TO (by simp)).symm (nS i1 (by simp)).symm (nS i2 (by simp)).symm he
  show wpAny _ _ (field (.ref e) 3 >>= _) _ _ _
  refine wpAny_bind (wpAny_field e1 rfl (x := rawInt c) rfl ?_)
  show wpAny _ _ (field (.ref e) 4 >>= _) _ _ _
  refine wpAny_bind (wpAny_field e1 rfl (x := .none) rfl ?_)
  show wpAny _ _ (mkInt c >>= _) _ _ _
  refine wpAny_bind (wpAny_mkInt ?_)
  show wpAny _ _ (setField (.ref e) 3 (rawInt (c + 1)) >>= _) _ _ _
  refine wpAny_bind (wpAny_setField_rec e1 (by simp) fun h2 e2 s2 => ?_)
  replace e2 : IsEnum h2 e z (c + 1) old := e2
  show wpAny _ _ (setField (.ref e) 4 .none >>= _) _ _ _
  refine wpAny_bind (wpAny_setField_rec e2 (by simp) fun h3 e3 s3 => ?_)
  replace e3 : IsEnum h3 e z (c + 1) old := e3
  show wpAny _ _ (newTuple [.int c s.toks, .ref s.heap.objs.size] >>= _) _ _ _
  refine wpAny_bind (wpAny_newTuple ?_)
  have sz : h3.objs.size = s.heap.objs.size + 1 := by rw [s3.1, s2.1, z1]
  have e4 : IsEnum (h3.push { cls := .type "tuple", data := .seq #[.int c s.toks, .ref s.heap.objs.size] }) e z (c + 1) old := Heap.get?_push_of_some _ e3
  have t4 : (h3.push { cls := .type "tuple", data := .seq #[.int c s.toks, .ref s.heap.objs.size] }).get? (s.heap.objs.size + 1) = some { cls := .type "tuple", data := .seq #[.int c s.toks, .ref s.heap.objs.size] } := by rw [← sz]; exact Heap.get?_push_size _ rfl
  have z4 : (h3.push { cls := .type "tuple", data := .seq #[.int c s.toks, .ref s.heap.objs.size] }).objs.size = s.heap.objs.size + 2 := by rw [Heap.size_push, sz]
  have k4 : ∀ b o, b ≠ e → h1.get? b = some o → (h3.push { cls := .type "tuple", data := .seq #[.int c s.toks, .ref s.heap.objs.size] }).get? b = some o := fun b o hb h => Heap.get?_push_of_some _ (s3.extBut b o hb (s2.extBut b o hb h))
  rw [sz]
  show wpAny _ _ (Builtin.SmallTypes.ownedTupleIsFree (.ref e) >>= _) _ _ _
  generalize h3.push { cls := .type "tuple", data := .seq #[.int c s.toks, .ref s.heap.objs.size] } = h4 at e4 t4 z4 k4 ⊢
  refine wpAny_bind ?_
  unfold Builtin.SmallTypes.ownedTupleIsFree
  refine wpAny_bind (wpAny_field e4 rfl (x := .none) rfl (wpAny_pure ?_))
  simp only [if_true]
  refine wpAny_bind (wpAny_rule ?_)
  refine wpAny_bind (wpAny_field e4 rfl (x := old) rfl ?_)
  refine wpAny_bind (wpAny_setField_rec e4 (by simp) fun h5 e5 s5 => ?_)
  replace e5 : IsEnum h5 e z (c + 1) (.ref s.heap.objs.size) := e5
  show wpAny _ _ (Builtin.SmallTypes.ownedTupleHandOut (.ref e) (.ref (s.heap.objs.size + 1)) >>= _) _ _ _
  refine wpAny_bind ?_
  unfold Builtin.SmallTypes.ownedTupleHandOut
  refine wpAny_bind (wpAny_setField_rec e5 (by simp) fun h6 e6 s6 => ?_)
  replace e6 : IsEnumOut h6 e z (c + 1) (.ref s.heap.objs.size) (s.heap.objs.size + 1) := e6
  refine wpAny_setField_rec e6 (by simp) fun h7 e7 s7 => ?_
  replace e7 : IsEnumOut h7 e z (c + 1) (.ref s.heap.objs.size) (s.heap.objs.size + 1) := e7
  have k7 : ∀ b o, b ≠ e → h1.get? b = some o → h7.get? b = some o := fun b o hb h => s7.extBut b o hb (s6.extBut b o hb (s5.extBut b o hb (k4 b o hb h)))
  refine wpAny_bind (wpAny_letGo (wpAny_pure ⟨_, rfl, wpAny_pure (q h7 e7 (st1.off fun b hb o h => k7 b o (nS b hb) h) (k7 _ _ (Nat.ne_of_gt el) p1) ?_ ?_ ?_)⟩))
  · exact s7.extBut _ _ (Nat.ne_of_gt (Nat.lt_succ_of_lt el)) (s6.extBut _ _ (Nat.ne_of_gt (Nat.lt_succ_of_lt el)) (s5.extBut _ _ (Nat.ne_of_gt (Nat.lt_succ_of_lt el)) t4))
  · rw [s7.1, s6.1, s5.1, z4]
  · exact fun b o b1 b2 b3 b4 b5 h => k7 b o b1 (k1 b o b2 b3 b4 b5 h)
theorem en_end {e : Addr} {c : Int} {old : Value} {k : Nat} {xs ys : Array Value} {Q : Option Value → Shared → Prop} (hh : A.handled = none) (D : ZipApart z TI TO i1 i2 l1 l2) (he : IsEnum s.heap e z c old)
    (st : ZSu s.heap z TI TO i1 i2 l1 l2 k) (t1 : s.heap.IsTuple l1 xs) (t2 : s.heap.IsTuple l2 ys) (hend : xs[k]? = none ∨ ys[k]? = none)
    (q : ∀ h', (∀ b o, b ≠ z → b ≠ TO → b ≠ i1 → b ≠ i2 → s.heap.get? b = some o → h'.get? b = some o) → Q none { s with heap := h' }) :
    wpAny (model prog w) A (pyNext (.ref e)) Q E s := by
  have hT : s.TypeIs (.ref e) "enumerate" := ⟨_, he, rfl⟩
  unfold pyNext
  refine wpAny_bind (wpAny_attempt (wpAny_callSpecial?_slot (name := Str.ofString "__next__") hT F.slot_enumerate_next (wpAny_call_entry F.slot_enumerate_next hT F.entry_enumerate_next ?_ (F.args_enumerate_next_1 _))))
  show wpAny _ _ (field (.ref e) 2 >>= _) _ _ _
  refine wpAny_bind (wpAny_field he rfl (x := .ref z) rfl ?_)
  refine wpAny_bind (zsn_end hh D st t1 t2 hend fun h' x hk ⟨o, ho, hc⟩ => ?_)
  refine wpAny_bind (wpAny_isInstance (T := "StopIteration") (b := true) ⟨o, ho, hc⟩ isSubtype_stop ?_)
  exact wpAny_pure (q _ hk)
end
theorem meets_enumerate_newZ (z TI TO : Addr) (old : Value) :
    Meets (Builtin.«enumerate.__new__» ⟨[.type "enumerate", .ref z], []⟩) (fun _ R s => IsZip s.heap z TI TO old ∧
      R (.ok (.ret (.ref s.heap.objs.size))) { s with heap := s.heap.push { cls := .type "enumerate", data := .fields #[.none, .bool false, .ref z, rawInt 0, .none, .none] } }) :=
  .of_wp fun prog w A R s h => by
    obtain ⟨hp, g, d, tk, os⟩ := s
    obtain ⟨hl, h⟩ := h
    have hsub := sub_enumerate
    wp_walk
    refine wpAny_stack_any fun st => wpAny_pure ?_
    split
    · rename_i c _ _ _ _ _
      cases (c == Value.type "enumerate")
      · wp_walk using wpAny_pyIter_zip hl
        exact ⟨_, rfl, h⟩
      · wp_walk using wpAny_pyIter_zip hl
        exact ⟨_, rfl, h⟩
    · wp_walk using wpAny_pyIter_zip hl
      exact ⟨_, rfl, h⟩
theorem call_enumerate_zip {prog : Program} {w : World} {A : Around} {E : Value → Shared → Prop} {s : Shared} {z TI TO : Addr} {old : Value} {Q : Value → Shared → Prop} (hz : IsZip s.heap z TI TO old)
    (h : ∀ h', IsEnum h' s.heap.objs.size z 0 .none → h'.objs.size = s.heap.objs.size + 1 → (∀ b o, s.heap.get? b = some o → h'.get? b = some o) → Q (.ref s.heap.objs.size) { s with heap := h' }) :
    wpAny (model prog w) A (call (.type "enumerate") [.ref z]) Q E s := by
  refine callType_new F.called_enumerate (by decide) (F.typeCall_enumerate_1 _) (F.newCall_enumerate_1 _) (fun obj => F.args_object_init_2 obj _) F.entry_enumerate_new (meets_enumerate_newZ z TI TO old) ⟨hz, ?_⟩
  have he : IsEnum (s.heap.push { cls := .type "enumerate", data := .fields #[.none, .bool false, .ref z, rawInt 0, .none, .none] }) s.heap.objs.size z 0 .none := Heap.get?_push_size _ rfl
  exact ⟨⟨_, he, rfl⟩, h _ he (Heap.size_push ..) fun b o y => Heap.get?_push_of_some _ y⟩
end GH
namespace GH
open PySem L2 PySem.Spec RZ
section
variable {X : Cx} {pins : List (Addr × Obj)} {σ : L2.St} {H : Hp} {s : Shared}
theorem addIn {T : Addr} {ob : HO} (I : Inv X pins σ H s) (hT : FpOk X pins H T) (new : ObjOk X.prog X.w (upd H T ob) s.heap T ob) : Inv X pins σ (upd H T ob) s := by
  have hn := hT.1
  refine I.call' (s' := s) (ch := [T]) rfl ⟨fun b o e _ _ _ => e, fun b o e _ _ _ => ⟨o.slots, e⟩, fun b o e n hb => ?_, fun b o e _ => ⟨o, e⟩, fun b xs e => ?_, fun b o u e => ?_, fun b ps e => ⟨#[], ?_⟩⟩ (fun b u e => ?_) I.bare (fun b hb => ?_)
  · rw [upd_ne (by simpa using hb)]; exact n
  · rw [upd_ne (ne_of_none e hn)]; exact e
  · rw [upd_ne (ne_of_none e hn)]; exact e
  · rw [upd_ne (ne_of_none e hn), e]; simp
  · by_cases hb : b = T
    · subst hb
      rw [upd_same] at e
      cases e
      exact new
    · rw [upd_ne hb] at e
      exact (I.hok b u e).stay (fun c v hc q => q) (fun c q => by rw [upd_ne (ne_of_none q hn)]; exact q) fun c xs q => by rw [upd_ne (ne_of_none q hn)]; exact q
  · obtain rfl : b = T := by simpa using hb
    exact ⟨hT.2.2.2.1, hT.2.1, hT.2.2.2.2.1, hT.2.2.2.2.2⟩
end
/-- the tuples at a and b as they stand at each turn, the items in new pairs, numbered in new pairs -/
def IteZ (K : PySem.W.Frag) (a b : Addr) : It :=
  ⟨fun i H => ∃ (xs ys : List V) (x y : V), SqT K H a xs ∧ SqT K H b ys ∧ xs[i]? = some x ∧ ys[i]? = some y,
    fun i H v H' => ∃ T1 T2 x y, v = .ref T2 ∧ H T1 = none ∧ (upd H T1 (.tup [x, y])) T2 = none ∧ H' = upd (upd H T1 (.tup [x, y])) T2 (.tup [.int (i : Nat), .ref T1]) ∧ (∀ xs, SqT K H a xs → xs[i]? = some x) ∧ ∀ ys, SqT K H b ys → ys[i]? = some y,
    fun i H => ∃ xs ys : List V, SqT K H a xs ∧ SqT K H b ys ∧ (xs.length ≤ i ∨ ys.length ≤ i)⟩
theorem six {c e z TI TO i1 i2 : Addr} (h : c ∈ [e, z, TI, TO, i1, i2]) : c = e ∨ c ∈ [z, TI, TO, i1, i2] := List.mem_cons.mp h
theorem turn_enz {P : Program} {w : World} {K : PySem.W.Frag} {elts : List Expr} {kk : Nat} {tpos : Pos} {a b e z TI TO i1 i2 : Addr} (D : ZipApart z TI TO i1 i2 a b) (nS : ∀ c ∈ [z, TI, TO, i1, i2], c ≠ e) :
    Turn P w K (.Tuple elts kk tpos) (IteZ K a b) [e, z, TI, TO, i1, i2] e (fun i h => (∃ old, IsEnum h e z ((i : Nat) : Int) old) ∧ ZSu h z TI TO i1 i2 a b i) where
  mem := by simp
  obj := fun i h st c hc => by
    obtain ⟨⟨old, he⟩, hTI, ⟨o1, e1, _, d1⟩, ⟨o2, e2, _, d2⟩, ⟨x, y, hTO⟩, f0, f, _, hz⟩ := st
    rcases six hc with rfl | hc
    · exact ⟨_, he, fun v q => nomatch q⟩
    rcases five hc with rfl | rfl | rfl | rfl | rfl
    · exact ⟨_, hz, fun v q => nomatch q⟩
    · exact ⟨_, hTI, fun v q => nomatch q⟩
    · exact ⟨_, hTO, fun v q => nomatch q⟩
    · exact ⟨o1, e1, fun v q => by rw [d1] at q; cases q⟩
    · exact ⟨o2, e2, fun v q => by rw [d2] at q; cases q⟩
  keep := fun i h h' ⟨⟨old, he⟩, st⟩ k => ⟨⟨old, k e (by simp) _ he⟩, st.off fun c hc o q => k c (List.mem_cons_of_mem _ hc) o q⟩
  item := by
    intro X hP hw hK hc i pins s σ H E I hf st hg
    subst hP hw hK
    obtain ⟨⟨old, he⟩, st⟩ := st
    obtain ⟨xs, ys, x, y, qx, qy, hx, hy⟩ := hg
    obtain ⟨its, rx, px, _⟩ := I.tuple qx
    obtain ⟨its2, ry, py, _⟩ := I.tuple qy
    obtain ⟨u, hu, ru⟩ := rx.get hx
    obtain ⟨u2, hu2, ru2⟩ := ry.get hy
    have el : e < s.heap.objs.size := Heap.lt_size he
    refine en_item D nS he st px py (x := u) (y := u2) (by simpa using hu) (by simpa using hu2) fun h' e' st' p' t' hsz hk => ?_
    refine ⟨_, rfl, wpAny_letOwnedTupleGo_enum (s := { s with heap := h', toks := s.toks + 1 }) e' fun g e'' sb => ?_⟩
    have kp : ∀ b o, b ≠ e → h'.get? b = some o → g.get? b = some o := fun b o hb q => (sb.2 b hb).trans q
    have n1 : s.heap.objs.size ≠ e := Nat.ne_of_gt el
    have n2 : s.heap.objs.size + 1 ≠ e := Nat.ne_of_gt (Nat.lt_succ_of_lt el)
    have p1 : IsPair g s.heap.objs.size u u2 := kp _ _ n1 p'
    have t1 : g.get? (s.heap.objs.size + 1) = some { cls := .type "tuple", data := .seq #[.int ((i : Nat) : Int) s.toks, .ref s.heap.objs.size] } := kp _ _ n2 t'
    have new : ObjOk X.prog X.w (upd H s.heap.objs.size (.tup [x, y])) g s.heap.objs.size (.tup [x, y]) := ⟨by show 2 ≤ sizeLine; decide, [u, u2], .cons ru (.cons ru2 .nil), ⟨_, p1, rfl, _, rfl⟩⟩
    have I1 : Inv X pins σ (upd H s.heap.objs.size (.tup [x, y])) { s with heap := g, toks := s.toks + 1 } :=
      I.turnedNew (t' := s.toks + 1) (ch := [e, z, TI, TO, i1, i2]) (fun c o hb q => kp c o (fun w => hb (by simp [w])) (hk c o (fun w => hb (by simp [w])) (fun w => hb (by simp [w])) (fun w => hb (by simp [w])) (fun w => hb (by simp [w])) (fun w => hb (by simp [w])) q)) hf (Nat.le_refl _) new
    have hn2 : (upd H s.heap.objs.size (.tup [x, y])) (s.heap.objs.size + 1) = none := by
      rw [upd_ne (Nat.succ_ne_self _)]
      exact I.hok.fresh (Nat.le_succ _)
    have fp2 : FpOk X pins (upd H s.heap.objs.size (.tup [x, y])) (s.heap.objs.size + 1) := I.fpOk (Nat.le_succ _) hn2
    have I2 := addIn I1 fp2 (ob := .tup [.int (i : Nat), .ref s.heap.objs.size]) ⟨by show 2 ≤ sizeLine; decide, [.int ((i : Nat) : Int) s.toks, .ref s.heap.objs.size], .cons ⟨_, rfl⟩ (.cons rfl .nil), ⟨_, t1, rfl, _, rfl⟩⟩
    refine ⟨.ref (s.heap.objs.size + 1), _, I2, rfl, ⟨_, _, x, y, rfl, I.hok.fresh (Nat.le_refl _), hn2, rfl, fun l hl => by rw [I.tuple_inj hl qx]; exact hx, fun l hl => by rw [I.tuple_inj hl qy]; exact hy⟩, ⟨⟨.ref s.heap.objs.size, ?_⟩, st'.off fun c hc o q => kp c o (nS c hc) q⟩, fun c hcm => ?_⟩
    · have e1 : ((i + 1 : Nat) : Int) = (i : Int) + 1 := by omega
      rw [e1]; exact e''
    · have hlt : c < s.heap.objs.size := by
        obtain ⟨hTI, h1, h2, ⟨x0, y0, hTO⟩, f0, f, _, hz⟩ := st
        rcases six hcm with rfl | hcm
        · exact el
        rcases five hcm with rfl | rfl | rfl | rfl | rfl
        · exact Heap.lt_size hz
        · exact Heap.lt_size hTI
        · exact Heap.lt_size hTO
        · obtain ⟨_, e1, _⟩ := h1; exact Heap.lt_size e1
        · obtain ⟨_, e1, _⟩ := h2; exact Heap.lt_size e1
      rw [upd_ne (Nat.ne_of_lt (Nat.lt_succ_of_lt hlt)), upd_ne (Nat.ne_of_lt hlt)]
      exact (hf c hcm).1
  done := by
    intro X hP hw hK hc i pins s σ H E I hf st hg
    subst hP hw hK
    obtain ⟨⟨old, he⟩, st⟩ := st
    obtain ⟨xs, ys, qx, qy, hend⟩ := hg
    obtain ⟨its, rx, px, _⟩ := I.tuple qx
    obtain ⟨its2, ry, py, _⟩ := I.tuple qy
    have n1 := rx.length
    have n2 := ry.length
    have hend' : its.toArray[i]? = none ∨ its2.toArray[i]? = none := by
      rcases hend with q | q
      · exact .inl (by simp; omega)
      · exact .inr (by simp; omega)
    exact en_end (I.ok.hd hc) D he st px py hend' fun h' hk => ⟨rfl, I.turnedL (t' := s.toks) (ch := [e, z, TI, TO, i1, i2]) (fun c o hb q => hk c o (fun w => hb (by simp [w])) (fun w => hb (by simp [w])) (fun w => hb (by simp [w])) (fun w => hb (by simp [w])) q) hf⟩
  self := fun A i s Q E st h => let ⟨⟨_, he⟩, _⟩ := st; wpAny_pyIter_enum he h
end GH
namespace GH
open PySem L2 PySem.Spec RZ
def iEnz (K : PySem.W.Frag) (ta : TA) : TI := fun σ H R => ta σ H fun vs H1 => ∃ a b xs ys, vs = [.ref a, .ref b] ∧ SqT K H1 a xs ∧ SqT K H1 b ys ∧ R (IteZ K a b) H1
theorem pi_enz {X : Cx} {e e2 : Expr} {ta : TA} {p p2 pos pos2 tpos : Pos} {elts : List Expr} {kk : Nat} (hg : Gl X "enumerate") (hm : X.mg "enumerate" = none) (zg : Gl X "zip") (zm : X.mg "zip" = none) (ha : PA X [e, e2] ta)
    (hs : starEach [.Call (.Name "zip" p2) [e, e2] [] pos2] X.env = (false, eval (.Call (.Name "zip" p2) [e, e2] [] pos2) X.env) :: starEach [] X.env := by rfl)
    (zs : starEach [e, e2] X.env = (false, eval e X.env) :: starEach [e2] X.env := by rfl) (zp : (backTo pos2 (starEach [e2] X.env)).any (·.1) = false := by rfl) :
    PI X (.Tuple elts kk tpos) (.Call (.Name "enumerate" p) [.Call (.Name "zip" p2) [e, e2] [] pos2] [] pos) (iEnz X.K ta) := by
  refine ⟨fun pins s σ H R I h => ?_⟩
  refine PyProof.Rows.Call_ (ld_blt I hg hm PyProof.Rows.boot_enumerate (PyProof.Rows.callWith_type1 ?_ hs rfl))
  rw [hs]
  show wpAny _ _ (spliced ((false, eval (.Call (.Name "zip" p2) [e, _] [] pos2) X.env) :: backTo pos (starEach [] X.env))) _ _ s
  refine Calls.spliced_cons ?_
  refine PyProof.Rows.Call_ (ld_blt I zg zm PyProof.Rows.boot_zip (PyProof.Rows.callWith_type1 (thn (ha.run pos2 pins s σ H _ I h) fun us s1 ⟨vs, H1, I1, r1, a, b, xs, ys, ev, qx, qy, q⟩ => ?_) zs zp))
  subst ev
  cases r1 with
  | cons ra rr =>
    cases rr with
    | cons rb rr =>
      cases rr
      cases ra
      cases rb
      obtain ⟨its, rx, px, _⟩ := I1.tuple qx
      obtain ⟨its2, ry, py, _⟩ := I1.tuple qy
      obtain ⟨o1, ho1, _⟩ := id px
      obtain ⟨o2, ho2, _⟩ := id py
      refine call_zipT (show s1.heap.IsTuple a its.toArray from px) (show s1.heap.IsTuple b its2.toArray from py) fun h' hz hTI hTO h1 h2 hsz hk => ?_
      refine Calls.spliced_nil ?_
      refine call_enumerate_zip (s := { s1 with heap := h' }) hz fun g he hsz2 hk2 => wpAny_pyIter_enum he ?_
      have I2 : Inv X pins σ H1 { s1 with heap := g } := I1.kept (t' := s1.toks) fun c o q => hk2 c o (hk c o q)
      have el : s1.heap.objs.size + 5 = h'.objs.size := hsz.symm
      refine ⟨h'.objs.size, [h'.objs.size, s1.heap.objs.size + 4, s1.heap.objs.size + 2, s1.heap.objs.size + 3, s1.heap.objs.size, s1.heap.objs.size + 1], _, _, H1, rfl, I2, turn_enz (PySem.W.ktu_apart s1.heap.objs.size a b (Heap.lt_size ho1) (Heap.lt_size ho2)) (fun c hcm => ?_), ⟨⟨.none, he⟩, hk2 _ _ hTI, h1.at fun o w => hk2 _ o w, h2.at fun o w => hk2 _ o w, ⟨_, _, hk2 _ _ hTO⟩, _, _, .inl rfl, hk2 _ _ hz⟩, fun c hcm => ?_, q⟩
      · have hle : ∃ n : Nat, n < 5 ∧ c = s1.heap.objs.size + n := by
          rcases five hcm with q | q | q | q | q
          · exact ⟨4, by decide, q⟩
          · exact ⟨2, by decide, q⟩
          · exact ⟨3, by decide, q⟩
          · exact ⟨0, by decide, q⟩
          · exact ⟨1, by decide, q⟩
        obtain ⟨n, hn, rfl⟩ := hle
        rw [← el]
        exact Nat.ne_of_lt (Nat.add_lt_add_left hn _)
      · have hle : ∃ n : Nat, c = s1.heap.objs.size + n := by
          rcases six hcm with q | hcm
          · exact ⟨5, by rw [q, el]⟩
          rcases five hcm with q | q | q | q | q
          · exact ⟨4, q⟩
          · exact ⟨2, q⟩
          · exact ⟨3, q⟩
          · exact ⟨0, q⟩
          · exact ⟨1, q⟩
        obtain ⟨n, rfl⟩ := hle
        exact I1.fpOk (Nat.le_add_right _ _) (I1.hok.fresh (Nat.le_add_right _ _))
theorem srv_enz {K : PySem.W.Frag} {a b : Addr} {ds es : List PyData} : Srv K (IteZ K a b) [(.p (.tuple ds), .ref a), (.p (.tuple es), .ref b)] (enumL 0 (zipL ds es)) where
  go := fun i H L S hi => by
    rw [enumL_len, zipL_len] at hi
    obtain ⟨xs, hx, hl, _⟩ := SL.atT S
    obtain ⟨ys, hy, hm, _⟩ := SL.atT (SL.drop S)
    exact ⟨xs, ys, xs[i], ys[i], hx, hy, List.getElem?_eq_getElem (by omega), List.getElem?_eq_getElem (by omega)⟩
  yld := fun i H L x H' S y d hd => by
    obtain ⟨T1, T2, z, w, rfl, hT1, hT2, rfl, y1, y2⟩ := y
    obtain ⟨r, hr, rfl⟩ := enumL_get hd
    obtain ⟨p, q, hp, hq, rfl⟩ := zipL_get hr
    obtain ⟨xs, hx, hl, S1⟩ := SL.atT S
    have S2 := S1.pickL hp (y1 xs hx)
    have S4 : SL K H ((.p (.tuple es), .ref b) :: ((.p p, z) :: (.p (.tuple ds), .ref a) :: L)) := S2.perm ((List.Perm.cons _ (.swap _ _ _)).trans (.swap _ _ _))
    obtain ⟨ys', hy', hm', S5⟩ := SL.atT S4
    have S6 := S5.pickL hq (y2 ys' hy')
    have S7 : SL K H ((.p p, z) :: (.p q, w) :: (.p (.tuple ds), .ref a) :: (.p (.tuple es), .ref b) :: L) := S6.perm ((List.Perm.cons _ (.swap _ _ _)).trans ((List.Perm.swap _ _ _).trans (List.Perm.cons _ (List.Perm.cons _ (.swap _ _ _)))))
    rw [Nat.zero_add]
    exact SL.pair ((SL.pair S7 hT1).flat fun _ => .int _) hT2
  stop := fun H L S => by
    obtain ⟨xs, hx, hl, _⟩ := SL.atT S
    obtain ⟨ys, hy, hm, _⟩ := SL.atT (SL.drop S)
    exact ⟨xs, ys, hx, hy, by rw [enumL_len, zipL_len]; omega⟩
def enumZ (fa : MA) : MI := fun Γ => (fa Γ).bind fun r => match r.1 with
  | [d, e] => match fz d, fz e with
    | some (.tuple ds), some (.tuple es) => some (enumL 0 (zipL ds es), r.2)
    | _, _ => none
  | _ => none
theorem ei_enz {C : Cx} {e e2 : Expr} {fa : MA} {ls : List (Option Nat)} {p p2 pos pos2 tpos : Pos} {elts : List Expr} {kk : Nat} (hg : Gl C "enumerate") (hm : C.mg "enumerate" = none) (zg : Gl C "zip") (zm : C.mg "zip" = none) (ha : PA C [e, e2] (okA C.K ls fa))
    (hs : starEach [.Call (.Name "zip" p2) [e, e2] [] pos2] C.env = (false, eval (.Call (.Name "zip" p2) [e, e2] [] pos2) C.env) :: starEach [] C.env := by rfl)
    (zs : starEach [e, e2] C.env = (false, eval e C.env) :: starEach [e2] C.env := by rfl) (zp : (backTo pos2 (starEach [e2] C.env)).any (·.1) = false := by rfl) :
    PI C (.Tuple elts kk tpos) (.Call (.Name "enumerate" p) [.Call (.Name "zip" p2) [e, e2] [] pos2] [] pos) (okI C.K (enumZ fa)) := (pi_enz hg hm zg zm ha hs zs zp).gimp fun σ H R ⟨Γ, X, ds, Γ', F, S, e, k⟩ => by
  obtain ⟨⟨d, Γ1⟩, e1, e⟩ := bindS e
  refine ⟨Γ, X, d, Γ1, F, S, e1, fun H1 vs F1 hl _ S1 => ?_⟩
  dsimp only at e
  split at e
  · rename_i d1 d2
    match vs, hl, S1 with
    | [x, y], _, S1 =>
      have S1 : SL C.K H1 ((d1, x) :: (d2, y) :: (slots _ σ ++ X)) := S1
      split at e
      · rename_i qs rs eq er
        cases e
        have S2 := ((S1.frz eq).swp.frz er).swp
        obtain ⟨a, xs, rfl, hx, _, _⟩ := S2.items
        obtain ⟨b, ys, rfl, hy, _, _⟩ := S2.drop.items
        exact ⟨a, b, xs, ys, rfl, hx, hy, k H1 _ _ F1 srv_enz S2⟩
      · cases e
  · cases e
theorem w_enumZ {fa : MA} {Γ : Nv} {QI : List PyData → Nv → Prop} (k : wA fa Γ fun xs Γ1 => ∃ x y, xs = [x, y] ∧ ∃ ds es, fz x = some (.tuple ds) ∧ fz y = some (.tuple es) ∧ QI (enumL 0 (zipL ds es)) Γ1) : wI (enumZ fa) Γ QI := by
  obtain ⟨_, Γ1, e1, x, y, rfl, ds, es, h1, h2, k⟩ := k
  exact ⟨_, _, by unfold enumZ; rw [e1]; dsimp only [Option.bind]; rw [h1, h2], k⟩
theorem w_setsort {fa : MA} {Γ : Nv} {Q : D → Nv → Prop} (k : wA fa Γ fun xs Γ1 => ∃ x, xs = [x] ∧ ∃ kss : List (List Int), fz x = some (.list (kss.map tI)) ∧ setOk kss = true ∧ Q (.l ((setSort kss).map fun k => .p (tI k))) Γ1) : wE (appD (un1 setSortD) fa) Γ Q := by
  obtain ⟨_, Γ1, e1, x, rfl, kss, h1, h2, k⟩ := k
  have hi : ∀ k : List Int, intsO (k.map .int) = some k := fun k => by
    induction k with
    | nil => rfl
    | cons i k ih => rw [List.map_cons, intsO, ih]; rfl
  have hr : ∀ kss : List (List Int), irows (kss.map tI) = some kss := fun kss => by
    induction kss with
    | nil => rfl
    | cons i k ih =>
      rw [List.map_cons]
      unfold tI at ih ⊢
      rw [irows, hi, ih]
      rfl
  refine ⟨_, Γ1, ?_, k⟩
  unfold appD un1 setSortD
  rw [e1]
  dsimp only [Option.bind, Option.map]
  rw [h1]
  dsimp only
  rw [hr]
  dsimp only
  rw [if_pos h2]
end GH
namespace GH
open PySem L2
/-! ### is True, is False -/
theorem op_isB {X : Cx} : OpR X (compareOp .Is) (fun x y H Q => ∃ b, y = .bl b ∧ Q (.bl (decide (x = .bl b))) H) := by
  intro pins s σ H x y v u Q I rx ry h
  obtain ⟨b, rfl, q⟩ := h
  cases (show u = Value.bool b from ry)
  refine wpAny_is_plain ?_ (fin_bl I q ?_)
  · cases x <;> first
      | (cases rx; rfl)
      | (obtain ⟨t, rfl⟩ := rx; rfl)
  · cases x with
    | bl c =>
      cases (show v = Value.bool c from rx)
      rw [Bool.eq_iff_iff]
      simp
    | _ => first
      | (cases rx; rfl)
      | (obtain ⟨t, rfl⟩ := rx; rfl)
def isBD : D → D → Option D
  | .p q, .p (.bool b) => some (.p (.bool (match q with | .bool c => decide (c = b) | _ => false)))
  | _, _ => none
section
variable {C : Cx}
theorem o_isB : OpR C (compareOp .Is) (okO C.K isBD) := oI op_isB fun {dx dy d x y H Q} e L S k => by
  unfold isBD at e
  split at e
  · rename_i q b
    cases e
    obtain ⟨a, c, S'⟩ := two S
    cases c
    refine ⟨b, rfl, ?_⟩
    cases a with
    | bl c =>
      have : decide (V.bl c = V.bl b) = decide (c = b) := by simp
      rw [this]
      exact k _ _ (S'.flat fun _ => .bl _)
    | _ => exact k _ _ (S'.flat fun _ => .bl _)
  · cases e
end
theorem w_isB {q : PyData} {b : Bool} {QD : D → Prop} (k : QD (.p (.bool (match q with | .bool c => decide (c = b) | _ => false)))) : wO (isBD (.p q) (.p (.bool b))) QD := ⟨_, rfl, k⟩
end GH
namespace GH
open PySem PySem.Spec L2 PyProof.Rows
open PySem.W (dataLe keyToks keyToksAll)
theorem leI_fst {x y : Int} {as bs : List Int} (h : leI (x :: as) (y :: bs) = true) : x ≤ y := by
  unfold leI dataLe PySem.W.sortLe at h
  simp only [cond_false, Bool.not_eq_true'] at h
  unfold tI at h
  simp only [List.map_cons, keyToks, keyToksAll] at h
  have h : PyProof.Rows.lexLt itemOrd (.inl 1 :: .inl y :: keyToksAll (List.map PyData.int bs)) (.inl 1 :: .inl x :: keyToksAll (List.map PyData.int as)) = false := h
  have h2 := (lex_false.mp h).2.resolve_left (by show ¬ decide ((1 : Int) < 1) = true; decide)
  have h3 : decide (y < x) = false := (lex_false.mp h2).1
  have := of_decide_eq_false h3
  omega
theorem setSort_pw (kss : List (List Int)) : (setSort kss).Pairwise fun a b => leI a b = true ∧ a ≠ b := by
  have T := PySem.W.sortLe_total (PyProof.Rows.listOrd PyProof.Rows.itemOrd) false fun b => keyToks (tI b)
  have pw : (setSort kss).Pairwise fun a b => leI a b = true := List.pairwise_mergeSort (le := leI) (fun a b c => T.trans a b c) (fun a b => by
    have := T.total a b
    exact Bool.or_eq_true_iff.mpr this) _
  have nd : (setSort kss).Nodup := (List.mergeSort_perm _ _).nodup_iff.mpr nodup_ddup
  exact pw.and nd
end GH
namespace GH
open PySem L2
/-! ### a written tuple, of whatever items, stored into targets of whatever kind -/
def okGsD (K : PySem.W.Frag) (ro : Nat → Prop) (t : List D → Nv → Option Nv) : TGs := fun vs σ H Q => ∃ Γ X ds Γ', Fits Γ σ ∧ ds.length = vs.length ∧ SL K H (ds.zip vs ++ (slots Γ σ ++ X)) ∧ t ds Γ = some Γ' ∧ ∀ σ' H', Agree ro σ σ' → Fits Γ' σ' → SL K H' (slots Γ' σ' ++ X) → Q σ' H'
def gnilD : List D → Nv → Option Nv := fun ds Γ => match ds with | [] => some Γ | _ => none
def gconsD (t : MG) (u : List D → Nv → Option Nv) : List D → Nv → Option Nv := fun ds Γ => match ds with | d :: ds => (t d Γ).bind (u ds) | [] => none
def parG (n : Nat) (u : List D → Nv → Option Nv) (fa : MA) : MS := fun Γ => (fa Γ).bind fun r => if r.1.length = n then (u r.1 r.2).map .nx else none
section
variable {C : Cx} {ro : Nat → Prop} {tg : Expr} {i : Nat} {t : MG}
theorem egD_nil : PGs C [] (okGsD C.K ro gnilD) := pgs_nil.gimp fun v σ H Q ⟨Γ, X, ds, Γ', F, hl, S, e, k⟩ => by
  unfold gnilD at e
  split at e
  · cases e
    cases v with
    | nil => exact ⟨rfl, k _ H .refl F S⟩
    | cons _ _ => cases hl
  · cases e
theorem egD_cons {es : List Expr} {u : List D → Nv → Option Nv} (h1 : PG C tg (okG C.K ro t)) (h2 : PGs C es (okGsD C.K ro u)) (hs : (assignEach (tg :: es) C.env).map (·.2) = assign tg C.env :: (assignEach es C.env).map (·.2) := by rfl) : PGs C (tg :: es) (okGsD C.K ro (gconsD t u)) :=
  (pgs_cons h1 h2 hs).gimp fun vs σ H Q ⟨Γ, X, ds, Γ', F, hl, S, e, k⟩ => by
    cases ds with
    | nil => cases e
    | cons d ds =>
      obtain ⟨Γ1, e1, e2⟩ := bindS (show (t d Γ).bind (u ds) = some Γ' from e)
      cases vs with
      | nil => cases hl
      | cons v vs =>
        refine ⟨v, vs, rfl, Γ, ds.zip vs ++ X, d, Γ1, F, S.perm (List.Perm.cons _ ?_), e1, fun σ1 H1 a1 F1 S1 => ⟨Γ1, X, ds, Γ', F1, Nat.succ.inj hl, S1.perm ?_, e2, fun σ' H' a F' S' => k σ' H' (a1.trans a) F' S'⟩⟩
        · exact swap3 _ _ _
        · exact swap3 _ _ _
theorem es_parG {st : Stmt} {n : Nat} {u : List D → Nv → Option Nv} {fa : MA} {ls : List (Option Nat)} (h : PS C st (tAsg (tTup (okA C.K ls fa)) (gTup C.K n (okGsD C.K ro u)))) (hz : n ≤ 1000 := by decide) : PS C st (okS C.K ro (parG n u fa)) := h.gimp fun D σ H ⟨Γ, X, out, F, S, e, k⟩ => by
  obtain ⟨⟨ds, Γ1⟩, e1, e⟩ := bindS e
  refine ⟨Γ, X, ds, Γ1, F, S, e1, fun H1 vs F1 hl _ S1 => ?_⟩
  dsimp only at e
  split at e
  · rename_i hh
    obtain ⟨Γ', e2, e⟩ := mapS e
    cases e
    have hlen : vs.length = n := by rw [← hl]; exact hh
    refine ⟨?_, fun p hp => ?_⟩
    · rw [hlen]
      exact le_line hz
    refine ⟨p, vs, rfl, .inl (.inl upd_same), hlen, Γ1, X, ds, Γ', F1, hl, S1.grow (same_upd hp), e2, ?_⟩
    exact fun σ' H' a F' S' => k H' σ' a F' S'
  · cases e
end
def wGd (u : List D → Nv → Option Nv) (ds : List D) (Γ : Nv) (Q : Nv → Prop) : Prop := ∃ Γ', u ds Γ = some Γ' ∧ Q Γ'
theorem w_parG {n : Nat} {u : List D → Nv → Option Nv} {fa : MA} {Γ : Nv} {N B C : Nv → Prop} {R : KD} (k : wA fa Γ fun xs Γ1 => xs.length = n ∧ wGd u xs Γ1 N) : wS (parG n u fa) Γ N R B C := by
  obtain ⟨xs, Γ1, e1, hl, Γ', e2, k⟩ := k
  exact ⟨.nx Γ', by unfold parG; rw [e1]; show (if _ then _ else _) = _; rw [if_pos hl, e2]; rfl, k⟩
theorem w_gnilD {Γ : Nv} {Q : Nv → Prop} (k : Q Γ) : wGd gnilD [] Γ Q := ⟨_, rfl, k⟩
theorem w_gconsD {t : MG} {u : List D → Nv → Option Nv} {d : D} {ds : List D} {Γ : Nv} {Q : Nv → Prop} (k : wG t d Γ fun Γ1 => wGd u ds Γ1 Q) : wGd (gconsD t u) (d :: ds) Γ Q := by
  obtain ⟨Γ1, e1, Γ', e2, k⟩ := k
  exact ⟨Γ', by show (t d Γ).bind (u ds) = _; rw [e1]; exact e2, k⟩
end GH
namespace GH
open PySem L2
/-- a def of which nothing is promised -/
theorem fnG_none {P : Program} {w : World} {K : PySem.W.Frag} {mg : Str → Option Value} {base : Heap} {CX : CXT} {k : Nat} {f : Addr} {fd : FuncData} {ps : List Str} : FnG P w K mg base CX k f fd ps (okFn K fun _ => none) :=
  ⟨fun vs H Q E h => (by obtain ⟨ds, X, d, outs, _, _, e, _⟩ := h; cases e), fun A o s H ar us vs Q E g r e0 hb hv h => (by obtain ⟨ds, X, d, outs, _, _, e, _⟩ := h; cases e)⟩
end GH
namespace GH
open PySem L2
/-! ### a tuple beside the empty one -/
section
variable {C : Cx}
theorem op_eqET (hu : C.A.units + 64 < cLine) : OpR C (compareOp .Eq) (fun x y H Q => ∃ a b xs, x = .ref a ∧ y = .ref b ∧ SqT C.K H a xs ∧ SqT C.K H b [] ∧ Q (.bl xs.isEmpty) H) := by
  intro pins s σ H x y v u Q I rx ry h
  obtain ⟨a, b, xs, rfl, rfl, ha, hb, q⟩ := h
  cases rx
  cases ry
  obtain ⟨its, r, ht, _⟩ := I.tuple ha
  obtain ⟨its2, r2, ht2, _⟩ := I.tuple hb
  cases r2
  have hl := r.length
  refine PySem.SeqAt.eq_tupleAt (e := fun _ => true) ht ht2 (by omega) (fun j h1 h2 => absurd h2 (by simp)) ⟨.bl xs.isEmpty, H, I, ?_, q⟩
  cases xs with
  | nil => cases r; rfl
  | cons z xs => cases r; rfl
theorem op_neET (hu : C.A.units + 64 < cLine) : OpR C (compareOp .NotEq) (fun x y H Q => ∃ a b xs, x = .ref a ∧ y = .ref b ∧ SqT C.K H a xs ∧ SqT C.K H b [] ∧ Q (.bl (!xs.isEmpty)) H) := by
  intro pins s σ H x y v u Q I rx ry h
  obtain ⟨a, b, xs, rfl, rfl, ha, hb, q⟩ := h
  cases rx
  cases ry
  obtain ⟨its, r, ht, _⟩ := I.tuple ha
  obtain ⟨its2, r2, ht2, _⟩ := I.tuple hb
  cases r2
  have hl := r.length
  refine PySem.SeqAt.RcNeAt.tuples (e := fun _ => true) ht ht2 (by omega) (fun j h1 h2 => absurd h2 (by simp)) C.prog C.w _ _ ⟨.bl (!xs.isEmpty), H, I, ?_, q⟩
  cases xs with
  | nil => cases r; rfl
  | cons z xs => cases r; rfl
def eqTD (x y : D) : Option D := match y with
  | .p (.tuple []) => (fz x).bind fun a => match a with | .tuple ds => some (.p (.bool ds.isEmpty)) | _ => none
  | _ => none
def neTD (x y : D) : Option D := match y with
  | .p (.tuple []) => (fz x).bind fun a => match a with | .tuple ds => some (.p (.bool (!ds.isEmpty))) | _ => none
  | _ => none
theorem r_eqT (hu : C.A.units + 64 < cLine) : OpR C (compareOp .Eq) (okR C.K eqTD) := (op_eqET hu).gimp fun x y H Q ⟨L, dx, dy, d, S, e, k⟩ => by
  unfold eqTD at e
  split at e
  · obtain ⟨a, ea, e⟩ := bindS e
    split at e
    · cases e
      have ha := S.drop.dpz ea
      have hb := S.dp
      have h' := k _ _ (S.drop.flat fun _ => .bl _)
      cases ha with
      | @tup a xs _ qa da =>
        cases hb with
        | @tup b ys _ qb db =>
          cases db
          rw [dqAll_empty da] at h'
          exact ⟨a, b, xs, rfl, rfl, qa, qb, h'⟩
    · cases e
  · cases e
theorem r_neT (hu : C.A.units + 64 < cLine) : OpR C (compareOp .NotEq) (okR C.K neTD) := (op_neET hu).gimp fun x y H Q ⟨L, dx, dy, d, S, e, k⟩ => by
  unfold neTD at e
  split at e
  · obtain ⟨a, ea, e⟩ := bindS e
    split at e
    · cases e
      have ha := S.drop.dpz ea
      have hb := S.dp
      have h' := k _ _ (S.drop.flat fun _ => .bl _)
      cases ha with
      | @tup a xs _ qa da =>
        cases hb with
        | @tup b ys _ qb db =>
          cases db
          rw [dqAll_empty da] at h'
          exact ⟨a, b, xs, rfl, rfl, qa, qb, h'⟩
    · cases e
  · cases e
end
theorem w_eqT0 {d : D} {ds : List PyData} {QD : D → Prop} (h : fz d = some (.tuple ds)) (k : QD (.p (.bool ds.isEmpty))) : wO (eqTD d (.p (.tuple []))) QD := ⟨_, by unfold eqTD; dsimp only; rw [h]; rfl, k⟩
theorem w_neT0 {d : D} {ds : List PyData} {QD : D → Prop} (h : fz d = some (.tuple ds)) (k : QD (.p (.bool (!ds.isEmpty)))) : wO (neTD d (.p (.tuple []))) QD := ⟨_, by unfold neTD; dsimp only; rw [h]; rfl, k⟩
theorem w_leS {a b : Str} {QD : D → Prop} (k : QD (.p (.bool (!decide (b.cps.toList < a.cps.toList))))) : wO (leD (.p (.str a)) (.p (.str b))) QD := ⟨_, rfl, k⟩
theorem w_geS {a b : Str} {QD : D → Prop} (k : QD (.p (.bool (!decide (a.cps.toList < b.cps.toList))))) : wO (geD (.p (.str a)) (.p (.str b))) QD := ⟨_, rfl, k⟩
end GH
namespace GH
open PySem L2
open PySem.W (alike alikeAll AllAlike Sortable dataLe dataLt EachIs)
/-! ### min of a list of data that are alike; the place of an item -/
def idxF (q : PyData) : List PyData → Option Nat
  | [] => none
  | z :: zs => if PyData.eqv z q = true then some 0 else (idxF q zs).map (· + 1)
theorem idxF_is : ∀ {q : PyData} {qs : List PyData} {j : Nat}, idxF q qs = some j → ∃ z, qs[j]? = some z ∧ PyData.eqv z q = true ∧ ∀ (m : Nat) (z' : PyData), m < j → qs[m]? = some z' → PyData.eqv z' q = false
  | q, [], j, h => by cases h
  | q, z :: zs, j, h => by
    unfold idxF at h
    split at h
    · rename_i hz
      cases h
      exact ⟨z, rfl, hz, fun m _ hm => absurd hm (Nat.not_lt_zero _)⟩
    · rename_i hz
      obtain ⟨i, e1, e2⟩ := mapS h
      subst e2
      obtain ⟨y, h1, h2, h3⟩ := idxF_is e1
      refine ⟨y, by simpa using h1, h2, fun m z' hm hz' => ?_⟩
      cases m with
      | zero =>
        simp at hz'
        subst hz'
        exact Bool.eq_false_iff.mpr hz
      | succ m => exact h3 m z' (by omega) (by simpa using hz')
def indexD : D → List D → Option (D × D)
  | d, [e] => match fz d, fz e with
    | some (.list qs), some q => if SeqAt.shaped (.list qs) = true ∧ SeqAt.shaped q = true then (idxF q qs).map fun j => (.p (.int (j : Nat)), .p (.list qs)) else none
    | _, _ => none
  | _, _ => none
section
variable {C : Cx}
theorem m_index : ∀ x vs H Q, okM C.K indexD x vs H Q → rIndexD C.K x vs H Q := fun x vs H Q ⟨L, dx, ds, r, hl, S, e, k⟩ => by
  unfold indexD at e
  split at e
  · rename_i d1 e1
    split at e
    · rename_i qs q h1 h2
      split at e
      · rename_i ho
        obtain ⟨j, ej, er⟩ := mapS e
        subst er
        match vs, hl, S with
        | [y], _, S =>
          have S : SL C.K H ((dx, x) :: (e1, y) :: L) := S
          have S1 := S.frz h1
          have S2 : SL C.K H ((.p q, y) :: (.p (.list qs), x) :: L) := (S1.perm (.swap _ _ _)).frz h2
          have dy := S2.dp
          have dx := S2.drop.dp
          obtain ⟨z, z1, z2, z3⟩ := idxF_is ej
          obtain ⟨a, xs, rfl, _⟩ := S2.drop.itemsL
          have n1 := noDict_lay (SeqAt.canLay_of_shaped ho.1)
          have n2 := noDict_lay (SeqAt.canLay_of_shaped ho.2)
          exact ⟨a, y, q, qs, j, z, rfl, rfl, dx.toDp n1, dy.toDp n2, ho.1, ho.2, z1, z2, z3, k _ _ (S2.drop.flat fun _ => .int _)⟩
      · cases e
    · cases e
  · cases e
def min1D (d : D) : Option D := match fz d with
  | some (.list (x :: ds)) => if sortOk (x :: ds) = true then some (.p (PySem.W.minD x ds)) else none
  | _ => none
theorem minD_mem (x : PyData) (ds : List PyData) : PySem.W.minD x ds ∈ x :: ds := by
  unfold PySem.W.minD
  induction ds generalizing x with
  | nil => exact List.mem_cons_self
  | cons y ds ih =>
    rw [List.foldl_cons]
    split
    · rcases List.mem_cons.mp (ih y) with h | h
      · rw [h]; simp
      · exact List.mem_cons_of_mem _ (List.mem_cons_of_mem _ h)
    · rcases List.mem_cons.mp (ih x) with h | h
      · rw [h]; simp
      · exact List.mem_cons_of_mem _ (List.mem_cons_of_mem _ h)
theorem alike_of {ds : List PyData} (h : sortOk ds = true) : PySem.W.AlikeAll ds := by
  obtain ⟨h1, h2, _, _⟩ := sortOk_iff h
  refine ⟨h1, fun x hx => ?_⟩
  rcases h2 with h2 | h2
  · obtain ⟨a, b, rfl⟩ := h2 x hx
    exact fun h => by cases h
  · exact (h2 x hx).1
theorem dq_at {K : PySem.W.Frag} {H : Hp} : ∀ {ds : List PyData} {xs : List V} {us : List Value} {i : Nat} {u : Value}, DqAll K H xs ds → Vals xs us → us[i]? = some u → ∃ x d, xs[i]? = some x ∧ RelV x u ∧ Dq K H x d ∧ ds[i]? = some d
  | _, _, _, _, _, .nil, r, h => by
    cases r
    simp at h
  | _, _, _, 0, u, .cons h1 h2, r, h => by
    cases r with
    | cons r1 r2 =>
      simp at h
      subst h
      exact ⟨_, _, rfl, r1, h1, rfl⟩
  | _, _, _, i + 1, u, .cons h1 h2, r, h => by
    cases r with
    | cons r1 r2 =>
      obtain ⟨x, d, e1, e2, e3, e4⟩ := dq_at h2 r2 (i := i) (by simpa using h)
      exact ⟨x, d, by simpa using e1, e2, e3, by simpa using e4⟩
theorem call_min1 (hc : C.calm = true) (hu : C.A.units + 60 < cLine) : CallR C (.builtin "min") (fun vs H Q => ∃ (a : Addr) (xs : List V) (x : PyData) (ds : List PyData), vs = [V.ref a] ∧ SqL C.K H a xs ∧ DqAll C.K H xs (x :: ds) ∧ sortOk (x :: ds) = true ∧
    ∀ (i : Nat) (v : V), xs[i]? = some v → (x :: ds)[i]? = some (PySem.W.minD x ds) → Q v H) := by
  intro pins s σ H vs us Q I r h
  obtain ⟨a, xs, x, ds, rfl, hs, hq, ho, q⟩ := h
  obtain ⟨u, rfl, ru⟩ := vals1 r
  obtain rfl : u = Value.ref a := ru
  obtain ⟨its, rv, hl, hz⟩ := I.list hs
  obtain ⟨o1, o2, o3, o4⟩ := sortOk_iff ho
  obtain ⟨as, rd⟩ := Dq.readsAll I hq rv
  have hdep : PyData.depthAll (x :: ds) ≤ 50 := by
    unfold sortOk at ho
    simp only [Bool.and_eq_true, decide_eq_true_eq] at ho
    exact ho.2
  refine PySem.W.min_list_data (vs := its.toArray) (I.ok.hd hc) hl.isList (show ReadsAll s.heap its.toArray.toList (x :: ds) as from rd.to) (alike_of ho) (by omega) fun i v h' tk bs hv hr hk => ?_
  obtain ⟨w, d, e1, e2, e3, e4⟩ := dq_at hq rv (i := i) (u := v) (by simpa using hv)
  obtain ⟨cs, hr2⟩ := Dq.reads I e3 e2
  have ed := PySem.W.alike_unique d (PySem.W.minD x ds) v cs bs (o1 d (List.mem_of_getElem? e4) _ (minD_mem x ds)) (PySem.W.reads_keeps hk hr2.to) hr
  subst ed
  exact ⟨w, H, I.kept hk, e2, q i w e1 e4⟩
theorem c_min1 (hc : C.calm = true) (hu : C.A.units + 60 < cLine) : CallR C (.builtin "min") (okC C.K (un1 min1D)) := (call_min1 hc hu).gimp fun vs H Q ⟨L, ds, d, hl, S, e, k⟩ => by
  unfold un1 at e
  split at e
  · rename_i dx
    match vs, hl, S with
    | [x], _, S =>
      have S : SL C.K H ((dx, x) :: L) := S
      unfold min1D at e
      split at e
      · rename_i x0 qs eq
        split at e
        · rename_i ho
          cases e
          have S1 := S.frz eq
          obtain ⟨a, xs, rfl, hx, hl, S2⟩ := S1.itemsL
          refine ⟨a, xs, x0, qs, rfl, hx, SL.dpAll hl S2, ho, fun i v hv hd => k _ _ ?_⟩
          have hm : (D.p (PySem.W.minD x0 qs), v) ∈ ((x0 :: qs).map D.p).zip xs := by
            refine List.mem_of_getElem? (i := i) ?_
            rw [List.getElem?_zip_eq_some]
            exact ⟨by rw [List.getElem?_map, hd]; rfl, hv⟩
          refine S2.sub ?_
          exact (List.singleton_sublist.mpr hm).append (List.sublist_cons_self _ _)
        · cases e
      · cases e
  · cases e
end
end GH
namespace GH
open PySem PySem.Spec L2 PyProof.Rows
/-! ### sets of texts -/
def txt : Value → Str
  | .str x _ => x
  | _ => Str.empty
def rowTx (w : World) (e : Int × Value) : Prop := ∃ x tk, e = (hashStr w x, Value.str x tk)
structure TxRows (w : World) (es : Array (Int × Value)) (L : List Str) : Prop where
  row : ∀ e ∈ es.toList, rowTx w e
  one : (es.toList.map fun e => txt e.2).Perm L
  nd : L.Nodup
structure TxTab (w : World) (es : Array (Int × Value)) (t : SetTable) : Prop where
  few : es.size < scanBound
  fit : t.fits es.size = true
  ris : Ris t.place.toList
  led : w.params.followText "set-order" = true ∨ t.led = true
abbrev SetHas (h : Heap) (a : Addr) (es : Array (Int × Value)) (ep : Nat) (t : SetTable) : Prop := ∃ o, h.get? a = some o ∧ o.ExactSet ∧ o.data = .set es ep t
def TxSet (w : World) (h : Heap) (a : Addr) (L : List Str) : Prop := ∃ es ep t, SetHas h a es ep t ∧ TxRows w es L ∧ TxTab w es t
section
variable {P : Program} {w : World} {A : Around} {E : Value → Shared → Prop} {s : Shared} {a : Addr} {L : List Str} {es : Array (Int × Value)}
theorem TxSet.keep {h h' : Heap} (R : TxSet w h a L) (k : ∀ o, h.get? a = some o → h'.get? a = some o) : TxSet w h' a L := by
  obtain ⟨es, ep, t, ⟨o, ho, q⟩, r⟩ := R
  exact ⟨es, ep, t, ⟨o, k o ho, q⟩, r⟩
theorem TxRows.len (R : TxRows w es L) : es.size = L.length := by
  have := R.one.length_eq
  rwa [List.length_map, Array.length_toList] at this
theorem TxRows.els (R : TxRows w es L) : ElemsOf (PySem.strKind P w) es.toList := by
  intro e he
  obtain ⟨x, tk, rfl⟩ := R.row e he
  exact ⟨⟨x, strKind_is _ _ _ _, rfl⟩, rfl⟩
theorem row_is {e : Int × Value} (r : rowTx w e) (x : Str) : (PySem.strKind P w).is x e.2 = true ↔ txt e.2 = x := by
  obtain ⟨y, tk, rfl⟩ := r
  constructor
  · intro h
    exact (PySem.strKind P w).inj _ _ _ (strKind_is _ _ _ _) h
  · rintro rfl
    exact strKind_is _ _ _ _
theorem TxRows.got (R : TxRows w es L) {x : Str} {j : Nat} (h : List.findIdx? (fun e => (PySem.strKind P w).is x e.2) es.toList = some j) : x ∈ L := by
  obtain ⟨hj, pj, _⟩ := List.findIdx?_eq_some_iff_getElem.mp h
  have hm := List.getElem_mem hj
  exact R.one.mem_iff.mp (List.mem_map.mpr ⟨_, hm, (row_is (R.row _ hm) x).mp pj⟩)
theorem TxRows.not (R : TxRows w es L) {x : Str} (h : List.findIdx? (fun e => (PySem.strKind P w).is x e.2) es.toList = none) : x ∉ L := by
  intro hx
  obtain ⟨e, he, ex⟩ := List.mem_map.mp (R.one.mem_iff.mpr hx)
  have n := List.findIdx?_eq_none_iff.mp h e he
  rw [(row_is (R.row e he) x).mpr ex] at n
  cases n
theorem TxRows.perm {es' : Array (Int × Value)} (R : TxRows w es L) (p : es'.toList.Perm es.toList) : TxRows w es' L :=
  ⟨fun e he => R.row e (p.mem_iff.mp he), (p.map _).trans R.one, R.nd⟩
theorem TxRows.push {es' : Array (Int × Value)} {x : Str} {tk : Tok} (R : TxRows w es L) (hx : x ∉ L) (p : es'.toList.Perm ((hashStr w x, Value.str x tk) :: es.toList)) : TxRows w es' (x :: L) := by
  refine ⟨fun e he => ?_, (p.map _).trans (R.one.cons x), List.nodup_cons.mpr ⟨hx, R.nd⟩⟩
  rcases List.mem_cons.mp (p.mem_iff.mp he) with rfl | he
  · exact ⟨x, tk, rfl⟩
  · exact R.row e he
/-- laying what was found, and laying it anew where the table is too full -/
theorem tx_lay {g : Bool → Sem Unit} (hg : ∀ (b : Bool) (s₁ : Shared) (Q' : Unit → Shared → Prop), Q' () s₁ → wpAny (model P w) A (g b) Q' E s₁)
    {ep : Nat} {t t2 : SetTable} {es1 : Array (Int × Value)} (hs : SetHas s.heap a es ep t) (R1 : TxRows w es1 L) (T : TxTab w es1 t2) {wd : Bool} {Q : Option Bool → Shared → Prop}
    (hQ : ∀ h', Heap.SameBut a s.heap h' → TxSet w h' a L → Q (some true) { s with heap := h' }) :
    wpAny (model P w) A (do
        storeSet a es1 t2
        if (!wd && t2.tooFull) = true then do
            g (relayAll t2 es1 (SetTable.grown es1.size)).2.2
            storeSet a (relayAll t2 es1 (SetTable.grown es1.size)).1 (relayAll t2 es1 (SetTable.grown es1.size)).2.1
            pure (some true)
          else pure (some true)) Q E s := by
  obtain ⟨o, ho, hx, hd⟩ := hs
  have o1 := L2.store_at (es' := es1) (t' := t2) ho hd
  have b1 := Heap.SameBut.update s.heap a (Obj.putSet es1 t2)
  refine wpAny_bind (wpAny_storeSet_of ho hd ?_ (fits_of_scanBound T.few))
  split
  · have p3 := relayAll_perm t2 es1 (SetTable.grown es1.size)
    have f3 := relayAll_fits t2 es1 (SetTable.grown es1.size)
    have r3 := relayAll_ris t2 es1 (SetTable.grown es1.size)
    have l3 := relayAll_led t2 es1 (SetTable.grown es1.size)
    generalize relayAll t2 es1 (SetTable.grown es1.size) = Z at *
    obtain ⟨es2, t3, gv⟩ := Z
    have R2 : TxRows w es2 L := R1.perm p3
    have few2 : es2.size < scanBound := by rw [R2.len, ← R1.len]; exact T.few
    refine wpAny_bind (hg _ _ _ (wpAny_bind (wpAny_storeSet_of o1 rfl (wpAny_pure ?_) (fits_of_scanBound few2))))
    have o2 := L2.store_at (es' := es2) (t' := t3) o1 rfl
    exact hQ _ (b1.trans (Heap.SameBut.update _ a _)) ⟨es2, _, t3, ⟨_, o2, hx, rfl⟩, R2, few2, f3, r3, T.led.imp_right fun z => l3.trans z⟩
  · exact wpAny_pure (hQ _ b1 ⟨es1, _, t2, ⟨_, o1, hx, rfl⟩, R1, T⟩)
/-- a text is put into a set of texts -/
theorem tx_put {x : Str} {tk : Tok} {Q : Bool → Shared → Prop} (R : TxSet w s.heap a L) (room : L.length + 1 < scanBound)
    (hQ : ∀ b h' L', Heap.SameBut a s.heap h' → TxSet w h' a L' → (x ∈ L → L' = L) → (x ∉ L → L' = x :: L) → Q b { s with heap := h' }) :
    wpAny (model P w) A (setAddHashed a (.str x tk) ((PySem.strKind P w).hash x)) Q E s := by
  obtain ⟨es, ep, t, ⟨o, ho, hx, hd⟩, W, T⟩ := R
  have key : (PySem.strKind P w).is x (.str x tk) = true := strKind_is _ _ _ _
  have els : ElemsOf (PySem.strKind P w) es.toList := W.els
  unfold setAddHashed setAddHashedIn
  refine wpAny_holding (wpAny_bind (wpAny_setState_of ho hd T.fit ?_))
  dsimp only
  rw [byScan_of (x := .str x tk) rfl T.few els]
  simp only [↓reduceIte]
  unfold setAddByScan
  refine wpAny_bind (wpAny_bind (wpAny_rule (wpAny_bind (wpAny_setScan_of key ho hd T.fit els ?_))))
  cases hf : List.findIdx? (fun e => (PySem.strKind P w).is x e.2) es.toList with
  | some j =>
    have hm := W.got hf
    exact wpAny_pure (wpAny_pure (hQ _ s.heap L (Heap.SameBut.refl a s.heap) ⟨es, ep, t, ⟨o, ho, hx, hd⟩, W, T⟩ (fun _ => rfl) fun n => absurd hm n))
  | none =>
    have hn := W.not hf
    have gw : ∀ (b : Bool) {s₁ : Shared} {Q' : Unit → Shared → Prop}, Q' () s₁ → wpAny (model P w) A (match b with | true => rule "set.scan.the-table-gave-way" | false => pure ()) Q' E s₁ := by
      intro b s₁ Q' q
      cases b
      · exact wpAny_pure q
      · exact wpAny_rule q
    have p1 := layNew_perm t es ((PySem.strKind P w).hash x) (.str x tk)
    have f1 := layNew_fits t es ((PySem.strKind P w).hash x) (.str x tk)
    have r1 := layNew_ris t es ((PySem.strKind P w).hash x) (.str x tk) T.ris
    have l1 := layNew_led t es ((PySem.strKind P w).hash x) (.str x tk)
    dsimp only
    generalize layNew t es ((PySem.strKind P w).hash x) (.str x tk) = Z at *
    obtain ⟨es1, t1, wd, gv⟩ := Z
    have W1 : TxRows w es1 (x :: L) := W.push hn (tk := tk) (p1.trans (by rw [Array.toList_push]; exact List.perm_append_singleton _ _))
    have few1 : es1.size < scanBound := by rw [W1.len]; exact room
    have T1 : TxTab w es1 t1 := ⟨few1, f1, r1, T.led.imp_right fun z => l1.trans z⟩
    have fin : ∀ h', Heap.SameBut a s.heap h' → TxSet w h' a (x :: L) → Q true { s with heap := h' } := fun h' b r => hQ _ h' _ b r (fun m => absurd m hn) fun _ => rfl
    refine wpAny_bind (gw _ ?_)
    have gw' : ∀ (b : Bool) (s₁ : Shared) (Q' : Unit → Shared → Prop), Q' () s₁ → wpAny (model P w) A (match b with | true => rule "set.scan.the-table-gave-way" | false => pure ()) Q' E s₁ := fun b _ _ q => gw b q
    split
    · rw [hashByValue_scannable 8 (x := .str x tk) rfl]
      refine wpAny_bind (wpAny_pure ?_)
      exact tx_lay gw' ⟨o, ho, hx, hd⟩ W1 ⟨few1, SetTable.fits_plain_off f1, r1, T1.led⟩ fun h' b r => wpAny_pure (fin h' b r)
    · refine wpAny_bind (wpAny_pure ?_)
      simp only [↓reduceIte]
      exact tx_lay gw' ⟨o, ho, hx, hd⟩ W1 T1 fun h' b r => wpAny_pure (fin h' b r)
theorem tx_fresh {h : Heap} (ho : h.get? a = some { cls := .type "set", dict := none, data := .set #[] 0 (.fresh 0 0 (!w.params.followText "set-order")) }) : TxSet w h a [] := by
  refine ⟨#[], 0, _, ⟨_, ho, ⟨rfl, rfl, rfl⟩, rfl⟩, ⟨fun e he => (by cases he), List.Perm.refl _, List.nodup_nil⟩, ⟨by show 0 < scanBound; unfold scanBound; omega, by rfl, List.Pairwise.nil, ?_⟩⟩
  cases h : w.params.followText "set-order"
  · exact .inr rfl
  · exact .inl rfl
/-- the texts seen by turn i -/
structure Seen (xs : List Str) (i : Nat) (L : List Str) : Prop where
  is : ∀ x, x ∈ L ↔ x ∈ xs.take i
  le : L.length ≤ i
theorem Seen.step {xs L L' : List Str} {i : Nat} {x : Str} (S : Seen xs i L) (hx : xs[i]? = some x) (h1 : x ∈ L → L' = L) (h2 : x ∉ L → L' = x :: L) : Seen xs (i + 1) L' := by
  have e : xs.take (i + 1) = xs.take i ++ [x] := by rw [List.take_add_one, hx] <;> rfl
  by_cases m : x ∈ L
  · rw [h1 m]
    refine ⟨fun y => ?_, Nat.le_succ_of_le S.le⟩
    rw [e, List.mem_append, List.mem_singleton, ← S.is y]
    exact ⟨.inl, fun z => z.elim id fun z => z ▸ m⟩
  · rw [h2 m]
    refine ⟨fun y => ?_, Nat.succ_le_succ S.le⟩
    rw [e, List.mem_append, List.mem_singleton, ← S.is y, List.mem_cons]
    exact Or.comm
/-- set.update's turns over a list of texts -/
theorem tx_turns {I : Addr} {fp wr : List Addr} {G : Array GenState → Array GenState → Prop} {n : Nat} {Pv : Nat → Value → Prop} {St : Nat → Shared → Prop} {R : Result → Shared → Prop}
    (W : WalksS P w A.in1 I fp wr G n Pv St) (S : Addr) (out : S ∉ fp) {xs : List Str} (hn : n = xs.length) (room : xs.length + 1 < scanBound) (hv : ∀ i v, Pv i v → ∃ x tk, xs[i]? = some x ∧ v = .str x tk)
    {h0 : Heap} (new : h0.get? S = none) (new2 : ∀ b ∈ wr, h0.get? b = none) : ∀ (k i : Nat) (s : Shared) (L : List Str), i + k = n → St i s → (∀ b o, h0.get? b = some o → s.heap.get? b = some o) → TxSet w s.heap S L → Seen xs i L →
      (∀ s' L', Moved (S :: wr) G s s' → TxSet w s'.heap S L' → Seen xs n L' → (∀ b o, h0.get? b = some o → s'.heap.get? b = some o) → R (.ok (.ret .none)) s') →
      codeAny (model P w) A (.builtin "set.update.loop" ⟨[.ref S, .ref I], []⟩) R s := by
  have outw : S ∉ wr := fun h => out (W.sub _ h)
  have wider : ∀ b ∈ wr, b ∈ S :: wr := fun b hb => List.mem_cons_of_mem _ hb
  have still : ∀ {s s' : Shared}, Moved wr G s s' → (∀ b o, h0.get? b = some o → s.heap.get? b = some o) → ∀ b o, h0.get? b = some o → s'.heap.get? b = some o := by
    intro s s' m kp b o e
    refine m.heap b o (fun hb => ?_) (kp b o e)
    rw [new2 b hb] at e
    cases e
  intro k
  induction k with
  | zero =>
    intro i s L hk st kp T g hR
    obtain rfl : i = n := hk
    refine codeAny_builtin F.entry_set_update_loop ?_
    rw [Around.under_plainId F.plain_set_update_loop _]
    refine wpAny_bind (W.done s _ _ st fun s' m => ?_)
    exact wpAny_pure (hR s' L (m.mono wider) (T.keep fun o e => m.heap S o outw e) g (still m kp))
  | succ k ih =>
    intro i s L hk st kp T g hR
    have lt : i < n := by omega
    refine codeAny_builtin F.entry_set_update_loop ?_
    rw [Around.under_plainId F.plain_set_update_loop _]
    refine wpAny_bind (W.item i s _ _ lt st fun v s' pv st' m => ?_)
    obtain ⟨x, tk, hx, rfl⟩ := hv i v pv
    have T' : TxSet w s'.heap S L := T.keep fun o e => m.heap S o outw e
    have kp' := still m kp
    have hle := g.le
    refine wpAny_bind (wpAny_holding ?_)
    unfold setAdd
    refine wpAny_holding (wpAny_bind ((PySem.strKind P w).pyHash (k := x) (strKind_is _ _ _ _) ?_))
    refine tx_put (s := { s' with toks := s'.toks + 1 }) T' (by omega) fun b h' L' sb T2 c1 c2 => ?_
    have kp2 : ∀ b o, h0.get? b = some o → h'.get? b = some o := by
      intro b o e
      refine (sb.2 b fun z => ?_).trans (kp' b o e)
      rw [z, new] at e
      cases e
    refine wpAny_pure ⟨plainId_quiet F.plain_set_update_loop _, ih (i + 1) _ L' (by omega) (W.frame _ s' _ _ st' (Nat.le_succ _) fun b hb o e => ?_) kp2 T2 (g.step hx c1 c2) fun s2 L2 m2 T3 g2 kp3 => ?_⟩
    · rw [sb.2 b fun z => out (z ▸ hb)]
      exact e
    · refine hR s2 L2 (Moved.trans W.gtrans ((m.mono wider).then_heap (Nat.le_succ _) fun b o hb e => ?_) m2) T3 g2 kp3
      rw [sb.2 b fun z => hb (z ▸ List.mem_cons_self)]
      exact e
abbrev setNew (w : World) : Obj := { cls := .type "set", dict := none, data := .set #[] 0 (.fresh 0 0 (!w.params.followText "set-order")) }
/-- set(xs), xs a list of texts -/
theorem call_setTx {l : Addr} {items : Array Value} {xs : List Str} {Q : Value → Shared → Prop} (hh : A.handled = none) (hl : s.heap.IsList l items) (hit : StrsAre items.toList xs) (room : xs.length + 1 < scanBound)
    (hQ : ∀ (h' : Heap) (tk : Nat) (L : List Str), TxSet w h' s.heap.objs.size L → (∀ x, x ∈ L ↔ x ∈ xs) → L.length ≤ xs.length → (∀ b o, s.heap.get? b = some o → h'.get? b = some o) → Q (.ref s.heap.objs.size) { s with heap := h', toks := tk }) :
    wpAny (model P w) A (call (.type "set") [.ref l]) Q E s := by
  have sz : items.size = xs.length := by rw [← StrsAre.len_eq hit, Array.length_toList]
  obtain ⟨c, tl, hmro⟩ := F.called_set.mro
  have hmade := F.called_set.made
  have hsub := F.called_set.sub
  refine wpAny_call (codeAny_of_tree ?_)
  refine wpAny_pure ⟨Code.quiet_builtin _ (by decide +kernel), codeAny_builtin F.entry_type_call ?_⟩
  rw [Around.under_plain (weight_type_call_type "set" [.ref l] []) rfl]
  have h1 := F.called_set.notType
  have h2 := F.called_set.canCreate
  have hct := F.typeCall_set_1 (.ref l)
  repeat (any_goals (first | assumption | wp_step))
  refine codeAny_mono (code_set_led1 (.ref l) (E := E) (Q₁ := fun v s₁ => v = .ref s.heap.objs.size ∧ s₁ = { s with heap := s.heap.push (setNew w) }) ⟨rfl, rfl⟩) fun r s₁ hr => ?_
  cases r with
  | error e => exact hr
  | ok fl =>
    cases fl with
    | ret v =>
      obtain ⟨rfl, rfl⟩ := hr
      have oS : (s.heap.push (setNew w)).get? s.heap.objs.size = some (setNew w) := Heap.get?_push_size _ rfl
      have tS : Shared.TypeIs { s with heap := s.heap.push (setNew w) } (.ref s.heap.objs.size) "set" := ⟨_, oS, rfl⟩
      have hli := F.called_set.init.lookup
      have hbi := F.called_set.init.bind (.ref s.heap.objs.size)
      repeat (any_goals (first | assumption | wp_step))
      refine codeAny_mono (codeAny_call_builtin (R := wants (fun r s₂ => r = .none ∧ ∃ h' tk L, s₂ = { s with heap := h', toks := tk } ∧ TxSet w h' s.heap.objs.size L ∧ Seen xs xs.length L ∧ (∀ b o, s.heap.get? b = some o → h'.get? b = some o)) E)
        F.called_set.init.plain F.entry_set_init (check_set_init_1 tS ?_)) fun r₂ s₂ hr₂ => ?_
      · obtain ⟨⟨ocls, odict, odata, oslots⟩, hol, hcl, nl, hdl⟩ := hl
        simp only at hcl hdl
        subst hcl
        subst hdl
        have oL : (s.heap.push (setNew w)).get? l = some { cls := .type "list", dict := odict, data := .seq items nl, slots := oslots } := Heap.get?_push_of_some _ hol
        have lt : l < s.heap.objs.size := Heap.lt_size hol
        have isL : (s.heap.push (setNew w)).IsList l items := ⟨_, oL, rfl, nl, rfl⟩
        have hsls := F.sub_list_set
        have hslf := F.sub_list_frozenset
        have hne : (Value.type "list" == Value.type "dict") = false := by decide
        have zz : (s.heap.push (setNew w)).objs.size = s.heap.objs.size + 1 := Heap.size_push ..
        unfold Builtin.«set.__init__» noKeywords Builtin.Frozenset.updateFrom
        generalize hPI : pyIter = PI
        wp_walk
        subst hPI
        refine wpAny_pyIter_list isL (wpAny_bind (wpAny_runValue ?_))
        have hh3 : A.in1.in1.in1.handled = none := by simp [hh]
        have far : ∀ b, s.heap.objs.size ≤ b → s.heap.get? b = none := by
          intro b hb
          cases q : s.heap.get? b with
          | none => rfl
          | some o => exact absurd (Heap.lt_size q) (Nat.not_lt_of_le hb)
        refine tx_turns ((Walks.list hh3 _ l (by rw [zz]; exact Nat.ne_of_lt (Nat.lt_succ_of_lt lt)) items).toS) s.heap.objs.size (by
            rw [zz]
            simp only [List.mem_cons, List.not_mem_nil, or_false, not_or]
            exact ⟨Nat.ne_of_lt (Nat.lt_succ_self _), Nat.ne_of_gt lt⟩) sz room (fun i v hv => ?_) (h0 := s.heap) (far _ (Nat.le_refl _)) (fun b hb => far b (by
            rw [List.mem_singleton.mp hb, zz]
            exact Nat.le_succ _)) items.size 0 _ [] (Nat.zero_add _) ⟨⟨_, Heap.get?_push_size _ rfl, rfl, rfl⟩, (isL.push _)⟩ (fun b o e => Heap.get?_push_of_some _ (Heap.get?_push_of_some _ e)) (tx_fresh (Heap.get?_push_of_some _ oS)) ⟨fun x => by simp, Nat.le_refl _⟩ fun s' L' m T g kp => ?_
        · have q : items.toList[i]? = some v := by rw [Array.getElem?_toList]; exact hv
          have li : i < xs.length := by
            rw [← StrsAre.len_eq hit]
            exact (List.getElem?_eq_some_iff.mp q).1
          obtain ⟨tk, e⟩ := SS.strs_at hit i v q
          refine ⟨xs.getD i Str.empty, tk, ?_, e⟩
          rw [List.getD_eq_getElem?_getD, List.getElem?_eq_getElem li] <;> rfl
        · obtain ⟨h', g2, d', tk', os'⟩ := s'
          obtain rfl : g2 = s.gens := m.gens
          obtain rfl : d' = s.drawn := m.drawn
          obtain rfl : os' = s.os := m.os
          rw [sz] at g
          exact wpAny_pure (wpAny_pure ⟨rfl, h', tk', L', rfl, T, g, kp⟩)
      · cases r₂ with
        | error e => exact hr₂
        | ok fl₂ =>
          cases fl₂ with
          | ret r =>
            obtain ⟨rfl, h', tk, L, rfl, T, g, kp⟩ := hr₂
            repeat (any_goals (first | assumption | wp_step))
            exact hQ _ _ _ T (fun x => by rw [g.is x, List.take_length]) g.le kp
          | _ => exact hr₂.elim
    | _ => exact hr.elim
end
end GH
namespace GH
open PySem PySem.Spec L2 PyProof.Rows
open PySem.W (alike alikeAll AllAlike Sortable dataLe dataLt EachIs keyToks keyToksAll)
/-! ### sorted(set(..)) of a list of texts -/
def leS : Str → Str → Bool := dataLe false PyData.str
theorem leS_anti {a b : Str} (h1 : leS a b = true) (h2 : leS b a = true) : a = b := by
  unfold leS dataLe PySem.W.sortLe at h1 h2
  simp only [cond_false, Bool.not_eq_true'] at h1 h2
  have := lex_total _ _ h1 h2
  rw [keyToks, keyToks] at this
  simp only [List.cons.injEq, Sum.inr.injEq, and_true] at this
  obtain ⟨x⟩ := a
  obtain ⟨y⟩ := b
  exact congrArg Str.mk (Array.toList_inj.mp this.symm)
theorem leS_sorted (l : List Str) : List.Pairwise (fun a b => leS a b = true) (l.mergeSort leS) := by
  have T := PySem.W.sortLe_total (PyProof.Rows.listOrd PyProof.Rows.itemOrd) false fun b : Str => keyToks (.str b)
  exact List.pairwise_mergeSort (le := leS) (fun a b c => T.trans a b c) (fun a b => Bool.or_eq_true_iff.mpr (T.total a b)) l
theorem leS_uniq {A B : List Str} (h : A.Perm B) : A.mergeSort leS = B.mergeSort leS :=
  List.Perm.eq_of_pairwise (fun a b _ _ => leS_anti) (leS_sorted A) (leS_sorted B) ((List.mergeSort_perm _ _).trans (h.trans (List.mergeSort_perm _ _).symm))
def sdup : List Str → List Str
  | [] => []
  | x :: xs => if x ∈ xs then sdup xs else x :: sdup xs
theorem mem_sdup {x : Str} : ∀ {xs : List Str}, x ∈ sdup xs ↔ x ∈ xs
  | [] => Iff.rfl
  | y :: xs => by
    unfold sdup
    split
    · rename_i hy
      rw [mem_sdup, List.mem_cons]
      exact ⟨.inr, fun h => h.elim (fun e => e ▸ hy) id⟩
    · rw [List.mem_cons, List.mem_cons, mem_sdup]
theorem nodup_sdup : ∀ {xs : List Str}, (sdup xs).Nodup
  | [] => .nil
  | y :: xs => by
    unfold sdup
    split
    · exact nodup_sdup
    · rename_i hy
      exact List.nodup_cons.mpr ⟨fun h => hy (mem_sdup.mp h), nodup_sdup⟩
/-- sorted(set(xs)) -/
def setSortS (xs : List Str) : List Str := (sdup xs).mergeSort leS
theorem setSortS_of {L xs : List Str} (nd : L.Nodup) (h : ∀ x, x ∈ L ↔ x ∈ xs) : L.mergeSort leS = setSortS xs :=
  leS_uniq ((List.perm_ext_iff_of_nodup nd nodup_sdup).mpr fun x => by rw [h x, mem_sdup])
abbrev isTx (v : Value) (x : Str) : Prop := ∃ tk, v = Value.str x tk
theorem tx_vals : ∀ {vs : List Value} {xs : List Str}, EachIs isTx vs xs → Vals (xs.map V.str) vs
  | _, _, .nil => .nil
  | _, _, .cons ⟨tk, e⟩ t => .cons ⟨tk, e⟩ (tx_vals t)
theorem tx_each : ∀ vs : List Value, (∀ v ∈ vs, ∃ x tk, v = Value.str x tk) → EachIs isTx vs (vs.map txt)
  | [], _ => .nil
  | v :: vs, h => by
    obtain ⟨x, tk, rfl⟩ := h v List.mem_cons_self
    exact .cons ⟨tk, rfl⟩ (tx_each vs fun u hu => h u (List.mem_cons_of_mem _ hu))
section
variable {P : Program} {w : World} {A : Around} {E : Value → Shared → Prop} {s : Shared}
theorem sorted_setTx {a : Addr} {L : List Str} {Q : Value → Shared → Prop} (R : TxSet w s.heap a L) (hh : A.handled = none) (hu : A.units + 60 < cLine)
    (hQ : ∀ s' p (out : Array Value) (c : Nat) (L' : List Str), (∀ b o, s.heap.get? b = some o → s'.heap.get? b = some o) → s'.gens = s.gens → s'.os = s.os → s.heap.objs.size ≤ p →
      s'.heap.get? p = some (seqObj "list" out c) → EachIs isTx out.toList L' → L'.length ≤ sizeLine → L' = L.mergeSort leS → Q (.ref p) s') :
    wpAny (model P w) A (call (.builtin "sorted") [.ref a]) Q E s := by
  obtain ⟨es, ep, t, ⟨o, ho, hex, hd⟩, W, T⟩ := R
  refine Calls.call_function_entry kind_sorted plain_sorted entry_sorted (args_sorted1 _) ?_
  unfold Builtin.«sorted»
  refine wpAny_bind (m := checkCount "sorted" 1 1 _) (wpAny_pure (wpAny_bind (collect_set (A := A.in1) hh ⟨o, ho, hex.1, hd⟩ T.fit T.few T.ris T.led fun s1 vs k1 z1 g1 o1 pm => ?_)))
  have allT : ∀ v ∈ vs, ∃ x tk, v = Value.str x tk := by
    intro v hv
    obtain ⟨e, he, q⟩ := List.mem_map.mp (pm.mem_iff.mp hv)
    obtain ⟨x, tk, e2⟩ := W.row e he
    exact ⟨x, tk, by rw [← q, e2]⟩
  have each := tx_each vs allT
  have pL : (vs.map txt).Perm L := by
    have := pm.map txt
    rw [List.map_map] at this
    exact this.trans W.one
  have len : vs.length ≤ sizeLine := by
    rw [pm.length_eq, List.length_map, Array.length_toList]
    exact fits_of_scanBound T.few
  refine wpAny_bind (wpAny_newList ?_ len)
  have oL : (s1.heap.push (seqObj "list" vs.toArray 0)).get? s1.heap.objs.size = some (seqObj "list" vs.toArray 0) := Heap.get?_push_size _ rfl
  refine wpAny_bind (wpAny_holding (PySem.W.list_sort_data (enc := PyData.str) (bs := vs.map txt) (R := isTx) (s := { s1 with heap := s1.heap.push (seqObj "list" vs.toArray 0) }) oL each (each_and each fun v x _ e => ?_) (fun d hd d' hd' => ?_) (.inr fun d hd => ?_) (by rw [List.length_map]; exact len) (fun x _ => ?_) fun out a1 a2 => ?_))
  · obtain ⟨tk, rfl⟩ := e
    exact ⟨[], Reads.str x tk, by simp⟩
  · obtain ⟨x, _, rfl⟩ := List.mem_map.mp hd
    obtain ⟨y, _, rfl⟩ := List.mem_map.mp hd'
    rfl
  · obtain ⟨x, _, rfl⟩ := List.mem_map.mp hd
    exact ⟨fun h => (by cases h), fun xs h => (by cases h)⟩
  · show _ + 1 + (PyData.str x).depth < _
    rw [show (PyData.str x).depth = 0 from by first | rfl | simp [PyData.depth]]
    show A.units + 1 + 1 + 0 < _
    omega
  · obtain ⟨c, hc⟩ := sortedHeap_at (vs := vs) (out := out.toArray) oL
    refine wpAny_pure ⟨_, rfl, hQ _ s1.heap.objs.size out.toArray c _ (fun b u e => ?_) g1 o1 z1 hc a2 (by rw [(List.mergeSort_perm _ _).length_eq, List.length_map]; exact len) (leS_uniq pL)⟩
    have q := k1 b u e
    have lt := Heap.lt_size q
    show (sortedHeap (s1.heap.push (seqObj "list" _ 0)) s1.heap.objs.size _ out.toArray).get? b = some u
    rw [sortedHeap_old (Nat.ne_of_lt lt) (by rw [size_push']; exact Nat.lt_succ_of_lt lt)]
    exact Heap.get?_push_of_some _ q
end
section
variable {C : Cx}
def TxO (w : World) (a : Addr) (L : List Str) : HO := .ext fun h => TxSet w h a L
theorem txo_new {P : Program} {w : World} {H : Hp} {h : Heap} {a : Addr} {L : List Str} (R : TxSet w h a L) : ObjOk P w H h a (TxO w a L) := by
  obtain ⟨es, ep, t, ⟨o, ho, _⟩, _⟩ := id R
  exact ⟨R, ⟨o, ho⟩, fun h1 h2 p k => TxSet.keep p k⟩
def rSetTx (K : PySem.W.Frag) (w : World) : List V → Hp → VK → Prop := fun vs H Q => ∃ (l : Addr) (xs : List Str), vs = [V.ref l] ∧ SqL K H l (xs.map V.str) ∧ xs.length < 4000 ∧
  ∀ a L, H a = none → L.Nodup → (∀ x, x ∈ L ↔ x ∈ xs) → Q (.ref a) (upd H a (TxO w a L))
theorem cr_setTx (hc : C.calm = true) : CallR C (.type "set") (rSetTx C.K C.w) := by
  intro pins s σ H vs us Q I r h
  obtain ⟨l, xs, rfl, hl, hn, q⟩ := h
  rw [Vals.ref1 r]
  obtain ⟨its, rv, pl, hz⟩ := I.list hl
  have new : H s.heap.objs.size = none := I.hok.fresh (Nat.le_refl _)
  refine call_setTx (P := C.prog) (w := C.w) (I.ok.hd hc) pl.isList (xs := xs) (by simpa using strsAre_of rv) (by unfold scanBound; omega) fun h' tk L R is _ kp => ?_
  have nd : L.Nodup := by
    obtain ⟨es, ep, t, _, W, _⟩ := R
    exact W.nd
  exact ⟨.ref s.heap.objs.size, upd H s.heap.objs.size (TxO C.w s.heap.objs.size L), I.laid (t' := tk) kp (Nat.le_refl _) (txo_new R), rfl, q _ L new nd is⟩
def rSortTx (w : World) : List V → Hp → VK → Prop := fun vs H Q => ∃ (a : Addr) (L : List Str), vs = [V.ref a] ∧ H a = some (TxO w a L) ∧ ∀ p, H p = none → Q (.ref p) (upd H p (.lst ((L.mergeSort leS).map V.str)))
theorem cr_sortTx (hc : C.calm = true) (hu : C.A.units + 60 < cLine) : CallR C (.builtin "sorted") (rSortTx C.w) := by
  intro pins s σ H vs us Q I r h
  obtain ⟨a, L, rfl, ha, q⟩ := h
  have R : TxSet C.w s.heap a L := (I.hok a _ ha).1
  rw [Vals.ref1 r]
  refine sorted_setTx R (I.ok.hd hc) hu fun s' p out c L' k g o hp hg each len e1 => ?_
  have new : H p = none := I.hok.fresh hp
  have J : Inv C pins σ (upd H p (.lst (L'.map V.str))) { s with heap := s'.heap, gens := s'.gens, drawn := s'.drawn, toks := s'.toks } :=
    I.call (ch := []) (Un.laid k hp new) (I.hok.laid k hp ⟨by rw [List.length_map]; exact len, out.toList, c, tx_vals each, hg⟩) (by rw [g]; exact I.bare) (fun _ z => nomatch z)
  have e : s' = { s with heap := s'.heap, gens := s'.gens, drawn := s'.drawn, toks := s'.toks } := by
    cases s'
    cases s
    cases o
    rfl
  rw [e]
  rw [e1] at J
  exact ⟨.ref p, _, J, rfl, q p new⟩
def txs : List PyData → Option (List Str)
  | [] => some []
  | .str x :: ds => (txs ds).map (x :: ·)
  | _ :: _ => none
theorem txs_eq : ∀ {ds : List PyData} {xs : List Str}, txs ds = some xs → ds = xs.map .str
  | [], xs, h => by cases h; rfl
  | d :: ds, xs, h => by
    unfold txs at h
    split at h
    · rename_i e; cases e
    · rename_i x ds' e
      cases e
      obtain ⟨k, e1, e2⟩ := mapS h
      cases e2
      rw [List.map_cons, ← txs_eq e1]
    · cases h
theorem txs_map (xs : List Str) : txs (xs.map .str) = some xs := by
  induction xs with
  | nil => rfl
  | cons x xs ih =>
    show (txs (xs.map .str)).map (x :: ·) = _
    rw [ih]
    rfl
def setSortSD (d : D) : Option D := match fz d with
  | some (.list ds) => match txs ds with
    | some xs => if xs.length < 4000 then some (.l ((setSortS xs).map fun x => .p (.str x))) else none
    | none => none
  | _ => none
theorem dq_txs {K : PySem.W.Frag} {H : Hp} : ∀ {xs : List Str} {vs : List V}, DqAll K H vs (xs.map .str) → vs = xs.map V.str
  | [], _, h => by cases h; rfl
  | x :: xs, _, h => by
    cases h with
    | cons h t =>
      cases h
      rw [dq_txs t, List.map_cons]
theorem SL.texts {K : PySem.W.Frag} {H : Hp} {X : List (D × V)} (S : SL K H X) : ∀ (xs : List Str), SL K H (((xs.map fun x => D.p (.str x)).zip (xs.map V.str)) ++ X)
  | [] => S
  | x :: xs => (SL.texts S xs).flat fun _ => .str x
theorem setsortS_run {K : PySem.W.Frag} {w : World} {vs : List V} {H : Hp} {Q : VK} (h : okC K (un1 setSortSD) vs H Q) : rSetTx K w vs H fun v H1 => rSortTx w [v] H1 Q := by
  obtain ⟨L, ds, d, hl, S, e, k⟩ := h
  unfold un1 at e
  split at e
  · rename_i dx
    match vs, hl, S with
    | [x], _, S =>
      have S : SL K H ((dx, x) :: L) := S
      unfold setSortSD at e
      split at e
      · rename_i qs eq
        split at e
        · rename_i xs ek
          split at e
          · rename_i ho
            cases e
            obtain rfl := txs_eq ek
            obtain ⟨a, us, rfl, hx, hl, S2⟩ := (S.frz eq).itemsL
            obtain rfl := dq_txs (SL.dpAll hl (S2.perm List.perm_middle).drop)
            have S3 : SL K H L := S2.dropA.drop
            refine ⟨a, xs, rfl, hx, ho, fun b M hb nd is => ⟨b, M, rfl, upd_same, fun p hp => k _ _ ?_⟩⟩
            have S4 := (S3.grow (same_upd (o := TxO w b M) hb)).newc (vs := (M.mergeSort leS).map V.str) hp
            have ez := setSortS_of nd is
            refine SL.close (vs := (M.mergeSort leS).map V.str) (by simp [← ez]) ?_
            rw [← ez]
            exact (SL.texts S4 (M.mergeSort leS)).perm List.perm_middle
          · cases e
        · cases e
      · cases e
  · cases e
/-- sorted(set(e)), a list of texts -/
theorem ee_sortsetS {e : Expr} {fa : MA} {ls : List (Option Nat)} {p p2 pos pos2 : Pos} (hc : C.calm = true) (hu : C.A.units + 64 < cLine) (hg : Gl C "sorted") (hm : C.mg "sorted" = none) (hv : bootBuiltins "sorted" = some (.builtin "sorted")) (zg : Gl C "set") (zm : C.mg "set" = none) (zv : bootBuiltins "set" = some (.type "set"))
    (ha : PA C [e] (okA C.K ls fa))
    (he : starEach [e] C.env = (false, eval e C.env) :: starEach [] C.env := by rfl) (hpl : (backTo pos2 (starEach [] C.env)).any (·.1) = false := by rfl)
    (he2 : starEach [.Call (.Name "set" p2) [e] [] pos2] C.env = (false, eval (.Call (.Name "set" p2) [e] [] pos2) C.env) :: starEach [] C.env := by rfl) (hpl2 : (backTo pos (starEach [] C.env)).any (·.1) = false := by rfl) :
    PE C (.Call (.Name "sorted" p) [.Call (.Name "set" p2) [e] [] pos2] [] pos) (okE C.K (appD (un1 setSortSD) fa)) :=
  (pe_callB (cr_sortTx hc (by omega)) hg hm hv (pa_cons (pe_callTy (cr_setTx hc) zg zm zv ha (by decide) (by decide) he hpl) pa_nil he2) (by decide) (by decide) he2 hpl2).gimp fun σ H Q h => by
    obtain ⟨Γ, X, d, Γ', F, S, e, k⟩ := app_run h
    exact ⟨Γ, X, d, Γ', F, S, e, fun H1 vs F1 hl hL S1 => setsortS_run (k H1 vs F1 hl hL S1)⟩
end
end GH
namespace GH
open PySem L2
/-! ### owned dicts whose text keys come as they come -/
def kix (x : Str) : List Str → Option Nat
  | [] => none
  | k :: ks => if k = x then some 0 else (kix x ks).map (· + 1)
theorem kix_at {x : Str} : ∀ {ks : List Str} {c : Nat}, kix x ks = some c → ks[c]? = some x
  | [], _, h => by cases h
  | k :: ks, c, h => by
    unfold kix at h
    split at h
    · rename_i e
      cases h
      rw [e] <;> rfl
    · obtain ⟨i, e1, e2⟩ := mapS h
      subst e2
      simpa using kix_at e1
theorem kix_none {x : Str} : ∀ {ks : List Str}, kix x ks = none ↔ x ∉ ks
  | [] => by simp [kix]
  | k :: ks => by
    unfold kix
    split
    · rename_i e
      simp [e]
    · rename_i e
      rw [Option.map_eq_none_iff, kix_none]
      rw [List.mem_cons, not_or]
      exact ⟨fun h => ⟨fun z => e z.symm, h⟩, And.right⟩
def dput (ks : List Str) (xs : List D) (x : Str) (d : D) : D := match kix x ks with
  | some c => .m ks (xs.set c d)
  | none => .m (ks ++ [x]) (xs ++ [d])
def newM : M := fun Γ => some (.m [] [], Γ)
def keysM (i : Nat) : M := fun Γ => match Γ[i]? with
  | some (some (.m ks _)) => some (.l (ks.map fun x => .p (.str x)), Γ)
  | _ => none
def putZ (i : Nat) (d : D) (t : D × Nv) : Option Out := match t.1, t.2[i]? with
  | .p (.str x), some (some (.m ks xs)) => if ks.Nodup ∧ ks.length < 1000 then some (.nx (t.2.set i (some (dput ks xs x d)))) else none
  | _, _ => none
def putY (i : Nat) (fk fe : M) : MS := fun Γ => (fe Γ).bind fun r => match r.2[i]? with
  | some (some _) => (fk r.2).bind (putZ i r.1)
  | _ => none
section
variable {C : Cx} {e ek : Expr} {fk fe : M} {pos p p2 : Pos} {i : Nat} {K : PySem.W.Frag} {H : Hp} {Γ : Nv} {σ : St} {X L : List (D × V)}
theorem ee_newM : PE C (.Dict [] [] pos) (okE C.K newM) := pe_dnewK.gimp fun σ H Q ⟨Γ, X, d, Γ', F, S, e, k⟩ => by
  cases e
  exact fun a hn => k _ _ F (SL.closek (ks := []) (ds := []) (vs := []) rfl (S.newk hn))
theorem dks_strs {ks : List Str} {vs : List V} (h : ks.length = vs.length) : (dks ks vs).map (fun kv => kV kv.1) = ks.map V.str := by
  have := congrArg (List.map kV) (dks_fst h)
  rw [List.map_map, List.map_map] at this
  exact this
theorem ee_keysM {x : Str} (hc : C.calm = true) (hg : Gl C "list") (hm : C.mg "list" = none) (hv : bootBuiltins "list" = some (.type "list")) (hx : PE C (.Name x p2) (tVar i)) (he : starEach [.Name x p2] C.env = (false, eval (.Name x p2) C.env) :: starEach [] C.env := by rfl)
    (hpl : (backTo pos (starEach [] C.env)).any (·.1) = false := by rfl) : PE C (.Call (.Name "list" p) [.Name x p2] [] pos) (okE C.K (keysM i)) :=
  (pe_callTy (call_list_dK hc) hg hm hv (pa_cons hx pa_nil he) (by decide) (by decide) he hpl).gimp fun σ H Q ⟨Γ, X, d, Γ', F, S, e, k⟩ => by
    unfold keysM at e
    split at e
    · rename_i ks xs ex
      cases e
      obtain ⟨v, hv, S1⟩ := S.take F ex
      obtain ⟨a, vs, rfl, ha, hk, hl, S2⟩ := S1.openk
      refine ⟨_, hv, a, dks ks vs, rfl, ha, fun q hq => k _ _ F ?_⟩
      rw [dks_strs hk]
      have S3 := SL.texts (S.newc (vs := ks.map V.str) hq) ks
      exact SL.close (vs := ks.map V.str) (by simp) (S3.perm List.perm_middle)
    · cases e
theorem dks_snoc {ks : List Str} {vs : List V} {x : Str} {v : V} (h : ks.length = vs.length) : dks ks vs ++ [((.inr x : Key), v)] = dks (ks ++ [x]) (vs ++ [v]) := by
  unfold dks
  rw [List.map_append, List.zip_append (by rw [List.length_map, h])]
  rfl
theorem SL.put1 {ks : List Str} {xs : List D} {vs : List V} {x : Str} {d : D} {v : V} {a : Addr} (hk : ks.length = vs.length) (hl : xs.length = vs.length) (S : SL K H ((.k ks vs, .ref a) :: (xs.zip vs ++ ((d, v) :: L)))) :
    SL K (upd H a (.dK (dks (ks ++ [x]) (vs ++ [v])))) ((.m (ks ++ [x]) (xs ++ [d]), .ref a) :: L) := by
  have S1 := S.writek (ks' := ks ++ [x]) (vs' := vs ++ [v]) (by simp [hk])
  refine SL.closek (by simp [hl]) (S1.perm (List.Perm.cons _ ?_))
  rw [List.zip_append hl, List.append_assoc]
  exact List.Perm.refl _
theorem SL.put0 {ks : List Str} {xs : List D} {vs : List V} {c : Nat} {d : D} {v : V} {a : Addr} (hk : ks.length = vs.length) (hl : xs.length = vs.length) (hc : c < vs.length) (S : SL K H ((.k ks vs, .ref a) :: (xs.zip vs ++ ((d, v) :: L)))) :
    SL K (upd H a (.dK (dks ks (vs.set c v)))) ((.m ks (xs.set c d), .ref a) :: L) := by
  have hx : c < xs.length := by omega
  have P1 := zip_erase (xs := xs) (us := vs) (List.getElem?_eq_getElem hx) (List.getElem?_eq_getElem hc)
  have P2 : ((d, v) :: (xs.eraseIdx c).zip (vs.eraseIdx c)).Perm ((xs.set c d).zip (vs.set c v)) := by
    have q := zip_put (xs := xs) (us := vs.set c v) (k := c) (d := d) (y := v) hx (get_set hc)
    rwa [List.eraseIdx_set_eq] at q
  have S1 := (S.writek (ks' := ks) (vs' := vs.set c v) (by simp [hk])).perm (List.Perm.cons _ ((P1.append_right _).trans (List.Perm.cons _ (List.perm_middle))))
  have S2 : SL K (upd H a (.dK (dks ks (vs.set c v)))) ((.k ks (vs.set c v), .ref a) :: ((d, v) :: (xs.eraseIdx c).zip (vs.eraseIdx c) ++ L)) := (S1.perm (.swap _ _ _)).drop.perm (List.Perm.refl _)
  exact SL.closek (by simp [hl]) (S2.perm (List.Perm.cons _ (P2.append_right _)))
/-- x[key] = e, the key a text -/
theorem es_putY {x : Str} {pos' : Pos} {ro : Nat → Prop} (hu : C.A.units + 1 < cLine) (hv : PE C (.Name x p) (tVar i)) (hk : PE C ek (okE C.K fk)) (he : PE C e (okE C.K fe))
    (hs : swapsWith e (some (.Subscript (.Name x p) ek pos')) pos.line C.env = pure false := by rfl) : PS C (.Assign [.Subscript (.Name x p) ek pos'] e pos) (okS C.K ro (putY i fk fe)) :=
  (ps_dput hu hv hk he hs).gimp fun D σ H ⟨Γ, X, out, F, S, e, k⟩ => by
  obtain ⟨⟨d, Γ1⟩, e1, e⟩ := bindS e
  refine ⟨Γ, X, d, Γ1, F, S, e1, fun H1 v F1 S1 => ?_⟩
  dsimp only at e
  split at e
  · rename_i d0 e0
    obtain ⟨⟨t, Γ2⟩, e2, e⟩ := bindS e
    have S0 : SL C.K H1 (slots Γ1 σ ++ ((d, v) :: X)) := S1.perm List.perm_middle.symm
    obtain ⟨u, hu, _⟩ := S0.take F1 e0
    refine ⟨u, hu, Γ1, (d, v) :: X, t, Γ2, F1, S0, e2, fun H2 y F2 S2 => ?_⟩
    unfold putZ at e
    split at e
    · rename_i x0 ks xs et ex
      dsimp only at et ex
      subst et
      split at e
      · rename_i hok
        cases e
        have hi := (List.getElem?_eq_some_iff.mp ex).1
        cases S2.dp
        obtain ⟨u', hu', S3⟩ := S2.drop.take F2 ex
        obtain rfl : u = u' := by rw [hu] at hu'; exact Option.some.inj (Option.some.inj hu')
        obtain ⟨a, vs, rfl, ha, hk, hl, S4⟩ := S3.openk
        have S5 : SL C.K H2 ((.k ks vs, .ref a) :: (xs.zip vs ++ ((d, v) :: (slots (Γ2.set i none) σ ++ X)))) := S4.perm (List.Perm.cons _ (List.Perm.append_left _ List.perm_middle))
        have hlen : (dks ks vs).length < sizeLine := by
          rw [dks_len hk, lineM]
          omega
        refine ⟨a, _, rfl, DPut.k (k := .inr x0) ha hlen, ?_⟩
        unfold dput at k
        cases hx : kix x0 ks with
        | some c =>
          rw [hx] at k
          have hc : c < ks.length := (List.getElem?_eq_some_iff.mp (kix_at hx)).1
          rw [dks_put hk hok.1 (kix_at hx)]
          have S6 := SL.back (i := i) (SL.put0 hk hl (by rw [← hk]; exact hc) S5) (get_set hi) hu
          rw [List.set_set] at S6
          exact k _ σ .refl (F2.put hu) S6
        | none =>
          rw [hx] at k
          have hn := kix_none.mp hx
          rw [put_new (fun p hp z => by
            obtain ⟨k', hk', e⟩ := dks_keys hp
            exact hn (Sum.inr.inj (e.symm.trans z) ▸ hk')), dks_snoc hk]
          have S6 := SL.back (i := i) (SL.put1 (x := x0) hk hl S5) (get_set hi) hu
          rw [List.set_set] at S6
          exact k _ σ .refl (F2.put hu) S6
      · cases e
    · cases e
  · cases e
end
/-! evaluation rules -/
section
variable {Γ : Nv} {Q : KD} {N B C' : Nv → Prop} {R : KD} {fk fe : M} {ks : List Str} {xs : List D} {i : Nat}
theorem w_newM (k : Q (.m [] []) Γ) : wE newM Γ Q := ⟨_, _, rfl, k⟩
theorem w_keysM (h : Γ[i]? = some (some (.m ks xs))) (k : Q (.l (ks.map fun x => .p (.str x))) Γ) : wE (keysM i) Γ Q := ⟨_, _, by unfold keysM; rw [h], k⟩
theorem w_putY (k : wE fe Γ fun d Γ1 => (∃ d0, Γ1[i]? = some (some d0)) ∧ wE fk Γ1 fun t Γ2 => ∃ x ks xs, t = .p (.str x) ∧ Γ2[i]? = some (some (.m ks xs)) ∧ ks.Nodup ∧ ks.length < 1000 ∧ wN (Γ2.set i (some (dput ks xs x d))) N) : wS (putY i fk fe) Γ N R B C' := by
  obtain ⟨d, Γ1, e1, ⟨d0, e0⟩, t, Γ2, e2, x, ks, xs, rfl, ex, h1, h2, k⟩ := k
  refine ⟨.nx (Γ2.set i (some (dput ks xs x d))), ?_, k⟩
  unfold putY
  rw [e1]
  show (match Γ1[i]? with | some (some _) => (fk Γ1).bind (putZ i d) | _ => none) = _
  rw [e0]
  show (fk Γ1).bind (putZ i d) = _
  rw [e2]
  show putZ i d (.p (.str x), Γ2) = _
  unfold putZ
  dsimp only
  rw [ex]
  exact if_pos ⟨h1, h2⟩
end
end GH
namespace GH
open PySem L2 RZ
abbrev deckK : List Str := ["great", "stirred", "made"]
abbrev k_COMPARISONS : PyData := .tuple [(.str "ge"), (.str "gt"), (.str "eq")]
abbrev k_JOINS : PyData := .tuple [(.str "and"), (.str "or")]
abbrev k_QUANTIFIERS : PyData := .tuple [(.str "each"), (.str "some")]
def b_parts_of : MS :=
  (seqS (ifS (isT (bin inD (rdO ixD 0 (ret (.p (.int 0)))) (ret (.p k_COMPARISONS)))) (retS (appD tupD argN)) nxS)
    (retS (ifM (isT (bin inD (rdO ixD 0 (ret (.p (.int 0)))) (ret (.p k_JOINS)))) (rdO ixD 0 (ret (.p (.int 1)))) (sliceN 0 (someP (una negD (ret (.p (.int 1))))) noP))))
def s_parts_of : Fn := runF 1 1 [0] b_parts_of
def m_free_names_1 : Nv → Nat := fun Γ => match (Γ[2]? : Option (Option D)) with | some (some (.l ds)) => (ds.map fun d => match d with | .p (.tuple (q :: _)) => szt q + 1 | _ => 1).sum | _ => 0
def b_free_names : MS :=
  (seqS (parS 1 2 (argC newM (argC (appD lstD (argC (appD tupD (argC (rdM 0) (argC (appD tupD argN) argN))) argN)) argN)))
    (seqS (whileS m_free_names_1 (isT (rdO neD 2 (appD lstD argN))) (seqS (asgS (mutN popD 2 argN) (gtup 2 (gcons (gnm 3) (gcons (gnm 4) gnil))))
    (ifS (isT (bin inD (rdO ixD 3 (ret (.p (.int 0)))) (ret (.p k_COMPARISONS)))) (forS (anyI (bin ixD (rdO ixD 3 (ret (.p (.int 1)))) (ret (.p (.int 0))))) (gtup 2 (gcons (gnm 5) (gcons (gnm 6) gnil))) (ifS (isT (bin notinD (rdM 5) (rdM 4))) (putY 1 (rdM 5) (ret (.p (.bool true)))) nxS)) (ifS (isT (bin inD (rdO ixD 3 (ret (.p (.int 0)))) (ret (.p k_QUANTIFIERS)))) (dropS (mutN appendD 2 (argC (appD tupD (argC (rdO ixD 3 (ret (.p (.int 2)))) (argC (bin addD (rdM 4) (appD tupD (argC (rdO ixD 3 (ret (.p (.int 1)))) argN))) argN))) argN))) (dropS (mutN extendD 2 (argC (lcM [7] (anyI (callM s_parts_of [some 3] (argC (mvM 3) argN))) (gnm 7) yesT (appD tupD (argC (rdM 7) (argC (rdM 4) argN)))) argN)))))))
    (retS (appD (un1 tupleD) (argC (appD (un1 sortD) (argC (keysM 1) argN)) argN)))))
def s_free_names : Fn := runF 8 1 [0] b_free_names
def b__law_sack : MS :=
  (seqS (parS 1 2 (argC (lcM [3] (anyI (sliceN 0 noP (someP (ret (.p (.int 63)))))) (gnm 3) yesT (bin addD (bin smulD (ret (.p (.int 3))) (rdU absD 3)) (appD (un1 intD) (argC (bin ltD (rdM 3) (ret (.p (.int 0)))) argN)))) (argC (bin addD (ret (.p (.int 70921))) (bin smulD (ret (.p (.int 11))) (rdU lenD 0))) argN)))
    (seqS (forS (anyI (rdM 1)) (gnm 3) (asgS (bin modD (appD (un1 intD) (argC (bin addD (bin addD (bin smulD (rdM 2) (ret (.p (.int 69621)))) (rdM 3)) (ret (.p (.int 7)))) argN)) (ret (.p (.int 4294967279)))) (gnm 2)))
    (retS (appD (mkM deckK) (argC (lcM [3] (anyI (rdM 1)) (gnm 3) (isT (bin geD (rdM 3) (bin powD (ret (.p (.int 10))) (ret (.p (.int 15)))))) (bin fdivD (rdM 3) (ret (.p (.int 3))))) (argC (mvM 2) (argC (ret (.p (.int 0))) argN)))))))
def s__law_sack : Fn := runF 4 1 [0] b__law_sack
def b__law_draw : MS :=
  (seqS (ifS (isT (bin ltD (rdM 1) (ret (.p (.int 2))))) (retS (ret (.p (.int 0)))) nxS)
    (seqS (ifS (isT (rdPK neD deckK 0 0 (appD lstD argN))) (seqS (asgS (mutK popD deckK 0 0 argN) (gnm 3))
    (seqS (ifS (isT (bin geD (rdM 3) (rdM 1))) (dropS (mutK appendD deckK 0 0 (argC (bin fdivD (rdM 3) (rdM 1)) argN))) nxS)
    (retS (bin modD (rdU intD 3) (rdM 1))))) nxS)
    (seqS (setK deckK 0 2 (bin addD (rdK deckK 0 2) (ret (.p (.int 1)))))
    (seqS (asgS (bin modD (appD (un1 intD) (argC (bin addD (rdK deckK 0 1) (bin smulD (ret (.p (.int 2654435761))) (rdK deckK 0 2))) argN)) (ret (.p (.int 4294967291)))) (gnm 2))
    (seqS (asgS (bin modD (appD (un1 intD) (argC (bin addD (bin addD (bin smulD (rdM 2) (rdM 2)) (bin smulD (ret (.p (.int 16807))) (rdK deckK 0 2))) (ret (.p (.int 31)))) argN)) (ret (.p (.int 4294967231)))) (gnm 2))
    (seqS (asgS (bin modD (appD (un1 intD) (argC (bin addD (bin smulD (rdM 2) (rdM 2)) (rdK deckK 0 1)) argN)) (ret (.p (.int 4294967197)))) (gnm 2))
    (retS (bin modD (appD (un1 intD) (argC (bin fdivD (rdM 2) (ret (.p (.int 512)))) argN)) (rdM 1)))))))))
def s__law_draw : Fn := runF 4 2 [0, 1] b__law_draw
def b__law_pick : MS :=
  (retS (rdO ixD 1 (callM s__law_draw [some 0, none] (argC (mvM 0) (argC (rdU lenD 1) argN)))))
def s__law_pick : Fn := runF 2 2 [0, 1] b__law_pick
def m__law_gcd_1 : Nv → Nat := fun Γ => match (Γ[3]? : Option (Option D)) with | some (some (.p (.int b))) => b.natAbs + 1 | _ => 0
def b__law_gcd : MS :=
  (seqS (parS 2 3 (argC (rdU absD 0) (argC (rdU absD 1) argN)))
    (seqS (whileS m__law_gcd_1 (isT (rdO neD 3 (ret (.p (.int 0))))) (parS 2 3 (argC (rdM 3) (argC (bin modD (rdU intD 2) (rdM 3)) argN))))
    (retS (mvM 2))))
def s__law_gcd : Fn := runF 4 2 [0, 1] b__law_gcd
def b__law_ratio : MS :=
  (seqS (asgS (ifM (isT (bin gtD (rdM 1) (ret (.p (.int 0))))) (callM s__law_gcd [some 0, some 1] (argC (mvM 0) (argC (mvM 1) argN))) (una negD (callM s__law_gcd [some 0, some 1] (argC (mvM 0) (argC (mvM 1) argN))))) (gnm 2))
    (retS (appD tupD (argC (bin fdivD (rdM 0) (rdM 2)) (argC (bin fdivD (rdM 1) (rdM 2)) argN)))))
def s__law_ratio : Fn := runF 3 2 [0, 1] b__law_ratio
def b__law_fraction : MS :=
  (seqS (asgS (callM s__law_pick [some 0, none] (argC (mvM 0) (argC (bin addD (appD lstD (argC (ret (.p (.int 1))) (argC (ret (.p (.int 1))) (argC (una negD (ret (.p (.int 1)))) (argC (ret (.p (.int 2))) (argC (una negD (ret (.p (.int 3)))) (argC (ret (.p (.int 5))) (argC (una negD (ret (.p (.int 7)))) (argC (ret (.p (.int 12))) argN))))))))) (bin smulD (appD lstD (argC (ret (.p (.int 0))) (argC (ret (.p (.int 0))) argN))) (rdU intD 1))) argN))) (gnm 2))
    (seqS (ifS (isT (bin eqD (callM s__law_draw [some 0, none] (argC (mvM 0) (argC (ret (.p (.int 30))) argN))) (ret (.p (.int 0))))) (asgS (bin addD (bin smulD (rdM 2) (bin powD (ret (.p (.int 10))) (ret (.p (.int 30))))) (callM s__law_pick [some 0, none] (argC (mvM 0) (argC (appD lstD (argC (ret (.p (.int 1))) (argC (una negD (ret (.p (.int 1)))) argN))) argN)))) (gnm 2)) nxS)
    (retS (callM s__law_ratio [some 2, none] (argC (mvM 2) (argC (callM s__law_pick [some 0, none] (argC (mvM 0) (argC (appD lstD (argC (ret (.p (.int 1))) (argC (ret (.p (.int 1))) (argC (ret (.p (.int 1))) (argC (ret (.p (.int 2))) (argC (ret (.p (.int 3))) (argC (ret (.p (.int 10))) argN))))))) argN))) argN))))))
def s__law_fraction : Fn := runF 3 2 [0, 1] b__law_fraction
def b__law_sum : MS :=
  (seqS (asgS (lcM [3] (anyI (appD (un1 sortD) (argC (rdM 1) argN))) (gnm 3) (isT (bin ltD (callM s__law_draw [some 0, none] (argC (mvM 0) (argC (ret (.p (.int 5))) argN))) (ret (.p (.int 2))))) (appD tupD (argC (rdM 3) (argC (callM s__law_fraction [some 0, none] (argC (mvM 0) (argC (ret (.p (.bool false))) argN))) argN)))) (gnm 2))
    (retS (appD tupD (argC (appD (un1 tupleD) (argC (rdM 2) argN)) (argC (callM s__law_fraction [some 0, none] (argC (mvM 0) (argC (ret (.p (.bool true))) argN))) argN)))))
def s__law_sum : Fn := runF 4 2 [0, 1] b__law_sum
def b__law_tree (r__law_tree : Fn) : MS :=
  (seqS (asgS (ifM (isT (bin gtD (rdM 2) (ret (.p (.int 1))))) (callM s__law_draw [some 0, none] (argC (mvM 0) (argC (ret (.p (.int 12))) argN))) (callM s__law_draw [some 0, none] (argC (mvM 0) (argC (ret (.p (.int 4))) argN)))) (gnm 3))
    (seqS (ifS (isT (bin ltD (rdM 3) (ret (.p (.int 3))))) (retS (appD tupD (argC (callM s__law_pick [some 0, none] (argC (mvM 0) (argC (appD lstD (argC (ret (.p (.str "ge"))) (argC (ret (.p (.str "gt"))) (argC (ret (.p (.str "eq"))) argN)))) argN))) (argC (callM s__law_sum [some 0, some 1] (argC (mvM 0) (argC (mvM 1) argN))) argN)))) nxS)
    (seqS (ifS (isT (rdO eqD 3 (ret (.p (.int 3))))) (retS (appD tupD (argC (callM s__law_pick [some 0, none] (argC (mvM 0) (argC (appD lstD (argC (ret (.p (.str "and"))) (argC (ret (.p (.str "or"))) argN))) argN))) (argC (appD tupD argN) argN)))) nxS)
    (seqS (ifS (isT (bin ltD (rdM 3) (ret (.p (.int 6))))) (retS (appD tupD (argC (ret (.p (.str "not"))) (argC (callM r__law_tree [some 0, some 1, none] (argC (mvM 0) (argC (mvM 1) (argC (bin subD (rdM 2) (ret (.p (.int 1)))) argN)))) argN)))) nxS)
    (seqS (ifS (isT (bin ltD (rdM 3) (ret (.p (.int 9))))) (seqS (asgS (callM s__law_pick [some 0, none] (argC (mvM 0) (argC (appD lstD (argC (ret (.p (.int 2))) (argC (ret (.p (.int 2))) (argC (ret (.p (.int 2))) (argC (ret (.p (.int 3))) argN))))) argN))) (gnm 4))
    (retS (appD tupD (argC (callM s__law_pick [some 0, none] (argC (mvM 0) (argC (appD lstD (argC (ret (.p (.str "and"))) (argC (ret (.p (.str "or"))) argN))) argN))) (argC (appD (un1 tupleD) (argC (lcM [5] (rng1 (argC (rdM 4) argN)) (gnm 5) yesT (callM r__law_tree [some 0, some 1, none] (argC (mvM 0) (argC (mvM 1) (argC (bin subD (rdM 2) (ret (.p (.int 1)))) argN))))) argN)) argN))))) nxS)
    (retS (appD tupD (argC (callM s__law_pick [some 0, none] (argC (mvM 0) (argC (appD lstD (argC (ret (.p (.str "each"))) (argC (ret (.p (.str "some"))) argN))) argN))) (argC (callM s__law_pick [some 0, some 1] (argC (mvM 0) (argC (mvM 1) argN))) (argC (callM r__law_tree [some 0, some 1, none] (argC (mvM 0) (argC (mvM 1) (argC (bin subD (rdM 2) (ret (.p (.int 1)))) argN)))) argN))))))))))
def sr__law_tree : Nat → Fn
  | 0 => fun _ => none
  | d + 1 => runF 6 3 [0, 1, 2] (b__law_tree (sr__law_tree d))
def s__law_tree : Fn := sr__law_tree 10

def b__law_nodes (r__law_nodes : Fn) : MS :=
  (seqS (ifS (isT (bin inD (rdO ixD 0 (ret (.p (.int 0)))) (appD tupD (argC (ret (.p (.str "ge"))) (argC (ret (.p (.str "gt"))) (argC (ret (.p (.str "eq"))) argN)))))) (retS (ret (.p (.int 1)))) nxS)
    (retS (bin addD (ret (.p (.int 1))) (appD (un1 sumD) (argC (lcM [1] (anyI (ifM (isT (bin notinD (rdO ixD 0 (ret (.p (.int 0)))) (appD tupD (argC (ret (.p (.str "and"))) (argC (ret (.p (.str "or"))) argN))))) (appD lstD (argC (rdO ixD 0 (una negD (ret (.p (.int 1))))) argN)) (rdO ixD 0 (ret (.p (.int 1)))))) (gnm 1) yesT (callM r__law_nodes [some 1] (argC (mvM 1) argN))) argN)))))
def sr__law_nodes : Nat → Fn
  | 0 => fun _ => none
  | d + 1 => runF 2 1 [0] (b__law_nodes (sr__law_nodes d))
def s__law_nodes : Fn := sr__law_nodes 12

def b__law_formula : MS :=
  (seqS (asgS (callM s__law_tree [some 0, some 1, some 2] (argC (mvM 0) (argC (mvM 1) (argC (mvM 2) argN)))) (gnm 3))
    (retS (ifM (isT (bin leD (callM s__law_nodes [some 3] (argC (mvM 3) argN)) (ret (.p (.int 60))))) (rdM 3) (appD tupD (argC (ret (.p (.str "not"))) (argC (callM s__law_tree [some 0, some 1, none] (argC (mvM 0) (argC (mvM 1) (argC (ret (.p (.int 2))) argN)))) argN))))))
def s__law_formula : Fn := runF 4 3 [0, 1, 2] b__law_formula
def m__law_mixed_1 : Nv → Nat := fun Γ => match (Γ[2]? : Option (Option D)) with | some (some (.l xs)) => xs.length + 1 | _ => 0
def b__law_mixed : MS :=
  (seqS (parS 2 3 (argC (appD (un1 listD) (argC (rdM 1) argN)) (argC (appD lstD argN) argN)))
    (seqS (whileS m__law_mixed_1 (isT (rdO neD 2 (appD lstD argN))) (dropS (mutN appendD 3 (argC (mutN popAtD 2 (argC (callM s__law_draw [some 0, none] (argC (mvM 0) (argC (rdU lenD 2) argN))) argN)) argN))))
    (retS (mvM 3))))
def s__law_mixed : Fn := runF 4 2 [0, 1] b__law_mixed
def b__law_names : MS :=
  (retS (sliceM (callM s__law_mixed [some 0, none] (argC (mvM 0) (argC (appD lstD (argC (ret (.p (.str "x"))) (argC (ret (.p (.str "y"))) (argC (ret (.p (.str "z"))) (argC (ret (.p (.str "a"))) (argC (ret (.p (.str "b2"))) (argC (ret (.p (.str "v1"))) (argC (ret (.p (.str "v2"))) (argC (ret (.p (.str "v3"))) (argC (ret (.p (.str "all"))) (argC (ret (.p (.str "order"))) (argC (ret (.p (.str "note"))) (argC (ret (.p (.str "abcdefgh"))) argN))))))))))))) argN))) noP (someP (ret (.p (.int 3))))))
def s__law_names : Fn := runF 1 1 [0] b__law_names
def b__law_free (r__law_free : Fn) : MS :=
  (seqS (asgS (rdO ixD 0 (ret (.p (.int 0)))) (gnm 2))
    (seqS (ifS (isT (bin inD (rdM 2) (appD tupD (argC (ret (.p (.str "ge"))) (argC (ret (.p (.str "gt"))) (argC (ret (.p (.str "eq"))) argN)))))) (retS (lcM [5, 6] (anyI (bin ixD (rdO ixD 0 (ret (.p (.int 1)))) (ret (.p (.int 0))))) (gtup 2 (gcons (gnm 5) (gcons (gnm 6) gnil))) (isT (bin notinD (rdM 5) (rdM 1))) (rdM 5))) nxS)
    (seqS (ifS (isT (rdO eqD 2 (ret (.p (.str "not"))))) (retS (callM r__law_free [none, some 1] (argC (rdO ixD 0 (ret (.p (.int 1)))) (argC (mvM 1) argN)))) nxS)
    (seqS (ifS (isT (bin inD (rdM 2) (appD tupD (argC (ret (.p (.str "each"))) (argC (ret (.p (.str "some"))) argN))))) (retS (callM r__law_free [none, none] (argC (rdO ixD 0 (ret (.p (.int 2)))) (argC (bin addD (rdM 1) (appD lstD (argC (rdO ixD 0 (ret (.p (.int 1)))) argN))) argN)))) nxS)
    (seqS (asgS (appD lstD argN) (gnm 3))
    (seqS (forS (anyI (rdO ixD 0 (ret (.p (.int 1))))) (gnm 4) (asgS (bin addD (rdM 3) (callM r__law_free [some 4, some 1] (argC (mvM 4) (argC (mvM 1) argN)))) (gnm 3)))
    (retS (mvM 3))))))))
def sr__law_free : Nat → Fn
  | 0 => fun _ => none
  | d + 1 => runF 7 2 [0, 1] (b__law_free (sr__law_free d))
def s__law_free : Fn := sr__law_free 12

def b__law_is_right : MS :=
  (seqS (parS 3 4 (argC (appD (un1 tupleD) (argC (appD (un1 setSortSD) (argC (callM s__law_free [some 1, none] (argC (mvM 1) (argC (appD lstD argN) argN))) argN)) argN)) (argC (rdU reprD 1) argN)))
    (seqS (asgS (ifM (isT (rdM 2)) (callK s_free_names 0 1 [0] argN (argC (rdM 1) argN)) (callM s_free_names [some 1] (argC (mvM 1) argN))) (gnm 5))
    (seqS (ifS (isT (bin neD (appD (un1 reprD) (argC (appD lstD (argC (rdM 5) (argC (callM s_free_names [some 1] (argC (mvM 1) argN)) argN))) argN)) (appD (un1 reprD) (argC (appD lstD (argC (rdM 3) (argC (rdM 3) argN))) argN)))) (retS (ret (.p (.bool false)))) nxS)
    (seqS (asgS (callM s__law_pick [some 0, none] (argC (mvM 0) (argC (bin addD (appD lstD (argC (ret (.p (.str "x"))) (argC (ret (.p (.str "y"))) (argC (ret (.p (.str "v1"))) argN)))) (appD (un1 listD) (argC (rdM 3) argN))) argN))) (gnm 6))
    (seqS (asgS (callM s_free_names [none] (argC (appD tupD (argC (callM s__law_pick [some 0, none] (argC (mvM 0) (argC (appD lstD (argC (ret (.p (.str "each"))) (argC (ret (.p (.str "some"))) argN))) argN))) (argC (rdM 6) (argC (rdM 1) argN)))) argN)) (gnm 7))
    (seqS (asgS (appD tupD (argC (ret (.p (.str "ge"))) (argC (appD tupD (argC (appD tupD (argC (appD tupD (argC (ret (.p (.str "q"))) (argC (appD tupD (argC (ret (.p (.int 1))) (argC (ret (.p (.int 1))) argN))) argN))) (argC (appD tupD (argC (ret (.p (.str "x"))) (argC (appD tupD (argC (una negD (ret (.p (.int 1)))) (argC (ret (.p (.int 2))) argN))) argN))) argN))) (argC (appD tupD (argC (ret (.p (.int 0))) (argC (ret (.p (.int 1))) argN))) argN))) argN))) (gnm 8))
    (seqS (asgS (callM s_free_names [none] (argC (appD tupD (argC (callM s__law_pick [some 0, none] (argC (mvM 0) (argC (appD lstD (argC (ret (.p (.str "and"))) (argC (ret (.p (.str "or"))) argN))) argN))) (argC (appD tupD (argC (rdM 1) (argC (rdM 8) argN))) argN))) argN)) (gnm 9))
    (seqS (ifS (isT (bin neD (rdU reprD 7) (appD (un1 reprD) (argC (appD (un1 tupleD) (argC (lcM [10] (anyI (rdM 3)) (gnm 10) (isT (rdO neD 10 (rdM 6))) (rdM 10)) argN)) argN)))) (retS (ret (.p (.bool false)))) nxS)
    (seqS (ifS (isT (bin neD (appD (un1 reprD) (argC (callM s_free_names [none] (argC (appD tupD (argC (ret (.p (.str "not"))) (argC (rdM 1) argN))) argN)) argN)) (rdU reprD 3))) (retS (ret (.p (.bool false)))) nxS)
    (retS (andM (bin eqD (rdU reprD 9) (appD (un1 reprD) (argC (appD (un1 tupleD) (argC (appD (un1 setSortSD) (argC (bin addD (appD (un1 listD) (argC (rdM 3) argN)) (appD lstD (argC (ret (.p (.str "q"))) (argC (ret (.p (.str "x"))) argN)))) argN)) argN)) argN))) (bin eqD (rdU reprD 1) (rdM 4)))))))))))))
def s__law_is_right : Fn := runF 11 3 [0, 1, 2] b__law_is_right
def b_law : MS :=
  (seqS (asgS (callM s__law_sack [some 0] (argC (mvM 0) argN)) (gnm 1))
    (seqS (forS (rng1 (argC (ret (.p (.int 9))) argN)) (gnm 2) (seqS (asgS (callM s__law_names [some 1] (argC (mvM 1) argN)) (gnm 3))
    (seqS (asgS (callM s__law_formula [some 1, some 3, none] (argL 1 (argC (mvM 3) (argC (bin addD (ret (.p (.int 3))) (callM s__law_draw [some 1, none] (argC (mvM 1) (argC (ret (.p (.int 5))) argN)))) argN)))) (gnm 4))
    (seqS (ifS (isT (bin gtD (rdM 2) (ret (.p (.int 5))))) (asgS (appD tupD (argC (ret (.p (.str "and"))) (argC (appD tupD (argC (rdM 4) (argC (appD tupD (argC (ret (.p (.str "some"))) (argC (rdO ixD 3 (ret (.p (.int 0)))) (argC (appD tupD (argC (ret (.p (.str "or"))) (argC (appD tupD (argC (rdM 4) (argC (appD tupD (argC (ret (.p (.str "not"))) (argC (rdM 4) argN))) argN))) argN))) argN)))) argN))) argN))) (gnm 4)) nxS)
    (ifS (notT (isT (callM s__law_is_right [some 1, some 4, none] (argC (mvM 1) (argC (mvM 4) (argC (rdO eqD 2 (ret (.p (.int 3)))) argN)))))) (retS (ret (.p (.bool false)))) nxS)))))
    (retS (bin eqD (appD (un1 reprD) (argC (appD lstD (argC (callM s_free_names [none] (argC (appD tupD (argC (ret (.p (.str "and"))) (argC (appD tupD argN) argN))) argN)) (argC (callM s_free_names [none] (argC (appD tupD (argC (ret (.p (.str "or"))) (argC (appD tupD argN) argN))) argN)) (argC (callM s_free_names [none] (argC (appD tupD (argC (ret (.p (.str "gt"))) (argC (appD tupD (argC (appD tupD argN) (argC (appD tupD (argC (ret (.p (.int 1))) (argC (ret (.p (.int 2))) argN))) argN))) argN))) argN)) argN)))) argN)) (appD (un1 reprD) (argC (bin smulD (appD lstD (argC (appD tupD argN) argN)) (ret (.p (.int 3)))) argN))))))
def s_law : Fn := runF 5 1 [0] b_law
end GH
namespace GH
open PySem L2 RZ
local macro_rules | `(tactic| walk_at "szt") => `(tactic| (repeat (first | assumption | with_reducible refine Sz.mul ?_ ?_ | with_reducible refine Sz.add ?_ ?_ | with_reducible refine Sz.sub ?_ ?_ | with_reducible refine Sz.neg ?_ | exact (show Sz 64 _ by unfold Sz; omega))))
local macro_rules | `(tactic| walk_at "guard") => `(tactic| first
  | assumption | exact mulOk_l (by decide) | exact mulOk_r (by decide)
  | exact mulOk_l (by omega) | exact mulOk_r (by omega)
  | (refine mulOk_sz (m := ?_) (n := ?_) ?_ ?_ ?_; rotate_left 2; · walk_at "szt"
     · walk_at "szt"
     · decide)
  | (refine divOk_sz (m := ?_) ?_ (by omega) ?_; rotate_left 1; · walk_at "szt"
     · decide)
  | decide)
local macro_rules | `(tactic| walk_at "ev0") => `(tactic| first
  | with_reducible refine w_seq ?_
  | with_reducible refine w_bin ?_
  | with_reducible refine w_argC ?_
  | with_reducible refine w_argN ?_
  | with_reducible refine w_ret ?_
  | ((with_reducible apply w_rd); exact rfl)
  | ((with_reducible apply w_mv); exact rfl)
  | ((with_reducible apply w_nrm); (first
      | ((with_reducible show outsOf _ _ _ = _); ((simp (decide := true) only [outsOf, List.range, List.range.loop, List.map, List.getElem?_cons_zero, List.getElem?_cons_succ, if_true, if_false, Option.join_some, Option.join_none]) <;> exact rfl))
      | ((dsimp only [List.set_cons_zero, List.set_cons_succ, rst, setAll, wipeG, List.map, List.append, List.reduceReplicate, Nat.reduceSub, Int.reduceToNat, List.cons_append, List.nil_append, List.append_nil, List.getElem?_cons_zero, List.getElem?_cons_succ]) <;> exact rfl)
      | exact rfl))
  | with_reducible refine w_una ?_
  | with_reducible refine w_app ?_
  | with_reducible refine w_call ?_
  | (with_reducible refine w_rdO ⟨rfl, rfl⟩ ?_)
  | ((with_reducible apply w_slot); exact rfl)
  | ((with_reducible apply w_rdU); exact rfl)
  | with_reducible refine w_isT ?_
  | with_reducible refine w_db ?_
  | with_reducible refine w_asg ?_
  | ((with_reducible apply w_gnm); exact of_decide_eq_true rfl)
  | with_reducible refine w_ifS ?_
  | with_reducible refine w_ifM ?_
  | with_reducible refine w_retS ?_
  | with_reducible refine w_nx ?_
  | with_reducible refine w_drop ?_
  | with_reducible refine w_par ?_
  | with_reducible refine w_two ?_
  | ((with_reducible apply w_inr); · (unfold InR; first | omega | (simp; omega)))
  | with_reducible refine w_parL ?_
  | with_reducible refine w_parG ?_
  | with_reducible refine w_gconsD ?_
  | with_reducible refine w_gnilD ?_
  | (with_reducible refine ⟨⟨rfl, rfl⟩, ?_⟩)
  | with_reducible refine w_add ?_
  | with_reducible refine w_sub ?_
  | ((with_reducible apply w_mul); · walk_at "guard")
  | ((with_reducible apply w_fdiv); · walk_at "guard")
  | ((with_reducible apply w_mod); · first | assumption | decide | omega)
  | with_reducible refine w_neg ?_
  | with_reducible refine w_notD ?_
  | with_reducible refine w_lt ?_
  | with_reducible refine w_le ?_
  | with_reducible refine w_gt ?_
  | with_reducible refine w_ge ?_
  | with_reducible refine w_eq ?_
  | with_reducible refine w_ne ?_
  | with_reducible refine w_abs ?_
  | with_reducible refine w_notN0 ?_
  | with_reducible refine w_notNT ?_
  | with_reducible refine w_isN0 ?_
  | with_reducible refine w_isNT ?_
  | ((with_reducible apply w_ixl); exact rfl)
  | ((with_reducible apply w_ixT0); exact rfl)
  | ((with_reducible apply w_ixN); exact rfl)
  | with_reducible refine w_un1 ?_
  | with_reducible refine w_intI ?_
  | with_reducible refine w_intB ?_
  | with_reducible refine w_gcd ?_
  | ((with_reducible apply w_isiT); exact rfl)
  | ((with_reducible apply w_isiI); exact rfl)
  | ((with_reducible apply w_isiB); exact rfl)
  | ((with_reducible apply w_isiS); exact rfl)
  | ((with_reducible apply w_isiL); exact rfl)
  | with_reducible refine w_frz ?_
  | ((with_reducible apply w_tup); exact of_decide_eq_true rfl; exact rfl)
  | ((with_reducible apply w_lst1); exact of_decide_eq_true rfl)
  | with_reducible refine w_lenT ?_
  | with_reducible refine w_lenL ?_
  | with_reducible refine w_lenO ?_
  | ((with_reducible apply w_powT); exact of_decide_eq_true rfl; (simp only [Int.reduceToNat, Int.reducePow]; exact rfl))
  | with_reducible refine w_while ?_
  | with_reducible refine w_for ?_
  | with_reducible refine w_lc ?_
  | with_reducible refine w_and ?_
  | with_reducible refine w_any ?_
  | ((with_reducible apply w_itL); exact rfl)
  | ((with_reducible apply w_itT); exact rfl)
  | ((with_reducible apply w_itL); exact fz_l (fzs_map _))
  | ((with_reducible apply w_rdl); exact rfl; exact fz_l (fzs_map _))
  | with_reducible refine w_cutT ?_
  | with_reducible refine w_cutP ?_
  | with_reducible refine w_cutO ?_
  | with_reducible refine w_rng1 ?_
  | with_reducible refine w_rng2 ?_
  | with_reducible refine w_one ?_
  | with_reducible refine w_twoI ?_
  | with_reducible refine w_zip ?_
  | with_reducible refine w_enum ?_
  | with_reducible refine w_enumA ?_
  | with_reducible refine w_ones ?_
  | ((with_reducible apply w_itS); exact rfl)
  | with_reducible refine w_or ?_
  | with_reducible refine w_not ?_
  | with_reducible refine w_yes ?_
  | with_reducible refine w_noP ?_
  | with_reducible refine w_someP ?_
  | with_reducible refine w_int ?_
  | (with_reducible refine w_sliceN ⟨rfl, rfl⟩ ?_)
  | with_reducible refine w_sliceM ?_
  | (with_reducible refine w_argL ⟨rfl, rfl⟩ ?_)
  | with_reducible refine w_callK ?_
  | with_reducible refine w_chain ?_
  | with_reducible refine w_chq ?_
  | with_reducible refine w_andM ?_
  | with_reducible refine w_orM ?_
  | ((with_reducible apply w_mvl); exact rfl)
  | ((with_reducible apply w_rdl); exact rfl; exact rfl)
  | ((with_reducible apply w_gtup); exact rfl; exact rfl)
  | with_reducible refine w_gcons ?_
  | with_reducible refine w_gnil ?_
  | ((with_reducible apply w_mutN); exact rfl)
  | ((with_reducible apply w_mutP); exact rfl; exact rfl)
  | ((with_reducible apply w_rdP); exact rfl; exact rfl)
  | (with_reducible refine ⟨rfl, ?_⟩)
  | ((with_reducible apply w_gset); exact rfl)
  | with_reducible refine w_lst ?_
  | with_reducible refine w_bn ?_
  | ((with_reducible apply w_bt); · decide)
  | ((with_reducible apply w_bf); · decide)
  | with_reducible refine w_bt (show isTup _ = true from rfl) ?_
  | with_reducible refine w_bf (show isTup _ = false from rfl) ?_
  | with_reducible refine w_bt (show isInt _ = true from rfl) ?_
  | with_reducible refine w_bf (show isInt _ = false from rfl) ?_
  | with_reducible refine w_bt (show isBool _ = true from rfl) ?_
  | with_reducible refine w_bf (show isBool _ = false from rfl) ?_
  | with_reducible refine w_bt (show isStr _ = true from rfl) ?_
  | with_reducible refine w_bf (show isStr _ = false from rfl) ?_
  | with_reducible refine w_bt (show isList _ = true from rfl) ?_
  | with_reducible refine w_bf (show isList _ = false from rfl) ?_
  | ((with_reducible apply w_rdK); exact rfl; exact rfl)
  | ((with_reducible apply w_mutK); exact rfl; exact rfl)
  | ((with_reducible apply w_mvm); exact rfl)
  | ((with_reducible apply w_rdPK); exact rfl; exact rfl)
  | with_reducible refine w_setK ?_
  | ((with_reducible apply w_slotK); exact rfl; exact rfl)
  | ((with_reducible apply w_dsp); exact rfl))
local macro_rules | `(tactic| walk_at "ev1") => `(tactic| first
  | walk_at "ev0"
  | ((with_reducible apply w_bt); · (refine decide_eq_true ?_; first | with_reducible rfl | assumption | omega))
  | ((with_reducible apply w_bf); · (refine decide_eq_false ?_; first | assumption | omega)))
local macro_rules | `(tactic| walk_at "ev") => `(tactic| repeat walk_at "ev1")
local macro_rules | `(tactic| walk_at "ew") => `(tactic| repeat walk_at "ev0")
section
variable {QA : List D → Nv → Prop} {t : MG} {ft : MT} {f : M}
/-- a comprehension whose items are told one by one, the names staying -/
theorem w_lmap {α : Type} (xs : List α) (F R : α → PyData) {own : List Nat} {Γ : Nv} {acc : List D} {ds : List PyData} (hd : ds = xs.map F)
    (hs : ∀ x ∈ xs, wG t (.p (F x)) Γ fun Γ1 => wT ft Γ1 fun b Γ2 => wB b (wE f Γ2 fun y Γ3 => wN (wipeG Γ3 own) fun Γ4 => y = .p (R x) ∧ Γ4 = Γ) False)
    (k : QA (acc ++ (xs.map R).map .p) Γ) : wC own t ft f ds Γ acc QA := by
  refine w_loopC (fun ds Γ' acc' => ∃ ys zs, xs = ys ++ zs ∧ ds = zs.map F ∧ Γ' = Γ ∧ acc' = acc ++ (ys.map R).map .p) ⟨[], xs, rfl, hd, rfl, by simp⟩ ?_ ?_
  · rintro q ds Γ' acc' ⟨ys, zs, e1, e2, rfl, rfl⟩
    cases zs with
    | nil => cases e2
    | cons z zs =>
      cases e2
      obtain ⟨Γ1, h1, b, Γ2, h2, h3, h4⟩ := hs z (by rw [e1]; simp)
      refine ⟨Γ1, h1, b, Γ2, h2, fun hb => ?_, fun hb => (h4 hb).elim⟩
      obtain ⟨y, Γ3, e3, rfl, e4⟩ := h3 hb
      exact ⟨_, Γ3, e3, ys ++ [z], zs, by rw [e1]; simp, rfl, e4, by simp⟩
  · rintro Γ' acc' ⟨ys, zs, e1, e2, rfl, rfl⟩
    cases zs with
    | cons z zs => cases e2
    | nil =>
      rw [List.append_nil] at e1
      subst e1
      exact k
theorem zipL_map {α β : Type} (F : α → PyData) (G : β → PyData) : ∀ (xs : List α) (ys : List β), zipL (xs.map F) (ys.map G) = (List.zip xs ys).map fun p => .tuple [F p.1, G p.2]
  | x :: xs, y :: ys => by
    show PyData.tuple [F x, G y] :: zipL (xs.map F) (ys.map G) = _
    rw [zipL_map F G xs ys]; rfl
  | [], _ => by simp [zipL]
  | _ :: _, [] => by simp [zipL]
theorem zip_short {α β : Type} (z : α) : ∀ (xs : List α) (ys : List β), ys.length = xs.length → List.zip (xs ++ [z]) ys = List.zip xs ys
  | x :: xs, y :: ys, h => congrArg (_ :: ·) (zip_short z xs ys (by simpa using h))
  | [], [], _ => rfl
end
section
variable {QF : D → List (Option D) → Prop} {QD : D → Prop} {QA : List D → Nv → Prop} {t : MG} {ft : MT} {f : M}
/-- a comprehension that picks, the names staying -/
theorem w_lfil {α : Type} (xs : List α) (F R : α → PyData) (P : α → Bool) {own : List Nat} {Γ : Nv} {acc : List D} {ds : List PyData} (hd : ds = xs.map F)
    (hs : ∀ x ∈ xs, wG t (.p (F x)) Γ fun Γ1 => wT ft Γ1 fun b Γ2 => wB b (wE f Γ2 fun y Γ3 => wN (wipeG Γ3 own) fun Γ4 => y = .p (R x) ∧ Γ4 = Γ ∧ P x = true) (wN (wipeG Γ2 own) fun Γ4 => Γ4 = Γ ∧ P x = false))
    (k : QA (acc ++ ((xs.filter P).map R).map .p) Γ) : wC own t ft f ds Γ acc QA := by
  refine w_loopC (fun ds Γ' acc' => ∃ ys zs, xs = ys ++ zs ∧ ds = zs.map F ∧ Γ' = Γ ∧ acc' = acc ++ ((ys.filter P).map R).map .p) ⟨[], xs, rfl, hd, rfl, by simp⟩ ?_ ?_
  · rintro q ds Γ' acc' ⟨ys, zs, e1, e2, rfl, rfl⟩
    cases zs with
    | nil => cases e2
    | cons z zs =>
      cases e2
      obtain ⟨Γ1, h1, b, Γ2, h2, h3, h4⟩ := hs z (by rw [e1]; simp)
      refine ⟨Γ1, h1, b, Γ2, h2, fun hb => ?_, fun hb => ?_⟩
      · obtain ⟨y, Γ3, e3, rfl, e4, e5⟩ := h3 hb
        exact ⟨_, Γ3, e3, ys ++ [z], zs, by rw [e1]; simp, rfl, e4, by simp [List.filter_cons, e5]⟩
      · obtain ⟨e4, e5⟩ := h4 hb
        exact ⟨ys ++ [z], zs, by rw [e1]; simp, rfl, e4, by simp [List.filter_cons, e5]⟩
  · rintro Γ' acc' ⟨ys, zs, e1, e2, rfl, rfl⟩
    cases zs with
    | cons z zs => cases e2
    | nil =>
      rw [List.append_nil] at e1
      subst e1
      exact k
end
abbrev ci (cs : List Int) : List D := cs.map fun c => .p (.int c)
abbrev dk (cs : List Int) (m k : Int) : D := .m deckK [.l (ci cs), .p (.int m), .p (.int k)]
def Dk (cs : List Int) (m : Int) : Prop := (∀ c ∈ cs, 0 ≤ c) ∧ cs.length ≤ 63 ∧ 0 ≤ m ∧ m < 2 ^ 40
section
variable {QF : D → List (Option D) → Prop} {QD : D → Prop} {Q2 : D × D → Prop}
theorem fz_ci : ∀ cs : List Int, fzs (ci cs) = some (cs.map .int)
  | [] => rfl
  | c :: cs => by show (fz (.p (.int c))).bind (fun q => (fzs (ci cs)).map (q :: ·)) = _; rw [fz_ci cs]; rfl
theorem canLay_ints : ∀ ns : List Int, PyData.canLayAll0 (ns.map .int) = true ∧ PyData.depthAll (ns.map .int) ≤ 1
  | [] => ⟨by simp [PyData.canLayAll0], by simp [PyData.depthAll]⟩
  | n :: ns => ⟨by simp [PyData.canLayAll0, PyData.canLay0, (canLay_ints ns).1], by have := (canLay_ints ns).2; simp [PyData.depthAll, PyData.depth]; omega⟩
theorem w_neCi {cs : List Int} (k : QD (.p (.bool (decide (cs ≠ []))))) : wO (neD (.l (ci cs)) (.l [])) QD := by
  refine w_neE (qs := cs.map .int) (by show (fzs (ci cs)).map _ = _; rw [fz_ci]; rfl) ?_
  have e : decide (cs.map PyData.int ≠ []) = decide (cs ≠ []) := by cases cs <;> simp
  rw [e]
  exact k
theorem w_popCi {c : Int} {cs : List Int} (k : Q2 (.p (.int c), .l (ci cs))) : wO (popD (.l (ci (cs ++ [c]))) []) Q2 := by
  refine ⟨(.p (.int c), .l (ci cs)), ?_, k⟩
  unfold popD
  simp [ci]
theorem w_appCi {c : Int} {cs : List Int} (h : cs.length < 1000) (k : Q2 (.p .none, .l (ci (cs ++ [c])))) : wO (appendD (.l (ci cs)) [.p (.int c)]) Q2 := by
  refine w_append (by simp; omega) ?_
  have : ci cs ++ [.p (.int c)] = ci (cs ++ [c]) := by simp [ci]
  rw [this]
  exact k
theorem last_of {α : Type} {l : List α} (h : l ≠ []) : ∃ init x, l = init ++ [x] := ⟨_, _, (List.dropLast_concat_getLast h).symm⟩
theorem y_draw (cs : List Int) (m z n : Int) (hd : Dk cs m) (hn : 1 ≤ n ∧ n < 2 ^ 64) (k : ∀ v cs' m' z', 0 ≤ v → v < n → Dk cs' m' → QF (.p (.int v)) [some (dk cs' m' z'), some (.p (.int n))]) : wF s__law_draw [dk cs m z, .p (.int n)] QF := by
  unfold s__law_draw
  refine w_fn rfl ?_
  unfold b__law_draw
  walk_at "ev"
  refine w_bd ?_ ?_ <;> intro h0
  · walk_at "ev"
    exact k 0 cs m z (by omega) (by omega) hd
  · walk_at "ev"
    refine w_neCi ?_
    walk_at "ev"
    refine w_bd ?_ ?_ <;> intro h1
    · obtain ⟨init, x, rfl⟩ := last_of h1
      have hd' : Dk init m := ⟨fun c hc => hd.1 c (List.mem_append_left _ hc), by have := hd.2.1; simp at this; omega, hd.2.2⟩
      have hx := hd.1 x (by simp)
      have gd : divOk n = true := by
        refine divOk_sz (m := 64) ?_ (by omega) (by decide)
        unfold Sz
        omega
      walk_at "ev"
      refine w_popCi ?_
      walk_at "ev"
      refine w_bd ?_ ?_ <;> intro h2
      · walk_at "ev"
        refine w_appCi (by have := hd'.2.1; omega) ?_
        walk_at "ev"
        refine k _ (init ++ [x.fdiv n]) m z (Int.fmod_nonneg_of_pos _ (by omega)) (Int.fmod_lt_of_pos _ (by omega)) ⟨fun c hc => ?_, by have := hd.2.1; simp at this ⊢; omega, hd.2.2⟩
        rcases List.mem_append.mp hc with hc | hc
        · exact hd'.1 c hc
        · rw [List.mem_singleton] at hc
          rw [hc]
          exact Int.fdiv_nonneg hx (by omega)
      · walk_at "ev"
        exact k _ init m z (Int.fmod_nonneg_of_pos _ (by omega)) (Int.fmod_lt_of_pos _ (by omega)) hd'
    · have h3 := hd.2.2
      walk_at "ev"
      have b1 := Int.fmod_nonneg_of_pos (m + 2654435761 * (z + 1)) (show (0 : Int) < 4294967291 by decide)
      have b2 := Int.fmod_lt_of_pos (m + 2654435761 * (z + 1)) (show (0 : Int) < 4294967291 by decide)
      generalize (m + 2654435761 * (z + 1)).fmod 4294967291 = y at *
      walk_at "ev"
      have b3 := Int.fmod_nonneg_of_pos (y * y + 16807 * (z + 1) + 31) (show (0 : Int) < 4294967231 by decide)
      have b4 := Int.fmod_lt_of_pos (y * y + 16807 * (z + 1) + 31) (show (0 : Int) < 4294967231 by decide)
      generalize (y * y + 16807 * (z + 1) + 31).fmod 4294967231 = x at *
      walk_at "ev"
      exact k _ cs m (z + 1) (Int.fmod_nonneg_of_pos _ (by omega)) (Int.fmod_lt_of_pos _ (by omega)) hd
theorem fz_cl (cs : List Int) : fz (.l (ci cs)) = some (.list (cs.map .int)) := fz_l (fz_ci cs)
theorem w_ixP {qs : List PyData} {v : Int} (h0 : 0 ≤ v) (h1 : v < qs.length) (k : ∀ q ∈ qs, QD (.p q)) : wO (ixD (.l (qs.map .p)) (.p (.int v))) QD := by
  have hlt : v.toNat < qs.length := by omega
  refine ⟨.p qs[v.toNat], ?_, k _ (List.getElem_mem hlt)⟩
  unfold ixD
  dsimp only
  unfold atI ixN
  rw [if_pos h0, if_pos (by rw [List.length_map]; exact h1)]
  simp [hlt]
theorem w_ixPL {qs : List PyData} {v : Int} (h0 : 0 ≤ v) (h1 : v < qs.length) (k : ∀ q ∈ qs, QD (.p q)) : wO (ixD (.p (.list qs)) (.p (.int v))) QD := by
  have hlt : v.toNat < qs.length := by omega
  refine ⟨.p qs[v.toNat], ?_, k _ (List.getElem_mem hlt)⟩
  unfold ixD
  dsimp only
  unfold atI ixN
  rw [if_pos h0, if_pos h1]
  simp [hlt]
/-- some items, owned or frozen, of which one is picked -/
def isQ (d : D) (qs : List PyData) : Prop := fz d = some (.list qs) ∧ ((∃ xs, d = .l xs ∧ xs = qs.map .p) ∨ d = .p (.list qs))
theorem isQ_p (qs : List PyData) : isQ (.p (.list qs)) qs := ⟨rfl, .inr rfl⟩
theorem isQ_l (qs : List PyData) : isQ (.l (qs.map .p)) qs := ⟨fz_l (fzs_map _), .inl ⟨_, rfl, rfl⟩⟩
theorem y_pick (cs : List Int) (m z : Int) (d : D) (qs : List PyData) (hq : isQ d qs) (hd : Dk cs m) (hl : 1 ≤ qs.length ∧ qs.length < 1000) (k : ∀ q ∈ qs, ∀ cs' m' z', Dk cs' m' → QF (.p q) [some (dk cs' m' z'), some d]) : wF s__law_pick [dk cs m z, d] QF := by
  unfold s__law_pick
  refine w_fn rfl ?_
  unfold b__law_pick
  rcases hq.2 with ⟨xs, rfl, rfl⟩ | rfl
  · walk_at "ev"
    rw [List.length_map]
    refine y_draw _ _ _ _ hd ⟨by omega, by omega⟩ ?_
    intro v cs' m' z' h0 h1 hd'
    walk_at "ev"
    refine w_ixP h0 h1 fun q hq => ?_
    walk_at "ev"
    exact k q hq _ _ _ hd'
  · walk_at "ev"
    refine y_draw _ _ _ _ hd ⟨by omega, by omega⟩ ?_
    intro v cs' m' z' h0 h1 hd'
    walk_at "ev"
    refine w_ixPL h0 h1 fun q hq => ?_
    walk_at "ev"
    exact k q hq _ _ _ hd'
end
section
variable {QF : D → List (Option D) → Prop} {QD : D → Prop} {QA : List D → Nv → Prop} {t : MG} {ft : MT} {f : M}
theorem y_sack (ns : List Int) (hn : ns.length ≤ 1000000) (k : ∀ cs m, Dk cs m → QF (dk cs m 0) [some (.p (.list (ns.map .int)))]) : wF s__law_sack [.p (.list (ns.map .int))] QF := by
  unfold s__law_sack
  refine w_fn rfl ?_
  unfold b__law_sack
  walk_at "ew"
  rw [show (63 : Int) = ((63 : Nat) : Int) from rfl, cutL_take, ← List.map_take]
  refine ⟨by simp; omega, ?_⟩
  walk_at "ew"
  have hl63 : (ns.take 63).length ≤ 63 := by simp; omega
  generalize ns.take 63 = xs at *
  refine w_lmap xs .int (fun c => .int (3 * (c.natAbs : Int) + if decide (c < 0) = true then 1 else 0)) rfl (fun x _ => ?_) ?_
  · walk_at "ew"
    first | exact ⟨rfl, rfl⟩ | exact rfl
  rw [List.nil_append]
  obtain ⟨cells, hc1, hc2, hc3⟩ : ∃ cells : List Int, (xs.map fun c => PyData.int (3 * (c.natAbs : Int) + if decide (c < 0) = true then 1 else 0)) = cells.map .int ∧ cells.length ≤ 63 ∧ ∀ c ∈ cells, 0 ≤ c := by
    refine ⟨xs.map fun c => 3 * (c.natAbs : Int) + if decide (c < 0) = true then 1 else 0, by rw [List.map_map]; rfl, by simpa using hl63, fun c hc => ?_⟩
    obtain ⟨x, _, rfl⟩ := List.mem_map.mp hc
    split <;> omega
  rw [hc1]
  walk_at "ew"
  simp only [List.length_map]
  refine w_loop (fun ds Γ => ∃ (ys : List Int) (s : Int) (e3 : Option D), ds = ys.map .int ∧ 0 ≤ s ∧ s < 2 ^ 40 ∧ Γ = [some (.p (.list (ns.map .int))), some (.p (.list (cells.map .int))), some (.p (.int s)), e3]) ⟨cells, _, _, rfl, ?_, ?_, rfl⟩ ?_ ?_
  · omega
  · omega
  · rintro q ds Γ ⟨ys, s, e3, e, h1, h2, rfl⟩
    cases ys with
    | nil => cases e
    | cons y ys =>
      cases e
      walk_at "ew"
      have g0 := Int.fmod_nonneg_of_pos (s * 69621 + y + 7) (show (0 : Int) < 4294967279 by decide)
      have g1 := Int.fmod_lt_of_pos (s * 69621 + y + 7) (show (0 : Int) < 4294967279 by decide)
      exact ⟨ys, _, _, rfl, g0, by omega, rfl⟩
  · rintro Γ ⟨ys, s, e3, e, h1, h2, rfl⟩
    walk_at "ew"
    refine ⟨by simp; omega, ?_⟩
    walk_at "ew"
    refine w_lfil cells .int (fun c => .int (c.fdiv 3)) (fun c => decide (1000000000000000 ≤ c)) rfl (fun x hx => ?_) ?_
    · walk_at "ew"
      refine w_bd ?_ ?_ <;> intro h
      · walk_at "ew"
        have e := decide_eq_true h
        first | exact ⟨rfl, rfl, e⟩ | exact ⟨rfl, e⟩ | exact e
      · walk_at "ew"
        have e := decide_eq_false h
        first | exact ⟨rfl, e⟩ | exact e
    rw [List.nil_append]
    have ef : (((cells.filter fun c => decide (1000000000000000 ≤ c)).map fun c => PyData.int (c.fdiv 3)).map D.p) = ci ((cells.filter fun c => decide (1000000000000000 ≤ c)).map fun c => c.fdiv 3) := by
      unfold ci
      rw [List.map_map, List.map_map]
      rfl
    rw [ef]
    walk_at "ew"
    refine k _ _ ⟨fun c hc => ?_, ?_, h1, h2⟩
    · obtain ⟨x, hx, rfl⟩ := List.mem_map.mp hc
      exact Int.fdiv_nonneg (hc3 x (List.mem_filter.mp hx).1) (by decide)
    · have := List.length_filter_le (fun c => decide (1000000000000000 ≤ c)) cells
      simp
      omega
end
end GH
namespace GH
open PySem L2 RZ
local macro_rules | `(tactic| walk_at "szt") => `(tactic| (repeat (first | assumption | with_reducible refine Sz.mul ?_ ?_ | with_reducible refine Sz.add ?_ ?_ | with_reducible refine Sz.sub ?_ ?_ | with_reducible refine Sz.neg ?_ | exact (show Sz 64 _ by unfold Sz; omega))))
local macro_rules | `(tactic| walk_at "guard") => `(tactic| first
  | assumption | exact mulOk_l (by decide) | exact mulOk_r (by decide)
  | exact mulOk_l (by omega) | exact mulOk_r (by omega)
  | (refine mulOk_sz (m := ?_) (n := ?_) ?_ ?_ ?_; rotate_left 2; · walk_at "szt"
     · walk_at "szt"
     · decide)
  | (refine divOk_sz (m := ?_) ?_ (by omega) ?_; rotate_left 1; · walk_at "szt"
     · decide)
  | decide)
local macro_rules | `(tactic| walk_at "ev0") => `(tactic| first
  | with_reducible refine w_seq ?_
  | with_reducible refine w_bin ?_
  | with_reducible refine w_argC ?_
  | with_reducible refine w_argN ?_
  | with_reducible refine w_ret ?_
  | ((with_reducible apply w_rd); exact rfl)
  | ((with_reducible apply w_mv); exact rfl)
  | ((with_reducible apply w_nrm); (first
      | ((with_reducible show outsOf _ _ _ = _); ((simp (decide := true) only [outsOf, List.range, List.range.loop, List.map, List.getElem?_cons_zero, List.getElem?_cons_succ, if_true, if_false, Option.join_some, Option.join_none]) <;> exact rfl))
      | ((dsimp only [List.set_cons_zero, List.set_cons_succ, rst, setAll, wipeG, List.map, List.append, List.reduceReplicate, Nat.reduceSub, Int.reduceToNat, List.cons_append, List.nil_append, List.append_nil, List.getElem?_cons_zero, List.getElem?_cons_succ]) <;> exact rfl)
      | exact rfl))
  | with_reducible refine w_una ?_
  | with_reducible refine w_app ?_
  | with_reducible refine w_call ?_
  | (with_reducible refine w_rdO ⟨rfl, rfl⟩ ?_)
  | ((with_reducible apply w_slot); exact rfl)
  | ((with_reducible apply w_rdU); exact rfl)
  | with_reducible refine w_isT ?_
  | with_reducible refine w_db ?_
  | with_reducible refine w_asg ?_
  | ((with_reducible apply w_gnm); exact of_decide_eq_true rfl)
  | with_reducible refine w_ifS ?_
  | with_reducible refine w_ifM ?_
  | with_reducible refine w_retS ?_
  | with_reducible refine w_nx ?_
  | with_reducible refine w_drop ?_
  | with_reducible refine w_par ?_
  | with_reducible refine w_two ?_
  | ((with_reducible apply w_inr); · (unfold InR; first | omega | (simp; omega)))
  | with_reducible refine w_parL ?_
  | with_reducible refine w_parG ?_
  | with_reducible refine w_gconsD ?_
  | with_reducible refine w_gnilD ?_
  | (with_reducible refine ⟨⟨rfl, rfl⟩, ?_⟩)
  | with_reducible refine w_add ?_
  | with_reducible refine w_sub ?_
  | ((with_reducible apply w_mul); · walk_at "guard")
  | ((with_reducible apply w_fdiv); · walk_at "guard")
  | ((with_reducible apply w_mod); · first | assumption | decide | omega)
  | with_reducible refine w_neg ?_
  | with_reducible refine w_notD ?_
  | with_reducible refine w_lt ?_
  | with_reducible refine w_le ?_
  | with_reducible refine w_gt ?_
  | with_reducible refine w_ge ?_
  | with_reducible refine w_eq ?_
  | with_reducible refine w_ne ?_
  | with_reducible refine w_abs ?_
  | with_reducible refine w_notN0 ?_
  | with_reducible refine w_notNT ?_
  | with_reducible refine w_isN0 ?_
  | with_reducible refine w_isNT ?_
  | ((with_reducible apply w_ixl); exact rfl)
  | ((with_reducible apply w_ixT0); exact rfl)
  | ((with_reducible apply w_ixN); exact rfl)
  | with_reducible refine w_un1 ?_
  | with_reducible refine w_intI ?_
  | with_reducible refine w_intB ?_
  | with_reducible refine w_gcd ?_
  | ((with_reducible apply w_isiT); exact rfl)
  | ((with_reducible apply w_isiI); exact rfl)
  | ((with_reducible apply w_isiB); exact rfl)
  | ((with_reducible apply w_isiS); exact rfl)
  | ((with_reducible apply w_isiL); exact rfl)
  | with_reducible refine w_frz ?_
  | ((with_reducible apply w_tup); exact of_decide_eq_true rfl; exact rfl)
  | ((with_reducible apply w_lst1); exact of_decide_eq_true rfl)
  | with_reducible refine w_lenT ?_
  | with_reducible refine w_lenL ?_
  | with_reducible refine w_lenO ?_
  | ((with_reducible apply w_powT); exact of_decide_eq_true rfl; (simp only [Int.reduceToNat, Int.reducePow]; exact rfl))
  | with_reducible refine w_while ?_
  | with_reducible refine w_for ?_
  | with_reducible refine w_lc ?_
  | with_reducible refine w_and ?_
  | with_reducible refine w_any ?_
  | ((with_reducible apply w_itL); exact rfl)
  | ((with_reducible apply w_itT); exact rfl)
  | ((with_reducible apply w_itL); exact fz_l (fzs_map _))
  | ((with_reducible apply w_rdl); exact rfl; exact fz_l (fzs_map _))
  | with_reducible refine w_cutT ?_
  | with_reducible refine w_cutP ?_
  | with_reducible refine w_cutO ?_
  | with_reducible refine w_rng1 ?_
  | with_reducible refine w_rng2 ?_
  | with_reducible refine w_one ?_
  | with_reducible refine w_twoI ?_
  | with_reducible refine w_zip ?_
  | with_reducible refine w_enum ?_
  | with_reducible refine w_enumA ?_
  | with_reducible refine w_ones ?_
  | ((with_reducible apply w_itS); exact rfl)
  | with_reducible refine w_or ?_
  | with_reducible refine w_not ?_
  | with_reducible refine w_yes ?_
  | with_reducible refine w_noP ?_
  | with_reducible refine w_someP ?_
  | with_reducible refine w_int ?_
  | (with_reducible refine w_sliceN ⟨rfl, rfl⟩ ?_)
  | with_reducible refine w_sliceM ?_
  | (with_reducible refine w_argL ⟨rfl, rfl⟩ ?_)
  | with_reducible refine w_callK ?_
  | with_reducible refine w_chain ?_
  | with_reducible refine w_chq ?_
  | with_reducible refine w_andM ?_
  | with_reducible refine w_orM ?_
  | ((with_reducible apply w_mvl); exact rfl)
  | ((with_reducible apply w_rdl); exact rfl; exact rfl)
  | ((with_reducible apply w_gtup); exact rfl; exact rfl)
  | with_reducible refine w_gcons ?_
  | with_reducible refine w_gnil ?_
  | ((with_reducible apply w_mutN); exact rfl)
  | ((with_reducible apply w_mutP); exact rfl; exact rfl)
  | ((with_reducible apply w_rdP); exact rfl; exact rfl)
  | (with_reducible refine ⟨rfl, ?_⟩)
  | ((with_reducible apply w_gset); exact rfl)
  | with_reducible refine w_lst ?_
  | with_reducible refine w_bn ?_
  | ((with_reducible apply w_bt); · decide)
  | ((with_reducible apply w_bf); · decide)
  | with_reducible refine w_bt (show isTup _ = true from rfl) ?_
  | with_reducible refine w_bf (show isTup _ = false from rfl) ?_
  | with_reducible refine w_bt (show isInt _ = true from rfl) ?_
  | with_reducible refine w_bf (show isInt _ = false from rfl) ?_
  | with_reducible refine w_bt (show isBool _ = true from rfl) ?_
  | with_reducible refine w_bf (show isBool _ = false from rfl) ?_
  | with_reducible refine w_bt (show isStr _ = true from rfl) ?_
  | with_reducible refine w_bf (show isStr _ = false from rfl) ?_
  | with_reducible refine w_bt (show isList _ = true from rfl) ?_
  | with_reducible refine w_bf (show isList _ = false from rfl) ?_
  | ((with_reducible apply w_rdK); exact rfl; exact rfl)
  | ((with_reducible apply w_mutK); exact rfl; exact rfl)
  | ((with_reducible apply w_mvm); exact rfl)
  | ((with_reducible apply w_rdPK); exact rfl; exact rfl)
  | with_reducible refine w_setK ?_
  | ((with_reducible apply w_slotK); exact rfl; exact rfl)
  | ((with_reducible apply w_dsp); exact rfl))
local macro_rules | `(tactic| walk_at "ev1") => `(tactic| first
  | walk_at "ev0"
  | ((with_reducible apply w_bt); · (refine decide_eq_true ?_; first | with_reducible rfl | assumption | omega))
  | ((with_reducible apply w_bf); · (refine decide_eq_false ?_; first | assumption | omega)))
local macro_rules | `(tactic| walk_at "ev") => `(tactic| repeat walk_at "ev1")
local macro_rules | `(tactic| walk_at "ew") => `(tactic| repeat walk_at "ev0")
section
variable {QF : D → List (Option D) → Prop} {QD : D → Prop}
theorem y_gcd (a b : Int) (k : QF (.p (.int (Int.gcd a b))) [some (.p (.int a)), some (.p (.int b))]) : wF s__law_gcd [.p (.int a), .p (.int b)] QF := by
  unfold s__law_gcd
  refine w_fn rfl ?_
  unfold b__law_gcd
  walk_at "ev"
  refine w_loopW (fun n Γ => ∃ x y : Nat, Γ = [some (.p (.int a)), some (.p (.int b)), some (.p (.int x)), some (.p (.int y))] ∧ Nat.gcd x y = Int.gcd a b ∧ y < n) ⟨a.natAbs, b.natAbs, rfl, rfl, by simp [m__law_gcd_1]⟩ ?_
  rintro n Γ ⟨x, y, rfl, hg, hn⟩
  refine ⟨n - 1, by omega, ?_⟩
  walk_at "ev"
  refine w_bd ?_ ?_ <;> intro h0
  · have : y = 0 := by omega
    subst this
    rw [Nat.gcd_zero_right] at hg
    walk_at "ev"
    rw [hg]
    exact k
  · walk_at "ev"
    refine ⟨y, x % y, by rw [Int.fmod_eq_emod_of_nonneg _ (by omega)]; rfl, ?_, ?_⟩
    · rw [← hg, Nat.gcd_comm x y, Nat.gcd_rec y x, Nat.gcd_comm]
    · have := Nat.mod_lt x (show y > 0 by omega)
      omega
theorem y_ratio (a b : Int) (h0 : b ≠ 0) (hb : Sz 8000 b) (k : QF (.p (frq (Rat.divInt a b))) [some (.p (.int a)), some (.p (.int b))]) : wF s__law_ratio [.p (.int a), .p (.int b)] QF := by
  unfold s__law_ratio
  refine w_fn rfl ?_
  unfold b__law_ratio
  have e : (if 0 < b then ((Int.gcd a b : Nat) : Int) else -((Int.gcd a b : Nat) : Int)) = (Int.gcd a b : Int) * (if 0 < b then 1 else -1) := by
    split <;> omega
  have hg := divOk_sz (low_sz h0 hb (a := a)) (low_ne h0) (by decide)
  have e1 := low_num (a := a) h0
  have e2 := low_den (a := a) h0
  walk_at "ev"
  refine w_bd ?_ ?_ <;> intro h1
  · rw [if_pos h1, Int.mul_one] at hg e1 e2
    walk_at "ev"
    refine y_gcd a b ?_
    walk_at "ev"
    show QF (.p (.tuple [.int (a.fdiv (Int.gcd a b : Int)), .int (b.fdiv (Int.gcd a b : Int))])) _
    rw [e1, e2]
    exact k
  · rw [if_neg h1] at hg e1 e2
    have e3 : (Int.gcd a b : Int) * -1 = -(Int.gcd a b : Int) := by omega
    rw [e3] at hg e1 e2
    walk_at "ev"
    refine y_gcd a b ?_
    walk_at "ev"
    show QF (.p (.tuple [.int (a.fdiv (-(Int.gcd a b : Int))), .int (b.fdiv (-(Int.gcd a b : Int)))])) _
    rw [e1, e2]
    exact k
end
section
variable {QF : D → List (Option D) → Prop} {QD : D → Prop} {Q2 : D × D → Prop}
theorem fzp {q : PyData} {P : PyData → Prop} (k : P q) : ∃ r, fz (.p q) = some r ∧ P r := ⟨q, rfl, k⟩
end
end GH
namespace GH
open PySem L2 RZ
local macro_rules | `(tactic| walk_at "szt") => `(tactic| (repeat (first | assumption | with_reducible refine Sz.mul ?_ ?_ | with_reducible refine Sz.add ?_ ?_ | with_reducible refine Sz.sub ?_ ?_ | with_reducible refine Sz.neg ?_ | exact (show Sz 64 _ by unfold Sz; omega))))
local macro_rules | `(tactic| walk_at "guard") => `(tactic| first
  | assumption | exact mulOk_l (by decide) | exact mulOk_r (by decide)
  | exact mulOk_l (by omega) | exact mulOk_r (by omega)
  | (refine mulOk_sz (m := ?_) (n := ?_) ?_ ?_ ?_; rotate_left 2; · walk_at "szt"
     · walk_at "szt"
     · decide)
  | (refine divOk_sz (m := ?_) ?_ (by omega) ?_; rotate_left 1; · walk_at "szt"
     · decide)
  | decide)
local macro_rules | `(tactic| walk_at "ev0") => `(tactic| first
  | with_reducible refine w_seq ?_
  | with_reducible refine w_bin ?_
  | with_reducible refine w_argC ?_
  | with_reducible refine w_argN ?_
  | with_reducible refine w_ret ?_
  | ((with_reducible apply w_rd); exact rfl)
  | ((with_reducible apply w_mv); exact rfl)
  | ((with_reducible apply w_nrm); (first
      | ((with_reducible show outsOf _ _ _ = _); ((simp (decide := true) only [outsOf, List.range, List.range.loop, List.map, List.getElem?_cons_zero, List.getElem?_cons_succ, if_true, if_false, Option.join_some, Option.join_none]) <;> exact rfl))
      | ((dsimp only [List.set_cons_zero, List.set_cons_succ, rst, setAll, wipeG, List.map, List.append, List.reduceReplicate, Nat.reduceSub, Int.reduceToNat, List.cons_append, List.nil_append, List.append_nil, List.getElem?_cons_zero, List.getElem?_cons_succ]) <;> exact rfl)
      | exact rfl))
  | with_reducible refine w_una ?_
  | with_reducible refine w_app ?_
  | with_reducible refine w_call ?_
  | (with_reducible refine w_rdO ⟨rfl, rfl⟩ ?_)
  | ((with_reducible apply w_slot); exact rfl)
  | ((with_reducible apply w_rdU); exact rfl)
  | with_reducible refine w_isT ?_
  | with_reducible refine w_db ?_
  | with_reducible refine w_asg ?_
  | ((with_reducible apply w_gnm); exact of_decide_eq_true rfl)
  | with_reducible refine w_ifS ?_
  | with_reducible refine w_ifM ?_
  | with_reducible refine w_retS ?_
  | with_reducible refine w_nx ?_
  | with_reducible refine w_drop ?_
  | with_reducible refine w_par ?_
  | with_reducible refine w_two ?_
  | ((with_reducible apply w_inr); · (unfold InR; first | omega | (simp; omega)))
  | with_reducible refine w_parL ?_
  | with_reducible refine w_parG ?_
  | with_reducible refine w_gconsD ?_
  | with_reducible refine w_gnilD ?_
  | (with_reducible refine ⟨⟨rfl, rfl⟩, ?_⟩)
  | with_reducible refine w_add ?_
  | with_reducible refine w_sub ?_
  | ((with_reducible apply w_mul); · walk_at "guard")
  | ((with_reducible apply w_fdiv); · walk_at "guard")
  | ((with_reducible apply w_mod); · first | assumption | decide | omega)
  | with_reducible refine w_neg ?_
  | with_reducible refine w_notD ?_
  | with_reducible refine w_lt ?_
  | with_reducible refine w_le ?_
  | with_reducible refine w_gt ?_
  | with_reducible refine w_ge ?_
  | with_reducible refine w_eq ?_
  | with_reducible refine w_ne ?_
  | with_reducible refine w_abs ?_
  | with_reducible refine w_notN0 ?_
  | with_reducible refine w_notNT ?_
  | with_reducible refine w_isN0 ?_
  | with_reducible refine w_isNT ?_
  | ((with_reducible apply w_ixl); exact rfl)
  | ((with_reducible apply w_ixT0); exact rfl)
  | ((with_reducible apply w_ixN); exact rfl)
  | with_reducible refine w_un1 ?_
  | with_reducible refine w_intI ?_
  | with_reducible refine w_intB ?_
  | with_reducible refine w_gcd ?_
  | ((with_reducible apply w_isiT); exact rfl)
  | ((with_reducible apply w_isiI); exact rfl)
  | ((with_reducible apply w_isiB); exact rfl)
  | ((with_reducible apply w_isiS); exact rfl)
  | ((with_reducible apply w_isiL); exact rfl)
  | with_reducible refine w_frz ?_
  | ((with_reducible apply w_tup); exact of_decide_eq_true rfl; exact rfl)
  | ((with_reducible apply w_lst1); exact of_decide_eq_true rfl)
  | with_reducible refine w_lenT ?_
  | with_reducible refine w_lenL ?_
  | with_reducible refine w_lenO ?_
  | ((with_reducible apply w_powT); exact of_decide_eq_true rfl; (simp only [Int.reduceToNat, Int.reducePow]; exact rfl))
  | with_reducible refine w_while ?_
  | with_reducible refine w_for ?_
  | with_reducible refine w_lc ?_
  | with_reducible refine w_and ?_
  | with_reducible refine w_any ?_
  | ((with_reducible apply w_itL); exact rfl)
  | ((with_reducible apply w_itT); exact rfl)
  | ((with_reducible apply w_itL); exact fz_l (fzs_map _))
  | ((with_reducible apply w_rdl); exact rfl; exact fz_l (fzs_map _))
  | with_reducible refine w_cutT ?_
  | with_reducible refine w_cutP ?_
  | with_reducible refine w_cutO ?_
  | with_reducible refine w_rng1 ?_
  | with_reducible refine w_rng2 ?_
  | with_reducible refine w_one ?_
  | with_reducible refine w_twoI ?_
  | with_reducible refine w_zip ?_
  | with_reducible refine w_enum ?_
  | with_reducible refine w_enumA ?_
  | with_reducible refine w_ones ?_
  | ((with_reducible apply w_itS); exact rfl)
  | with_reducible refine w_or ?_
  | with_reducible refine w_not ?_
  | with_reducible refine w_yes ?_
  | with_reducible refine w_noP ?_
  | with_reducible refine w_someP ?_
  | with_reducible refine w_int ?_
  | (with_reducible refine w_sliceN ⟨rfl, rfl⟩ ?_)
  | with_reducible refine w_sliceM ?_
  | (with_reducible refine w_argL ⟨rfl, rfl⟩ ?_)
  | with_reducible refine w_callK ?_
  | with_reducible refine w_chain ?_
  | with_reducible refine w_chq ?_
  | with_reducible refine w_andM ?_
  | with_reducible refine w_orM ?_
  | ((with_reducible apply w_mvl); exact rfl)
  | ((with_reducible apply w_rdl); exact rfl; exact rfl)
  | ((with_reducible apply w_gtup); exact rfl; exact rfl)
  | with_reducible refine w_gcons ?_
  | with_reducible refine w_gnil ?_
  | ((with_reducible apply w_mutN); exact rfl)
  | ((with_reducible apply w_mutP); exact rfl; exact rfl)
  | ((with_reducible apply w_rdP); exact rfl; exact rfl)
  | (with_reducible refine ⟨rfl, ?_⟩)
  | ((with_reducible apply w_gset); exact rfl)
  | with_reducible refine w_lst ?_
  | with_reducible refine w_bn ?_
  | ((with_reducible apply w_bt); · decide)
  | ((with_reducible apply w_bf); · decide)
  | with_reducible refine w_bt (show isTup _ = true from rfl) ?_
  | with_reducible refine w_bf (show isTup _ = false from rfl) ?_
  | with_reducible refine w_bt (show isInt _ = true from rfl) ?_
  | with_reducible refine w_bf (show isInt _ = false from rfl) ?_
  | with_reducible refine w_bt (show isBool _ = true from rfl) ?_
  | with_reducible refine w_bf (show isBool _ = false from rfl) ?_
  | with_reducible refine w_bt (show isStr _ = true from rfl) ?_
  | with_reducible refine w_bf (show isStr _ = false from rfl) ?_
  | with_reducible refine w_bt (show isList _ = true from rfl) ?_
  | with_reducible refine w_bf (show isList _ = false from rfl) ?_
  | ((with_reducible apply w_rdK); exact rfl; exact rfl)
  | ((with_reducible apply w_mutK); exact rfl; exact rfl)
  | ((with_reducible apply w_mvm); exact rfl)
  | ((with_reducible apply w_rdPK); exact rfl; exact rfl)
  | with_reducible refine w_setK ?_
  | ((with_reducible apply w_slotK); exact rfl; exact rfl)
  | ((with_reducible apply w_dsp); exact rfl))
local macro_rules | `(tactic| walk_at "ev1") => `(tactic| first
  | walk_at "ev0"
  | ((with_reducible apply w_bt); · (refine decide_eq_true ?_; first | with_reducible rfl | assumption | omega))
  | ((with_reducible apply w_bf); · (refine decide_eq_false ?_; first | assumption | omega)))
local macro_rules | `(tactic| walk_at "ev") => `(tactic| repeat walk_at "ev1")
local macro_rules | `(tactic| walk_at "ew") => `(tactic| repeat walk_at "ev0")
local macro_rules | `(tactic| walk_at "dr") => `(tactic| repeat first
  | walk_at "ev0"
  | with_reducible refine fzp ?_
  | ((with_reducible apply y_draw); · assumption
     · first | decide | (simp; done) | omega
     intro v cs' m' z' hv0 hv1 hd))
section
variable {QF : D → List (Option D) → Prop} {QD : D → Prop} {Q2 : D × D → Prop}
theorem isQ3 (a b c : PyData) : isQ (.l [.p a, .p b, .p c]) [a, b, c] := isQ_l [a, b, c]
theorem isQ2 (a b : PyData) : isQ (.l [.p a, .p b]) [a, b] := isQ_l [a, b]
theorem isQ4 (a b c d : PyData) : isQ (.l [.p a, .p b, .p c, .p d]) [a, b, c, d] := isQ_l [a, b, c, d]
theorem isQ6 (a b c d e f : PyData) : isQ (.l [.p a, .p b, .p c, .p d, .p e, .p f]) [a, b, c, d, e, f] := isQ_l [a, b, c, d, e, f]
theorem w_smulL {qs : List PyData} {n : Int} (h : 0 ≤ n ∧ n ≤ 1000 ∧ qs.length ≤ 1000) (k : QD (.l ((List.replicate n.toNat qs).flatten.map .p))) : wO (smulD (.l (qs.map .p)) (.p (.int n))) QD := by
  refine ⟨_, ?_, k⟩
  show (if 0 ≤ n ∧ n ≤ 1000 ∧ (qs.map D.p).length ≤ 1000 then _ else none) = _
  rw [if_pos (by rw [List.length_map]; exact h), flatP_map]
  rfl
theorem divInt_zero {t e : Int} (he : 1 ≤ e) (h : Rat.divInt t e = 0) : t = 0 := by
  rw [Rat.divInt_eq_div] at h
  have e0 : (e : Rat) ≠ 0 := by
    have : e ≠ 0 := by omega
    exact_mod_cast this
  have h2 : (t : Rat) = 0 := by
    generalize (t : Rat) = T at *
    generalize (e : Rat) = E at *
    grind
  exact_mod_cast h2
theorem y_fraction (cs : List Int) (m z : Int) (b : Bool) (hd : Dk cs m) (k : ∀ q cs' m' z', SQ 110 q → (b = false → q ≠ 0) → Dk cs' m' → QF (.p (frq q)) [some (dk cs' m' z'), some (.p (.bool b))]) : wF s__law_fraction [dk cs m z, .p (.bool b)] QF := by
  unfold s__law_fraction
  refine w_fn rfl ?_
  unfold b__law_fraction
  walk_at "dr"
  refine w_smulL (qs := [.int 0, .int 0]) ⟨by split <;> decide, by split <;> decide, by decide⟩ ?_
  refine w_addL (by simp; split <;> simp) ?_
  have hL : ∃ qs : List PyData, ([D.p (.int 1), .p (.int 1), .p (.int (-1)), .p (.int 2), .p (.int (-3)), .p (.int 5), .p (.int (-7)), .p (.int 12)] ++ ((List.replicate (if b = true then (1 : Int) else 0).toNat [PyData.int 0, .int 0]).flatten.map .p) : List D) = qs.map .p ∧ 1 ≤ qs.length ∧ qs.length < 1000 ∧ ∀ q ∈ qs, ∃ n : Int, q = .int n ∧ -7 ≤ n ∧ n ≤ 12 ∧ (b = false → n ≠ 0) := by
    cases b
    · refine ⟨[.int 1, .int 1, .int (-1), .int 2, .int (-3), .int 5, .int (-7), .int 12], rfl, by decide, by decide, fun q hq => ?_⟩
      simp only [List.mem_cons, List.not_mem_nil, or_false] at hq
      rcases hq with rfl | rfl | rfl | rfl | rfl | rfl | rfl | rfl <;> exact ⟨_, rfl, by decide, by decide, fun _ => by decide⟩
    · refine ⟨[.int 1, .int 1, .int (-1), .int 2, .int (-3), .int 5, .int (-7), .int 12, .int 0, .int 0], rfl, by decide, by decide, fun q hq => ?_⟩
      simp only [List.mem_cons, List.not_mem_nil, or_false] at hq
      rcases hq with rfl | rfl | rfl | rfl | rfl | rfl | rfl | rfl | rfl | rfl <;> exact ⟨_, rfl, by decide, by decide, fun h => nomatch h⟩
  obtain ⟨qs, eq, l1, l2, hq⟩ := hL
  rw [eq]
  walk_at "dr"
  refine y_pick _ _ _ _ qs (isQ_l qs) hd ⟨l1, l2⟩ fun q hq' cs m z hd => ?_
  obtain ⟨n, rfl, n1, n2, n3⟩ := hq q hq'
  clear hq hq' eq l1 l2
  walk_at "dr"
  refine w_midB (fun Γ' => ∃ (t : Int) (cs : List Int) (m z : Int), Sz 105 t ∧ (b = false → t ≠ 0) ∧ Dk cs m ∧ Γ' = [some (dk cs m z), some (.p (.bool b)), some (.p (.int t))]) ?_ ?_
  · refine w_bd ?_ ?_ <;> intro h
    · walk_at "dr"
      refine y_pick _ _ _ _ _ (isQ2 _ _) (by assumption) ⟨by decide, by decide⟩ fun q hq cs m z hd => ?_
      obtain ⟨e, rfl, he⟩ : ∃ e : Int, q = .int e ∧ (e = 1 ∨ e = -1) := by
        simp only [List.mem_cons, List.not_mem_nil, or_false] at hq
        rcases hq with rfl | rfl <;> exact ⟨_, rfl, by decide⟩
      walk_at "dr"
      refine ⟨_, _, _, _, ?_, fun _ => ?_, hd, rfl⟩
      · unfold Sz
        omega
      · omega
    · walk_at "dr"
      exact ⟨n, _, _, _, by unfold Sz; omega, n3, by assumption, rfl⟩
  rintro _ ⟨t, cs, m, z, st, t0, hd, rfl⟩
  walk_at "dr"
  refine y_pick _ _ _ _ _ (isQ6 _ _ _ _ _ _) hd ⟨by decide, by decide⟩ fun q hq cs m z hd => ?_
  obtain ⟨e, rfl, e1, e2⟩ : ∃ e : Int, q = .int e ∧ 1 ≤ e ∧ e ≤ 10 := by
    simp only [List.mem_cons, List.not_mem_nil, or_false] at hq
    rcases hq with rfl | rfl | rfl | rfl | rfl | rfl <;> exact ⟨_, rfl, by decide, by decide⟩
  walk_at "dr"
  have se : Sz 4 e := by unfold Sz; omega
  refine y_ratio _ _ (by omega) (se.mono (by decide)) ?_
  walk_at "dr"
  refine k _ _ _ _ (SQ.divInt (n := 110) (by omega) (st.mono (by decide)) (se.mono (by decide))) (fun hb h => ?_) hd
  exact t0 hb (divInt_zero e1 h)
end
end GH
namespace GH
open PySem L2 RZ
local macro_rules | `(tactic| walk_at "szt") => `(tactic| (repeat (first | assumption | with_reducible refine Sz.mul ?_ ?_ | with_reducible refine Sz.add ?_ ?_ | with_reducible refine Sz.sub ?_ ?_ | with_reducible refine Sz.neg ?_ | exact (show Sz 64 _ by unfold Sz; omega))))
local macro_rules | `(tactic| walk_at "guard") => `(tactic| first
  | assumption | exact mulOk_l (by decide) | exact mulOk_r (by decide)
  | exact mulOk_l (by omega) | exact mulOk_r (by omega)
  | (refine mulOk_sz (m := ?_) (n := ?_) ?_ ?_ ?_; rotate_left 2; · walk_at "szt"
     · walk_at "szt"
     · decide)
  | (refine divOk_sz (m := ?_) ?_ (by omega) ?_; rotate_left 1; · walk_at "szt"
     · decide)
  | decide)
local macro_rules | `(tactic| walk_at "ev0") => `(tactic| first
  | with_reducible refine w_seq ?_
  | with_reducible refine w_bin ?_
  | with_reducible refine w_argC ?_
  | with_reducible refine w_argN ?_
  | with_reducible refine w_ret ?_
  | ((with_reducible apply w_rd); exact rfl)
  | ((with_reducible apply w_mv); exact rfl)
  | ((with_reducible apply w_nrm); (first
      | ((with_reducible show outsOf _ _ _ = _); ((simp (decide := true) only [outsOf, List.range, List.range.loop, List.map, List.getElem?_cons_zero, List.getElem?_cons_succ, if_true, if_false, Option.join_some, Option.join_none]) <;> exact rfl))
      | ((dsimp only [List.set_cons_zero, List.set_cons_succ, rst, setAll, wipeG, List.map, List.append, List.reduceReplicate, Nat.reduceSub, Int.reduceToNat, List.cons_append, List.nil_append, List.append_nil, List.getElem?_cons_zero, List.getElem?_cons_succ]) <;> exact rfl)
      | exact rfl))
  | with_reducible refine w_una ?_
  | with_reducible refine w_app ?_
  | with_reducible refine w_call ?_
  | (with_reducible refine w_rdO ⟨rfl, rfl⟩ ?_)
  | ((with_reducible apply w_slot); exact rfl)
  | ((with_reducible apply w_rdU); exact rfl)
  | with_reducible refine w_isT ?_
  | with_reducible refine w_db ?_
  | with_reducible refine w_asg ?_
  | ((with_reducible apply w_gnm); exact of_decide_eq_true rfl)
  | with_reducible refine w_ifS ?_
  | with_reducible refine w_ifM ?_
  | with_reducible refine w_retS ?_
  | with_reducible refine w_nx ?_
  | with_reducible refine w_drop ?_
  | with_reducible refine w_par ?_
  | with_reducible refine w_two ?_
  | ((with_reducible apply w_inr); · (unfold InR; first | omega | (simp; omega)))
  | with_reducible refine w_parL ?_
  | with_reducible refine w_parG ?_
  | with_reducible refine w_gconsD ?_
  | with_reducible refine w_gnilD ?_
  | (with_reducible refine ⟨⟨rfl, rfl⟩, ?_⟩)
  | with_reducible refine w_add ?_
  | with_reducible refine w_sub ?_
  | ((with_reducible apply w_mul); · walk_at "guard")
  | ((with_reducible apply w_fdiv); · walk_at "guard")
  | ((with_reducible apply w_mod); · first | assumption | decide | omega)
  | with_reducible refine w_neg ?_
  | with_reducible refine w_notD ?_
  | with_reducible refine w_lt ?_
  | with_reducible refine w_le ?_
  | with_reducible refine w_gt ?_
  | with_reducible refine w_ge ?_
  | with_reducible refine w_eq ?_
  | with_reducible refine w_ne ?_
  | with_reducible refine w_abs ?_
  | with_reducible refine w_notN0 ?_
  | with_reducible refine w_notNT ?_
  | with_reducible refine w_isN0 ?_
  | with_reducible refine w_isNT ?_
  | ((with_reducible apply w_ixl); exact rfl)
  | ((with_reducible apply w_ixT0); exact rfl)
  | ((with_reducible apply w_ixN); exact rfl)
  | with_reducible refine w_un1 ?_
  | with_reducible refine w_intI ?_
  | with_reducible refine w_intB ?_
  | with_reducible refine w_gcd ?_
  | ((with_reducible apply w_isiT); exact rfl)
  | ((with_reducible apply w_isiI); exact rfl)
  | ((with_reducible apply w_isiB); exact rfl)
  | ((with_reducible apply w_isiS); exact rfl)
  | ((with_reducible apply w_isiL); exact rfl)
  | with_reducible refine w_frz ?_
  | ((with_reducible apply w_tup); exact of_decide_eq_true rfl; exact rfl)
  | ((with_reducible apply w_lst1); exact of_decide_eq_true rfl)
  | with_reducible refine w_lenT ?_
  | with_reducible refine w_lenL ?_
  | with_reducible refine w_lenO ?_
  | ((with_reducible apply w_powT); exact of_decide_eq_true rfl; (simp only [Int.reduceToNat, Int.reducePow]; exact rfl))
  | with_reducible refine w_while ?_
  | with_reducible refine w_for ?_
  | with_reducible refine w_lc ?_
  | with_reducible refine w_and ?_
  | with_reducible refine w_any ?_
  | ((with_reducible apply w_itL); exact rfl)
  | ((with_reducible apply w_itT); exact rfl)
  | ((with_reducible apply w_itL); exact fz_l (fzs_map _))
  | ((with_reducible apply w_rdl); exact rfl; exact fz_l (fzs_map _))
  | with_reducible refine w_cutT ?_
  | with_reducible refine w_cutP ?_
  | with_reducible refine w_cutO ?_
  | with_reducible refine w_rng1 ?_
  | with_reducible refine w_rng2 ?_
  | with_reducible refine w_one ?_
  | with_reducible refine w_twoI ?_
  | with_reducible refine w_zip ?_
  | with_reducible refine w_enum ?_
  | with_reducible refine w_enumA ?_
  | with_reducible refine w_ones ?_
  | ((with_reducible apply w_itS); exact rfl)
  | with_reducible refine w_or ?_
  | with_reducible refine w_not ?_
  | with_reducible refine w_yes ?_
  | with_reducible refine w_noP ?_
  | with_reducible refine w_someP ?_
  | with_reducible refine w_int ?_
  | (with_reducible refine w_sliceN ⟨rfl, rfl⟩ ?_)
  | with_reducible refine w_sliceM ?_
  | (with_reducible refine w_argL ⟨rfl, rfl⟩ ?_)
  | with_reducible refine w_callK ?_
  | with_reducible refine w_chain ?_
  | with_reducible refine w_chq ?_
  | with_reducible refine w_andM ?_
  | with_reducible refine w_orM ?_
  | ((with_reducible apply w_mvl); exact rfl)
  | ((with_reducible apply w_rdl); exact rfl; exact rfl)
  | ((with_reducible apply w_gtup); exact rfl; exact rfl)
  | with_reducible refine w_gcons ?_
  | with_reducible refine w_gnil ?_
  | ((with_reducible apply w_mutN); exact rfl)
  | ((with_reducible apply w_mutP); exact rfl; exact rfl)
  | ((with_reducible apply w_rdP); exact rfl; exact rfl)
  | (with_reducible refine ⟨rfl, ?_⟩)
  | ((with_reducible apply w_gset); exact rfl)
  | with_reducible refine w_lst ?_
  | with_reducible refine w_bn ?_
  | ((with_reducible apply w_bt); · decide)
  | ((with_reducible apply w_bf); · decide)
  | with_reducible refine w_bt (show isTup _ = true from rfl) ?_
  | with_reducible refine w_bf (show isTup _ = false from rfl) ?_
  | with_reducible refine w_bt (show isInt _ = true from rfl) ?_
  | with_reducible refine w_bf (show isInt _ = false from rfl) ?_
  | with_reducible refine w_bt (show isBool _ = true from rfl) ?_
  | with_reducible refine w_bf (show isBool _ = false from rfl) ?_
  | with_reducible refine w_bt (show isStr _ = true from rfl) ?_
  | with_reducible refine w_bf (show isStr _ = false from rfl) ?_
  | with_reducible refine w_bt (show isList _ = true from rfl) ?_
  | with_reducible refine w_bf (show isList _ = false from rfl) ?_
  | ((with_reducible apply w_rdK); exact rfl; exact rfl)
  | ((with_reducible apply w_mutK); exact rfl; exact rfl)
  | ((with_reducible apply w_mvm); exact rfl)
  | ((with_reducible apply w_rdPK); exact rfl; exact rfl)
  | with_reducible refine w_setK ?_
  | ((with_reducible apply w_slotK); exact rfl; exact rfl)
  | ((with_reducible apply w_dsp); exact rfl))
local macro_rules | `(tactic| walk_at "ev1") => `(tactic| first
  | walk_at "ev0"
  | ((with_reducible apply w_bt); · (refine decide_eq_true ?_; first | with_reducible rfl | assumption | omega))
  | ((with_reducible apply w_bf); · (refine decide_eq_false ?_; first | assumption | omega)))
local macro_rules | `(tactic| walk_at "ev") => `(tactic| repeat walk_at "ev1")
local macro_rules | `(tactic| walk_at "ew") => `(tactic| repeat walk_at "ev0")
local macro_rules | `(tactic| walk_at "dr") => `(tactic| repeat first
  | walk_at "ev0"
  | with_reducible refine fzp ?_
  | ((with_reducible apply y_draw); · assumption
     · first | decide | (simp; done) | omega
     intro v cs' m' z' hv0 hv1 hd))
section
variable {QF : D → List (Option D) → Prop} {QD : D → Prop} {Q2 : D × D → Prop}
theorem rngL_succ (lo : Int) (n : Nat) : rngL lo (n + 1) = .int lo :: rngL (lo + 1) n := by
  unfold rngL
  rw [List.range_succ_eq_map, List.map_cons, List.map_map]
  refine congr (congrArg _ ?_) (List.map_congr_left fun i _ => ?_)
  · show PyData.int (lo + ((0 : Nat) : Int)) = _
    rw [Int.natCast_zero, Int.add_zero]
  · show PyData.int (lo + ((i + 1 : Nat) : Int)) = .int (lo + 1 + (i : Int))
    congr 1
    omega
theorem Ro.strL {s : Str} {n : Nat} (h : (reprText s).length ≤ n) : Ro n 0 (.str s) := ⟨by simp [bigS], by rw [szt]; exact h, by simp [PyData.depth]⟩
theorem Ro.t2 {n k m : Nat} {a b : PyData} (ha : Ro n k a) (hb : Ro m k b) : Ro (n + m + 7) (k + 1) (.tuple [a, b]) := by
  obtain ⟨a1, a2, a3⟩ := ha
  obtain ⟨b1, b2, b3⟩ := hb
  refine ⟨by simp only [bigS, bigSs, a1, b1]; rfl, by simp only [szt, szts]; omega, by simp only [PyData.depth, PyData.depthAll]; omega⟩
theorem Ro.t3 {n k m l : Nat} {a b c : PyData} (ha : Ro n k a) (hb : Ro m k b) (hc : Ro l k c) : Ro (n + m + l + 9) (k + 1) (.tuple [a, b, c]) := by
  obtain ⟨a1, a2, a3⟩ := ha
  obtain ⟨b1, b2, b3⟩ := hb
  obtain ⟨c1, c2, c3⟩ := hc
  refine ⟨by simp only [bigS, bigSs, a1, b1, c1]; rfl, by simp only [szt, szts]; omega, by simp only [PyData.depth, PyData.depthAll]; omega⟩
theorem Ro.tupn {n k m : Nat} {ds : List PyData} (h : ∀ x ∈ ds, Ro n k x) (hl : ds.length ≤ m) : Ro (m * (n + 2) + 3) (k + 1) (.tuple ds) :=
  (Ro.tup h).mono (Nat.add_le_add_right (Nat.mul_le_mul_right _ hl) _) (Nat.le_refl _)
theorem Ro.listn {n k m : Nat} {ds : List PyData} (h : ∀ x ∈ ds, Ro n k x) (hl : ds.length ≤ m) : Ro (m * (n + 2) + 3) (k + 1) (.list ds) :=
  (Ro.list h).mono (Nat.add_le_add_right (Nat.mul_le_mul_right _ hl) _) (Nat.le_refl _)
/-- names that are drawn from -/
abbrev names13 : List Str := ["x", "y", "z", "a", "b2", "v1", "v2", "v3", "all", "order", "note", "abcdefgh", "q"]
theorem names_ok : ∀ s ∈ names13, (reprText s).length ≤ 20 := by
  have h : names13.all (fun s => decide ((reprText s).length ≤ 20)) = true := by decide +kernel
  intro s hs
  exact of_decide_eq_true (List.all_eq_true.mp h s hs)
def NmOk (ss : List Str) : Prop := 1 ≤ ss.length ∧ ss.length ≤ 3 ∧ ∀ s ∈ ss, s ∈ names13
abbrev stL (ss : List Str) : List PyData := ss.map .str
theorem strs_alike (ss : List Str) : (stL ss).all (fun d => (stL ss).all fun d' => PySem.W.alike d d') = true := by
  rw [List.all_eq_true]
  intro d hd
  rw [List.all_eq_true]
  intro d' hd'
  obtain ⟨s, _, rfl⟩ := List.mem_map.mp hd
  obtain ⟨s', _, rfl⟩ := List.mem_map.mp hd'
  rfl
theorem depth_strs : ∀ ss : List Str, PyData.depthAll (stL ss) = 0
  | [] => by simp [PyData.depthAll]
  | s :: ss => by
    have := depth_strs ss
    show PyData.depthAll (.str s :: stL ss) = 0
    rw [PyData.depthAll, this]
    simp [PyData.depth]
theorem sortOk_strs {ss : List Str} (h : ss.length ≤ 1000) : sortOk (stL ss) = true := by
  unfold sortOk
  rw [strs_alike, depth_strs]
  have : (stL ss).all noT = true := by
    rw [List.all_eq_true]
    intro d hd
    obtain ⟨s, _, rfl⟩ := List.mem_map.mp hd
    rfl
  rw [this]
  simp
  omega
theorem w_sortS {d : D} {ss : List Str} (hd : fz d = some (.list (stL ss))) (h : ss.length ≤ 1000) (k : ∀ ts : List Str, ts.Perm ss → QD (.l ((stL ts).map .p))) : wO (sortD d) QD := by
  obtain ⟨ts, ht, e⟩ : ∃ ts : List Str, ts.Perm ss ∧ sortQ (stL ss) = stL ts := by
    have p : (sortQ (stL ss)).Perm (stL ss) := List.mergeSort_perm _ _
    have hm : ∀ x ∈ sortQ (stL ss), ∃ s, x = .str s := fun x hx => by
      obtain ⟨s, _, rfl⟩ := List.mem_map.mp (p.mem_iff.mp hx)
      exact ⟨s, rfl⟩
    have : ∀ l : List PyData, (∀ x ∈ l, ∃ s, x = .str s) → ∃ ts : List Str, l = stL ts := by
      intro l
      induction l with
      | nil => exact fun _ => ⟨[], rfl⟩
      | cons x l ih =>
        intro h
        obtain ⟨s, rfl⟩ := h x List.mem_cons_self
        obtain ⟨ts, rfl⟩ := ih fun y hy => h y (List.mem_cons_of_mem _ hy)
        exact ⟨s :: ts, rfl⟩
    obtain ⟨ts, e⟩ := this _ hm
    refine ⟨ts, ?_, e⟩
    rw [e] at p
    have back : ∀ l : List Str, (stL l).map (fun d => match d with | .str s => s | _ => "") = l := fun l => by
      rw [List.map_map]
      exact (List.map_congr_left fun s _ => rfl).trans (List.map_id _)
    have := p.map (fun d => match d with | PyData.str s => s | _ => "")
    rwa [back, back] at this
  refine ⟨_, ?_, k ts ht⟩
  unfold sortD
  rw [hd]
  dsimp only
  rw [if_pos (sortOk_strs h), e]
def Pt (ss : List Str) (p : PyData) : Prop := ∃ s r, p = .tuple [.str s, r] ∧ s ∈ ss
def SumOk (ss : List Str) (q : PyData) : Prop := ∃ ps c, q = .tuple [.tuple ps, c] ∧ ps.length ≤ 3 ∧ ∀ p ∈ ps, Pt ss p
theorem y_sum (cs : List Int) (m z : Int) (d : D) (ss : List Str) (hq : isQ d (stL ss)) (hs : NmOk ss) (hd : Dk cs m) (k : ∀ q cs' m' z' d', Ro 1400 4 q → SumOk ss q → isQ d' (stL ss) → Dk cs' m' → QF (.p q) [some (dk cs' m' z'), some d']) : wF s__law_sum [dk cs m z, d] QF := by
  unfold s__law_sum
  refine w_fn rfl ?_
  unfold b__law_sum
  have core : ∀ d1 : D, isQ d1 (stL ss) → wE (lcM [3] (anyI (appD (un1 sortD) (argC (rdM 1) argN))) (gnm 3) (isT (bin ltD (callM s__law_draw [some 0, none] (argC (mvM 0) (argC (ret (.p (.int 5))) argN))) (ret (.p (.int 2))))) (appD tupD (argC (rdM 3) (argC (callM s__law_fraction [some 0, none] (argC (mvM 0) (argC (ret (.p (.bool false))) argN))) argN)))) [some (dk cs m z), some d1, none, none] (fun d Γ' => ∃ (qs : List PyData) (cs : List Int) (m z : Int) (d' : D), d = .l (qs.map .p) ∧ qs.length ≤ 3 ∧ (∀ q ∈ qs, Ro 300 2 q ∧ Pt ss q) ∧ Dk cs m ∧ isQ d' (stL ss) ∧ Γ' = [some (dk cs m z), some d', none, none]) := by
    intro d1 hq1
    have rest : ∀ ts : List Str, ts.Perm ss → wC [3] (gnm 3) (isT (bin ltD (callM s__law_draw [some 0, none] (argC (mvM 0) (argC (ret (.p (.int 5))) argN))) (ret (.p (.int 2))))) (appD tupD (argC (rdM 3) (argC (callM s__law_fraction [some 0, none] (argC (mvM 0) (argC (ret (.p (.bool false))) argN))) argN))) (stL ts) [some (dk cs m z), some (.p (.list (stL ss))), none, none] [] (fun xs Γ3 => ∃ (qs : List PyData) (cs : List Int) (m z : Int) (d' : D), D.l xs = .l (qs.map .p) ∧ qs.length ≤ 3 ∧ (∀ q ∈ qs, Ro 300 2 q ∧ Pt ss q) ∧ Dk cs m ∧ isQ d' (stL ss) ∧ Γ3 = [some (dk cs m z), some d', none, none]) := by
      intro ts hp
      have hl := hp.length_eq
      refine w_loopC (fun ds Γ acc => ∃ (us : List Str) (qs : List PyData) (cs : List Int) (m z : Int), ds = stL us ∧ (∀ s ∈ us, s ∈ ss) ∧ acc = qs.map .p ∧ us.length + qs.length ≤ 3 ∧ (∀ q ∈ qs, Ro 300 2 q ∧ Pt ss q) ∧ Dk cs m ∧ Γ = [some (dk cs m z), some (.p (.list (stL ss))), none, none]) ⟨ts, [], cs, m, z, rfl, fun s h => hp.mem_iff.mp h, rfl, by have := hs.2.1; simp; omega, (fun _ h => nomatch h), hd, rfl⟩ ?_ ?_
      · clear hd
        rintro q ds Γ acc ⟨us, qs, cs, m, z, e, hu, rfl, hn, hq, hd, rfl⟩
        cases us with
        | nil => cases e
        | cons u us =>
          cases e
          have hu1 := hu u List.mem_cons_self
          have hu2 : ∀ s ∈ us, s ∈ ss := fun s h => hu s (List.mem_cons_of_mem _ h)
          simp only [List.length_cons] at hn
          walk_at "dr"
          refine w_bd ?_ ?_ <;> intro h
          · walk_at "dr"
            refine y_fraction _ _ _ _ (by assumption) fun r cs m z hr _ hd => ?_
            walk_at "dr"
            refine ⟨us, qs ++ [.tuple [.str u, frq r]], cs, m, z, rfl, hu2, by simp, by simp; omega, fun q hq' => ?_, hd, rfl⟩
            rcases List.mem_append.mp hq' with hq' | hq'
            · exact hq q hq'
            · rw [List.mem_singleton] at hq'
              subst hq'
              exact ⟨(((Ro.strL (names_ok _ (hs.2.2 u hu1))).mono (Nat.le_refl _) (show 0 ≤ 1 by decide)).t2 (Ro.frq hr (by decide))).mono (by decide) (by decide), u, _, rfl, hu1⟩
          · walk_at "dr"
            exact ⟨us, qs, _, _, _, rfl, hu2, rfl, by omega, hq, by assumption, rfl⟩
      · rintro Γ acc ⟨us, qs, cs, m, z, e, hu, rfl, hn, hq, hd, rfl⟩
        exact ⟨qs, cs, m, z, _, rfl, by omega, hq, hd, isQ_p _, rfl⟩
    rcases hq1.2 with ⟨xs, rfl, rfl⟩ | rfl
    · walk_at "dr"
      refine w_sortS (ss := ss) rfl (by have := hs.2.1; omega) fun ts hp => ?_
      walk_at "dr"
      refine ⟨by have := hp.length_eq; have := hs.2.1; simp; omega, ?_⟩
      walk_at "dr"
      exact rest ts hp
    · walk_at "dr"
      refine w_sortS (ss := ss) rfl (by have := hs.2.1; omega) fun ts hp => ?_
      walk_at "dr"
      refine ⟨by have := hp.length_eq; have := hs.2.1; simp; omega, ?_⟩
      walk_at "dr"
      exact rest ts hp
  iterate 3 walk_at "ev0"
  refine w_midE _ (core d hq) ?_
  rintro _ _ ⟨qs, cs, m, z, d', rfl, hl, hr, hd, hq', rfl⟩
  walk_at "dr"
  refine w_tupleL rfl ?_
  walk_at "dr"
  refine y_fraction _ _ _ _ hd fun r cs m z hr2 _ hd => ?_
  walk_at "dr"
  exact k _ _ _ _ _ (((Ro.tupn (fun x hx => (hr x hx).1) hl).t2 ((Ro.frq hr2 (by decide)).mono (Nat.le_refl _) (by decide))).mono (by decide) (by decide)) ⟨qs, _, rfl, hl, fun p hp => (hr p hp).2⟩ hq' hd
end
end GH
namespace GH
open PySem L2 RZ
local macro_rules | `(tactic| walk_at "szt") => `(tactic| (repeat (first | assumption | with_reducible refine Sz.mul ?_ ?_ | with_reducible refine Sz.add ?_ ?_ | with_reducible refine Sz.sub ?_ ?_ | with_reducible refine Sz.neg ?_ | exact (show Sz 64 _ by unfold Sz; omega))))
local macro_rules | `(tactic| walk_at "guard") => `(tactic| first
  | assumption | exact mulOk_l (by decide) | exact mulOk_r (by decide)
  | exact mulOk_l (by omega) | exact mulOk_r (by omega)
  | (refine mulOk_sz (m := ?_) (n := ?_) ?_ ?_ ?_; rotate_left 2; · walk_at "szt"
     · walk_at "szt"
     · decide)
  | (refine divOk_sz (m := ?_) ?_ (by omega) ?_; rotate_left 1; · walk_at "szt"
     · decide)
  | decide)
local macro_rules | `(tactic| walk_at "ev0") => `(tactic| first
  | with_reducible refine w_seq ?_
  | with_reducible refine w_bin ?_
  | with_reducible refine w_argC ?_
  | with_reducible refine w_argN ?_
  | with_reducible refine w_ret ?_
  | ((with_reducible apply w_rd); exact rfl)
  | ((with_reducible apply w_mv); exact rfl)
  | ((with_reducible apply w_nrm); (first
      | ((with_reducible show outsOf _ _ _ = _); ((simp (decide := true) only [outsOf, List.range, List.range.loop, List.map, List.getElem?_cons_zero, List.getElem?_cons_succ, if_true, if_false, Option.join_some, Option.join_none]) <;> exact rfl))
      | ((dsimp only [List.set_cons_zero, List.set_cons_succ, rst, setAll, wipeG, List.map, List.append, List.reduceReplicate, Nat.reduceSub, Int.reduceToNat, List.cons_append, List.nil_append, List.append_nil, List.getElem?_cons_zero, List.getElem?_cons_succ]) <;> exact rfl)
      | exact rfl))
  | with_reducible refine w_una ?_
  | with_reducible refine w_app ?_
  | with_reducible refine w_call ?_
  | (with_reducible refine w_rdO ⟨rfl, rfl⟩ ?_)
  | ((with_reducible apply w_slot); exact rfl)
  | ((with_reducible apply w_rdU); exact rfl)
  | with_reducible refine w_isT ?_
  | with_reducible refine w_db ?_
  | with_reducible refine w_asg ?_
  | ((with_reducible apply w_gnm); exact of_decide_eq_true rfl)
  | with_reducible refine w_ifS ?_
  | with_reducible refine w_ifM ?_
  | with_reducible refine w_retS ?_
  | with_reducible refine w_nx ?_
  | with_reducible refine w_drop ?_
  | with_reducible refine w_par ?_
  | with_reducible refine w_two ?_
  | ((with_reducible apply w_inr); · (unfold InR; first | omega | (simp; omega)))
  | with_reducible refine w_parL ?_
  | with_reducible refine w_parG ?_
  | with_reducible refine w_gconsD ?_
  | with_reducible refine w_gnilD ?_
  | (with_reducible refine ⟨⟨rfl, rfl⟩, ?_⟩)
  | with_reducible refine w_add ?_
  | with_reducible refine w_sub ?_
  | ((with_reducible apply w_mul); · walk_at "guard")
  | ((with_reducible apply w_fdiv); · walk_at "guard")
  | ((with_reducible apply w_mod); · first | assumption | decide | omega)
  | with_reducible refine w_neg ?_
  | with_reducible refine w_notD ?_
  | with_reducible refine w_lt ?_
  | with_reducible refine w_le ?_
  | with_reducible refine w_gt ?_
  | with_reducible refine w_ge ?_
  | with_reducible refine w_eq ?_
  | with_reducible refine w_ne ?_
  | with_reducible refine w_abs ?_
  | with_reducible refine w_notN0 ?_
  | with_reducible refine w_notNT ?_
  | with_reducible refine w_isN0 ?_
  | with_reducible refine w_isNT ?_
  | ((with_reducible apply w_ixl); exact rfl)
  | ((with_reducible apply w_ixT0); exact rfl)
  | ((with_reducible apply w_ixN); exact rfl)
  | with_reducible refine w_un1 ?_
  | with_reducible refine w_intI ?_
  | with_reducible refine w_intB ?_
  | with_reducible refine w_gcd ?_
  | ((with_reducible apply w_isiT); exact rfl)
  | ((with_reducible apply w_isiI); exact rfl)
  | ((with_reducible apply w_isiB); exact rfl)
  | ((with_reducible apply w_isiS); exact rfl)
  | ((with_reducible apply w_isiL); exact rfl)
  | with_reducible refine w_frz ?_
  | ((with_reducible apply w_tup); exact of_decide_eq_true rfl; exact rfl)
  | ((with_reducible apply w_lst1); exact of_decide_eq_true rfl)
  | with_reducible refine w_lenT ?_
  | with_reducible refine w_lenL ?_
  | with_reducible refine w_lenO ?_
  | ((with_reducible apply w_powT); exact of_decide_eq_true rfl; (simp only [Int.reduceToNat, Int.reducePow]; exact rfl))
  | with_reducible refine w_while ?_
  | with_reducible refine w_for ?_
  | with_reducible refine w_lc ?_
  | with_reducible refine w_and ?_
  | with_reducible refine w_any ?_
  | ((with_reducible apply w_itL); exact rfl)
  | ((with_reducible apply w_itT); exact rfl)
  | ((with_reducible apply w_itL); exact fz_l (fzs_map _))
  | ((with_reducible apply w_rdl); exact rfl; exact fz_l (fzs_map _))
  | with_reducible refine w_cutT ?_
  | with_reducible refine w_cutP ?_
  | with_reducible refine w_cutO ?_
  | with_reducible refine w_rng1 ?_
  | with_reducible refine w_rng2 ?_
  | with_reducible refine w_one ?_
  | with_reducible refine w_twoI ?_
  | with_reducible refine w_zip ?_
  | with_reducible refine w_enum ?_
  | with_reducible refine w_enumA ?_
  | with_reducible refine w_ones ?_
  | ((with_reducible apply w_itS); exact rfl)
  | with_reducible refine w_or ?_
  | with_reducible refine w_not ?_
  | with_reducible refine w_yes ?_
  | with_reducible refine w_noP ?_
  | with_reducible refine w_someP ?_
  | with_reducible refine w_int ?_
  | (with_reducible refine w_sliceN ⟨rfl, rfl⟩ ?_)
  | with_reducible refine w_sliceM ?_
  | (with_reducible refine w_argL ⟨rfl, rfl⟩ ?_)
  | with_reducible refine w_callK ?_
  | with_reducible refine w_chain ?_
  | with_reducible refine w_chq ?_
  | with_reducible refine w_andM ?_
  | with_reducible refine w_orM ?_
  | ((with_reducible apply w_mvl); exact rfl)
  | ((with_reducible apply w_rdl); exact rfl; exact rfl)
  | ((with_reducible apply w_gtup); exact rfl; exact rfl)
  | with_reducible refine w_gcons ?_
  | with_reducible refine w_gnil ?_
  | ((with_reducible apply w_mutN); exact rfl)
  | ((with_reducible apply w_mutP); exact rfl; exact rfl)
  | ((with_reducible apply w_rdP); exact rfl; exact rfl)
  | (with_reducible refine ⟨rfl, ?_⟩)
  | ((with_reducible apply w_gset); exact rfl)
  | with_reducible refine w_lst ?_
  | with_reducible refine w_bn ?_
  | ((with_reducible apply w_bt); · decide)
  | ((with_reducible apply w_bf); · decide)
  | with_reducible refine w_bt (show isTup _ = true from rfl) ?_
  | with_reducible refine w_bf (show isTup _ = false from rfl) ?_
  | with_reducible refine w_bt (show isInt _ = true from rfl) ?_
  | with_reducible refine w_bf (show isInt _ = false from rfl) ?_
  | with_reducible refine w_bt (show isBool _ = true from rfl) ?_
  | with_reducible refine w_bf (show isBool _ = false from rfl) ?_
  | with_reducible refine w_bt (show isStr _ = true from rfl) ?_
  | with_reducible refine w_bf (show isStr _ = false from rfl) ?_
  | with_reducible refine w_bt (show isList _ = true from rfl) ?_
  | with_reducible refine w_bf (show isList _ = false from rfl) ?_
  | ((with_reducible apply w_rdK); exact rfl; exact rfl)
  | ((with_reducible apply w_mutK); exact rfl; exact rfl)
  | ((with_reducible apply w_mvm); exact rfl)
  | ((with_reducible apply w_rdPK); exact rfl; exact rfl)
  | with_reducible refine w_setK ?_
  | ((with_reducible apply w_slotK); exact rfl; exact rfl)
  | ((with_reducible apply w_dsp); exact rfl))
local macro_rules | `(tactic| walk_at "ev1") => `(tactic| first
  | walk_at "ev0"
  | ((with_reducible apply w_bt); · (refine decide_eq_true ?_; first | with_reducible rfl | assumption | omega))
  | ((with_reducible apply w_bf); · (refine decide_eq_false ?_; first | assumption | omega)))
local macro_rules | `(tactic| walk_at "ev") => `(tactic| repeat walk_at "ev1")
local macro_rules | `(tactic| walk_at "ew") => `(tactic| repeat walk_at "ev0")
local macro_rules | `(tactic| walk_at "dr") => `(tactic| repeat first
  | walk_at "ev0"
  | with_reducible refine fzp ?_
  | ((with_reducible apply y_draw); · assumption
     · first | decide | (simp; done) | omega
     intro v cs' m' z' hv0 hv1 hd))
section
variable {QF : D → List (Option D) → Prop} {QD : D → Prop} {Q2 : D × D → Prop}
mutual
inductive FT : Nat → Nat → PyData → Prop
  | leaf {n : Nat} {w : Str} {ps : List PyData} {c : PyData} : w = "ge" ∨ w = "gt" ∨ w = "eq" → ps.length ≤ 3 → (∀ p ∈ ps, Pt names13 p) → Ro 1400 4 (.tuple [.tuple ps, c]) → FT (n + 1) 1 (.tuple [.str w, .tuple [.tuple ps, c]])
  | junct {n m : Nat} {w : Str} {qs : List PyData} : w = "and" ∨ w = "or" → qs.length ≤ 3 → FTs n m qs → FT (n + 1) (m + 1) (.tuple [.str w, .tuple qs])
  | neg {n m : Nat} {q : PyData} : FT n m q → FT (n + 1) (m + 1) (.tuple [.str "not", q])
  | quant {n m : Nat} {w s : Str} {q : PyData} : w = "each" ∨ w = "some" → s ∈ names13 → FT n m q → FT (n + 1) (m + 1) (.tuple [.str w, .str s, q])
inductive FTs : Nat → Nat → List PyData → Prop
  | nil {n : Nat} : FTs n 0 []
  | cons {n a b : Nat} {q : PyData} {qs : List PyData} : FT n a q → FTs n b qs → FTs n (a + b) (q :: qs)
end
def Tr (n : Nat) (q : PyData) : Prop := ∃ m, FT n m q
theorem tr_all {n : Nat} : ∀ {qs : List PyData}, (∀ q ∈ qs, Tr n q) → ∃ m, FTs n m qs
  | [], _ => ⟨0, .nil⟩
  | q :: qs, h => by
    obtain ⟨a, ha⟩ := h q List.mem_cons_self
    obtain ⟨b, hb⟩ := tr_all (qs := qs) fun x hx => h x (List.mem_cons_of_mem _ hx)
    exact ⟨a + b, .cons ha hb⟩
theorem tr_leaf {n : Nat} {w : Str} {q : PyData} {ss : List Str} (hw : w = "ge" ∨ w = "gt" ∨ w = "eq") (hs : NmOk ss) (h : SumOk ss q) (hr : Ro 1400 4 q) : Tr (n + 1) (.tuple [.str w, q]) := by
  obtain ⟨ps, c, rfl, hl, hp⟩ := h
  exact ⟨1, .leaf hw hl (fun p h => by
    obtain ⟨s, r, e, hm⟩ := hp p h
    exact ⟨s, r, e, hs.2.2 s hm⟩) hr⟩
theorem tr_junct {n : Nat} {w : Str} {qs : List PyData} (hw : w = "and" ∨ w = "or") (hl : qs.length ≤ 3) (h : ∀ q ∈ qs, Tr n q) : Tr (n + 1) (.tuple [.str w, .tuple qs]) := by
  obtain ⟨m, hm⟩ := tr_all h
  exact ⟨m + 1, .junct hw hl hm⟩
theorem tr_neg {n : Nat} {q : PyData} (h : Tr n q) : Tr (n + 1) (.tuple [.str "not", q]) := by
  obtain ⟨m, hm⟩ := h
  exact ⟨m + 1, .neg hm⟩
theorem tr_quant {n : Nat} {w s : Str} {q : PyData} (hw : w = "each" ∨ w = "some") (hs : s ∈ names13) (h : Tr n q) : Tr (n + 1) (.tuple [.str w, .str s, q]) := by
  obtain ⟨m, hm⟩ := h
  exact ⟨m + 1, .quant hw hs hm⟩
def tB : Nat → Nat
  | 0 => 480
  | n + 1 => 3 * tB n + 80
theorem tB_pos (n : Nat) : 480 ≤ tB n := by
  induction n with
  | zero => decide
  | succ n ih => rw [tB]; omega
theorem word_ro {s : Str} (h : (reprText s).length ≤ 20) {k : Nat} : Ro 20 k (.str s) := (Ro.strL h).mono (Nat.le_refl _) (Nat.zero_le _)
theorem pick_cmp (cs : List Int) (m z : Int) (hd : Dk cs m) (k : ∀ (w : Str) cs' m' z', (w = "ge" ∨ w = "gt" ∨ w = "eq") → (reprText w).length ≤ 20 → Dk cs' m' → QF (.p (.str w)) [some (dk cs' m' z'), some (.l [.p (.str "ge"), .p (.str "gt"), .p (.str "eq")])]) : wF s__law_pick [dk cs m z, .l [.p (.str "ge"), .p (.str "gt"), .p (.str "eq")]] QF := by
  refine y_pick _ _ _ _ _ (isQ3 _ _ _) hd ⟨by decide, by decide⟩ fun q hq' cs m z hd => ?_
  simp only [List.mem_cons, List.not_mem_nil, or_false] at hq'
  rcases hq' with rfl | rfl | rfl
  · exact k _ _ _ _ (.inl rfl) (by decide +kernel) hd
  · exact k _ _ _ _ (.inr (.inl rfl)) (by decide +kernel) hd
  · exact k _ _ _ _ (.inr (.inr rfl)) (by decide +kernel) hd
theorem pick_two (a b : Str) (ha : (reprText a).length ≤ 20) (hb : (reprText b).length ≤ 20) (cs : List Int) (m z : Int) (hd : Dk cs m) (k : ∀ (w : Str) cs' m' z', (w = a ∨ w = b) → (reprText w).length ≤ 20 → Dk cs' m' → QF (.p (.str w)) [some (dk cs' m' z'), some (.l [.p (.str a), .p (.str b)])]) : wF s__law_pick [dk cs m z, .l [.p (.str a), .p (.str b)]] QF := by
  refine y_pick _ _ _ _ _ (isQ2 _ _) hd ⟨by simp, by simp⟩ fun q hq' cs m z hd => ?_
  simp only [List.mem_cons, List.not_mem_nil, or_false] at hq'
  rcases hq' with rfl | rfl
  · exact k _ _ _ _ (.inl rfl) ha hd
  · exact k _ _ _ _ (.inr rfl) hb hd
theorem y_tree : ∀ (n f : Nat) (hf : n < f) (cs : List Int) (m z : Int) (d : D) (ss : List Str) (_ : isQ d (stL ss)) (_ : NmOk ss) (_ : Dk cs m) {QF : D → List (Option D) → Prop} (_ : ∀ q cs' m' z' d', Ro (tB (n + 1)) (2 * n + 8) q → Tr (n + 1) q → isQ d' (stL ss) → Dk cs' m' → QF (.p q) [some (dk cs' m' z'), some d', some (.p (.int ((n + 1 : Nat) : Int)))]), wF (sr__law_tree f) [dk cs m z, d, .p (.int ((n + 1 : Nat) : Int))] QF := by
  intro n
  induction n with
  | zero =>
    intro f hf cs m z d ss hq hs hd QF k
    obtain ⟨f, rfl⟩ : ∃ g, f = g + 1 := ⟨f - 1, by omega⟩
    show wF (runF 6 3 [0, 1, 2] (b__law_tree (sr__law_tree f))) _ _
    refine w_fn rfl ?_
    unfold b__law_tree
    have hsl : ∀ q, Ro 1400 4 q → ∀ s : Str, (reprText s).length ≤ 20 → Ro (tB (0 + 1)) (2 * 0 + 8) (.tuple [.str s, q]) := fun q hq s h => ((word_ro h).t2 hq).mono (by decide) (by decide)
    walk_at "dr"
    refine w_bd ?_ ?_ <;> intro h1
    · walk_at "dr"
      refine pick_cmp _ _ _ (by assumption) fun w cs m z hw hl hd => ?_
      rcases hq.2 with ⟨xs, rfl, rfl⟩ | rfl
      all_goals
        walk_at "dr"
        refine y_sum _ _ _ _ ss (by first | exact isQ_l _ | exact isQ_p _) hs hd fun q cs m z d' hr hso hq' hd => ?_
        walk_at "dr"
        first | exact k _ _ _ _ _ (hsl q hr w hl) (tr_leaf hw hs hso hr) hq' hd | exact k _ _ _ _ _ (hsl q hr w hl) (tr_leaf hw hs hso hr) (isQ_p _) hd
    · walk_at "dr"
      refine w_bt (decide_eq_true (by omega)) ?_
      walk_at "dr"
      refine pick_two "and" "or" (by decide +kernel) (by decide +kernel) _ _ _ (by assumption) fun w cs m z hw hl hd => ?_
      walk_at "dr"
      exact k _ _ _ _ _ (hsl _ ((Ro.tupn (n := 0) (k := 0) (m := 0) (ds := []) (fun _ h => nomatch h) (by simp)).mono (by decide) (by decide)) w hl) (tr_junct hw (by simp) (fun _ h => nomatch h)) hq hd
  | succ n ih =>
    intro f hf cs m z d ss hq hs hd QF k
    obtain ⟨f, rfl⟩ : ∃ g, f = g + 1 := ⟨f - 1, by omega⟩
    have ihf := ih f (by omega)
    have hB := tB_pos (n + 1)
    have hBe : tB (n + 1 + 1) = 3 * tB (n + 1) + 80 := rfl
    show wF (runF 6 3 [0, 1, 2] (b__law_tree (sr__law_tree f))) _ _
    refine w_fn rfl ?_
    unfold b__law_tree
    have hsl : ∀ q, Ro 1400 4 q → ∀ s : Str, (reprText s).length ≤ 20 → Ro (tB (n + 1 + 1)) (2 * (n + 1) + 8) (.tuple [.str s, q]) := fun q hq s h => ((word_ro h).t2 hq).mono (by omega) (by omega)
    walk_at "dr"
    refine w_bt (decide_eq_true (by omega)) ?_
    walk_at "dr"
    rename_i v cs1 m1 z1 v0 v1 hd1
    refine w_bd ?_ ?_ <;> intro h1
    · walk_at "dr"
      refine pick_cmp _ _ _ (by assumption) fun w cs m z hw hl hd => ?_
      rcases hq.2 with ⟨xs, rfl, rfl⟩ | rfl
      all_goals
        walk_at "dr"
        refine y_sum _ _ _ _ ss (by first | exact isQ_l _ | exact isQ_p _) hs hd fun q cs m z d' hr hso hq' hd => ?_
        walk_at "dr"
        first | exact k _ _ _ _ _ (hsl q hr w hl) (tr_leaf hw hs hso hr) hq' hd | exact k _ _ _ _ _ (hsl q hr w hl) (tr_leaf hw hs hso hr) (isQ_p _) hd
    · walk_at "dr"
      refine w_bd ?_ ?_ <;> intro h2
      · walk_at "dr"
        refine pick_two "and" "or" (by decide +kernel) (by decide +kernel) _ _ _ (by assumption) fun w cs m z hw hl hd => ?_
        walk_at "dr"
        exact k _ _ _ _ _ (hsl _ ((Ro.tupn (n := 0) (k := 0) (m := 0) (ds := []) (fun _ h => nomatch h) (by simp)).mono (by decide) (by decide)) w hl) (tr_junct hw (by simp) (fun _ h => nomatch h)) hq hd
      · walk_at "dr"
        refine w_bd ?_ ?_ <;> intro h3
        · rcases hq.2 with ⟨xs, rfl, rfl⟩ | rfl
          all_goals
            walk_at "dr"
            rw [show ((n + 1 + 1 : Nat) : Int) - 1 = ((n + 1 : Nat) : Int) by omega]
            refine ihf _ _ _ _ ss (by first | exact isQ_l _ | exact isQ_p _) hs (by assumption) fun q cs m z d' hr ht hq' hd => ?_
            have r9 : Ro (tB (n + 1 + 1)) (2 * (n + 1) + 8) (.tuple [.str "not", q]) := ((word_ro (by decide +kernel)).t2 hr).mono (by omega) (by omega)
            walk_at "dr"
            first | exact k _ _ _ _ _ r9 (tr_neg ht) hq' hd | exact k _ _ _ _ _ r9 (tr_neg ht) (isQ_p _) hd
        · walk_at "dr"
          refine w_bd ?_ ?_ <;> intro h4
          · walk_at "dr"
            refine y_pick _ _ _ _ _ (isQ4 _ _ _ _) (by assumption) ⟨by decide, by decide⟩ fun q hq' cs m z hd => ?_
            obtain ⟨mm, rfl, hmm⟩ : ∃ mm : Nat, q = .int mm ∧ mm ≤ 3 := by
              simp only [List.mem_cons, List.not_mem_nil, or_false] at hq'
              rcases hq' with rfl | rfl | rfl | rfl
              · exact ⟨2, rfl, by decide⟩
              · exact ⟨2, rfl, by decide⟩
              · exact ⟨2, rfl, by decide⟩
              · exact ⟨3, rfl, by decide⟩
            walk_at "dr"
            refine pick_two "and" "or" (by decide +kernel) (by decide +kernel) _ _ _ (by assumption) fun w cs m z hw hl hd => ?_
            walk_at "dr"
            refine ⟨by simp [rngL]; omega, ?_⟩
            rw [Int.toNat_natCast]
            walk_at "dr"
            refine w_loopC (fun ds Γ acc => ∃ (i : Int) (j : Nat) (qs : List PyData) (cs : List Int) (m z : Int) (d : D), ds = rngL i j ∧ acc = qs.map .p ∧ j + qs.length ≤ 3 ∧ (∀ q ∈ qs, Ro (tB (n + 1)) (2 * n + 8) q ∧ Tr (n + 1) q) ∧ isQ d (stL ss) ∧ Dk cs m ∧ Γ = [some (dk cs m z), some d, some (.p (.int ((n + 1 + 1 : Nat) : Int))), some (.p (.int v)), some (.p (.int (mm : Int))), none]) ⟨0, mm, [], cs, m, z, d, rfl, rfl, by simpa using hmm, (fun _ h => nomatch h), hq, hd, rfl⟩ ?_ ?_
            · rintro q ds Γ acc ⟨i, j, qs, cs, m, z, d, e, rfl, hj, hqs, hq, hd, rfl⟩
              cases j with
              | zero => cases e
              | succ j =>
                rw [rngL_succ] at e
                cases e
                rcases hq.2 with ⟨xs, rfl, rfl⟩ | rfl
                all_goals
                  walk_at "dr"
                  rw [show ((n + 1 + 1 : Nat) : Int) - 1 = ((n + 1 : Nat) : Int) by omega]
                  refine ihf _ _ _ _ ss (by first | exact isQ_l _ | exact isQ_p _) hs hd fun q cs m z d' hr ht hq' hd => ?_
                  have h9 : ∀ x ∈ qs ++ [q], Ro (tB (n + 1)) (2 * n + 8) x ∧ Tr (n + 1) x := fun x hx => by
                    rcases List.mem_append.mp hx with hx | hx
                    · exact hqs x hx
                    · rw [List.mem_singleton] at hx
                      exact hx ▸ ⟨hr, ht⟩
                  walk_at "dr"
                  first
                    | exact ⟨i + 1, j, qs ++ [q], _, _, _, _, rfl, by simp, by simp; omega, h9, hq', hd, rfl⟩
                    | exact ⟨i + 1, j, qs ++ [q], _, _, _, _, rfl, by simp, by simp; omega, h9, isQ_p _, hd, rfl⟩
            · rintro Γ acc ⟨i, j, qs, cs, m, z, d, e, rfl, hj, hqs, hq, hd, rfl⟩
              walk_at "dr"
              refine w_tupleL (fz_l (fzs_map _)) ?_
              have r9 : Ro (tB (n + 1 + 1)) (2 * (n + 1) + 8) (.tuple [.str w, .tuple qs]) := ((word_ro hl).t2 (Ro.tupn (fun x hx => (hqs x hx).1) (show qs.length ≤ 3 by omega))).mono (by omega) (by omega)
              walk_at "dr"
              exact k _ _ _ _ _ r9 (tr_junct hw (by omega) fun x hx => (hqs x hx).2) hq hd
          · walk_at "dr"
            refine pick_two "each" "some" (by decide +kernel) (by decide +kernel) _ _ _ (by assumption) fun w cs m z hw hl hd => ?_
            rcases hq.2 with ⟨xs, rfl, rfl⟩ | rfl
            all_goals
              walk_at "dr"
              refine y_pick _ _ _ _ (stL ss) (by first | exact isQ_l _ | exact isQ_p _) hd ⟨by simpa using hs.1, by have := hs.2.1; simp; omega⟩ fun q hq' cs m z hd => ?_
              obtain ⟨nm, hnm, rfl⟩ := List.mem_map.mp hq'
              have hn20 := names_ok _ (hs.2.2 nm hnm)
              walk_at "dr"
              rw [show ((n + 1 + 1 : Nat) : Int) - 1 = ((n + 1 : Nat) : Int) by omega]
              refine ihf _ _ _ _ ss (by first | exact isQ_l _ | exact isQ_p _) hs hd fun q cs m z d' hr ht hq' hd => ?_
              have r9 : Ro (tB (n + 1 + 1)) (2 * (n + 1) + 8) (.tuple [.str w, .str nm, q]) := ((word_ro hl).t3 (word_ro hn20) hr).mono (by omega) (by omega)
              walk_at "dr"
              first | exact k _ _ _ _ _ r9 (tr_quant hw (hs.2.2 nm hnm) ht) hq' hd | exact k _ _ _ _ _ r9 (tr_quant hw (hs.2.2 nm hnm) ht) (isQ_p _) hd
end
end GH
namespace GH
open PySem L2 RZ
local macro_rules | `(tactic| walk_at "szt") => `(tactic| (repeat (first | assumption | with_reducible refine Sz.mul ?_ ?_ | with_reducible refine Sz.add ?_ ?_ | with_reducible refine Sz.sub ?_ ?_ | with_reducible refine Sz.neg ?_ | exact (show Sz 64 _ by unfold Sz; omega))))
local macro_rules | `(tactic| walk_at "guard") => `(tactic| first
  | assumption | exact mulOk_l (by decide) | exact mulOk_r (by decide)
  | exact mulOk_l (by omega) | exact mulOk_r (by omega)
  | (refine mulOk_sz (m := ?_) (n := ?_) ?_ ?_ ?_; rotate_left 2; · walk_at "szt"
     · walk_at "szt"
     · decide)
  | (refine divOk_sz (m := ?_) ?_ (by omega) ?_; rotate_left 1; · walk_at "szt"
     · decide)
  | decide)
local macro_rules | `(tactic| walk_at "ev0") => `(tactic| first
  | with_reducible refine w_seq ?_
  | with_reducible refine w_bin ?_
  | with_reducible refine w_argC ?_
  | with_reducible refine w_argN ?_
  | with_reducible refine w_ret ?_
  | ((with_reducible apply w_rd); exact rfl)
  | ((with_reducible apply w_mv); exact rfl)
  | ((with_reducible apply w_nrm); (first
      | ((with_reducible show outsOf _ _ _ = _); ((simp (decide := true) only [outsOf, List.range, List.range.loop, List.map, List.getElem?_cons_zero, List.getElem?_cons_succ, if_true, if_false, Option.join_some, Option.join_none]) <;> exact rfl))
      | ((dsimp only [List.set_cons_zero, List.set_cons_succ, rst, setAll, wipeG, List.map, List.append, List.reduceReplicate, Nat.reduceSub, Int.reduceToNat, List.cons_append, List.nil_append, List.append_nil, List.getElem?_cons_zero, List.getElem?_cons_succ]) <;> exact rfl)
      | exact rfl))
  | with_reducible refine w_una ?_
  | with_reducible refine w_app ?_
  | with_reducible refine w_call ?_
  | (with_reducible refine w_rdO ⟨rfl, rfl⟩ ?_)
  | ((with_reducible apply w_slot); exact rfl)
  | ((with_reducible apply w_rdU); exact rfl)
  | with_reducible refine w_isT ?_
  | with_reducible refine w_db ?_
  | with_reducible refine w_asg ?_
  | ((with_reducible apply w_gnm); exact of_decide_eq_true rfl)
  | with_reducible refine w_ifS ?_
  | with_reducible refine w_ifM ?_
  | with_reducible refine w_retS ?_
  | with_reducible refine w_nx ?_
  | with_reducible refine w_drop ?_
  | with_reducible refine w_par ?_
  | with_reducible refine w_two ?_
  | ((with_reducible apply w_inr); · (unfold InR; first | omega | (simp; omega)))
  | with_reducible refine w_parL ?_
  | with_reducible refine w_parG ?_
  | with_reducible refine w_gconsD ?_
  | with_reducible refine w_gnilD ?_
  | (with_reducible refine ⟨⟨rfl, rfl⟩, ?_⟩)
  | with_reducible refine w_add ?_
  | with_reducible refine w_sub ?_
  | ((with_reducible apply w_mul); · walk_at "guard")
  | ((with_reducible apply w_fdiv); · walk_at "guard")
  | ((with_reducible apply w_mod); · first | assumption | decide | omega)
  | with_reducible refine w_neg ?_
  | with_reducible refine w_notD ?_
  | with_reducible refine w_lt ?_
  | with_reducible refine w_le ?_
  | with_reducible refine w_gt ?_
  | with_reducible refine w_ge ?_
  | with_reducible refine w_eq ?_
  | with_reducible refine w_ne ?_
  | with_reducible refine w_abs ?_
  | with_reducible refine w_notN0 ?_
  | with_reducible refine w_notNT ?_
  | with_reducible refine w_isN0 ?_
  | with_reducible refine w_isNT ?_
  | ((with_reducible apply w_ixl); exact rfl)
  | ((with_reducible apply w_ixT0); exact rfl)
  | ((with_reducible apply w_ixN); exact rfl)
  | with_reducible refine w_un1 ?_
  | with_reducible refine w_intI ?_
  | with_reducible refine w_intB ?_
  | with_reducible refine w_gcd ?_
  | ((with_reducible apply w_isiT); exact rfl)
  | ((with_reducible apply w_isiI); exact rfl)
  | ((with_reducible apply w_isiB); exact rfl)
  | ((with_reducible apply w_isiS); exact rfl)
  | ((with_reducible apply w_isiL); exact rfl)
  | with_reducible refine w_frz ?_
  | ((with_reducible apply w_tup); exact of_decide_eq_true rfl; exact rfl)
  | ((with_reducible apply w_lst1); exact of_decide_eq_true rfl)
  | with_reducible refine w_lenT ?_
  | with_reducible refine w_lenL ?_
  | with_reducible refine w_lenO ?_
  | ((with_reducible apply w_powT); exact of_decide_eq_true rfl; (simp only [Int.reduceToNat, Int.reducePow]; exact rfl))
  | with_reducible refine w_while ?_
  | with_reducible refine w_for ?_
  | with_reducible refine w_lc ?_
  | with_reducible refine w_and ?_
  | with_reducible refine w_any ?_
  | ((with_reducible apply w_itL); exact rfl)
  | ((with_reducible apply w_itT); exact rfl)
  | ((with_reducible apply w_itL); exact fz_l (fzs_map _))
  | ((with_reducible apply w_rdl); exact rfl; exact fz_l (fzs_map _))
  | with_reducible refine w_cutT ?_
  | with_reducible refine w_cutP ?_
  | with_reducible refine w_cutO ?_
  | with_reducible refine w_rng1 ?_
  | with_reducible refine w_rng2 ?_
  | with_reducible refine w_one ?_
  | with_reducible refine w_twoI ?_
  | with_reducible refine w_zip ?_
  | with_reducible refine w_enum ?_
  | with_reducible refine w_enumA ?_
  | with_reducible refine w_ones ?_
  | ((with_reducible apply w_itS); exact rfl)
  | with_reducible refine w_or ?_
  | with_reducible refine w_not ?_
  | with_reducible refine w_yes ?_
  | with_reducible refine w_noP ?_
  | with_reducible refine w_someP ?_
  | with_reducible refine w_int ?_
  | (with_reducible refine w_sliceN ⟨rfl, rfl⟩ ?_)
  | with_reducible refine w_sliceM ?_
  | (with_reducible refine w_argL ⟨rfl, rfl⟩ ?_)
  | with_reducible refine w_callK ?_
  | with_reducible refine w_chain ?_
  | with_reducible refine w_chq ?_
  | with_reducible refine w_andM ?_
  | with_reducible refine w_orM ?_
  | ((with_reducible apply w_mvl); exact rfl)
  | ((with_reducible apply w_rdl); exact rfl; exact rfl)
  | ((with_reducible apply w_gtup); exact rfl; exact rfl)
  | with_reducible refine w_gcons ?_
  | with_reducible refine w_gnil ?_
  | ((with_reducible apply w_mutN); exact rfl)
  | ((with_reducible apply w_mutP); exact rfl; exact rfl)
  | ((with_reducible apply w_rdP); exact rfl; exact rfl)
  | (with_reducible refine ⟨rfl, ?_⟩)
  | ((with_reducible apply w_gset); exact rfl)
  | with_reducible refine w_lst ?_
  | with_reducible refine w_bn ?_
  | ((with_reducible apply w_bt); · decide)
  | ((with_reducible apply w_bf); · decide)
  | with_reducible refine w_bt (show isTup _ = true from rfl) ?_
  | with_reducible refine w_bf (show isTup _ = false from rfl) ?_
  | with_reducible refine w_bt (show isInt _ = true from rfl) ?_
  | with_reducible refine w_bf (show isInt _ = false from rfl) ?_
  | with_reducible refine w_bt (show isBool _ = true from rfl) ?_
  | with_reducible refine w_bf (show isBool _ = false from rfl) ?_
  | with_reducible refine w_bt (show isStr _ = true from rfl) ?_
  | with_reducible refine w_bf (show isStr _ = false from rfl) ?_
  | with_reducible refine w_bt (show isList _ = true from rfl) ?_
  | with_reducible refine w_bf (show isList _ = false from rfl) ?_
  | ((with_reducible apply w_rdK); exact rfl; exact rfl)
  | ((with_reducible apply w_mutK); exact rfl; exact rfl)
  | ((with_reducible apply w_mvm); exact rfl)
  | ((with_reducible apply w_rdPK); exact rfl; exact rfl)
  | with_reducible refine w_setK ?_
  | ((with_reducible apply w_slotK); exact rfl; exact rfl)
  | ((with_reducible apply w_dsp); exact rfl))
local macro_rules | `(tactic| walk_at "ev1") => `(tactic| first
  | walk_at "ev0"
  | ((with_reducible apply w_bt); · (refine decide_eq_true ?_; first | with_reducible rfl | assumption | omega))
  | ((with_reducible apply w_bf); · (refine decide_eq_false ?_; first | assumption | omega)))
local macro_rules | `(tactic| walk_at "ev") => `(tactic| repeat walk_at "ev1")
local macro_rules | `(tactic| walk_at "ew") => `(tactic| repeat walk_at "ev0")
local macro_rules | `(tactic| walk_at "dr") => `(tactic| repeat first
  | walk_at "ev0"
  | with_reducible refine fzp ?_
  | ((with_reducible apply y_draw); · assumption
     · first | decide | (simp; done) | omega
     intro v cs' m' z' hv0 hv1 hd))
section
variable {QF : D → List (Option D) → Prop} {QD : D → Prop} {Q2 : D × D → Prop}
theorem allInts_map (ns : List Int) : allInts (ns.map .int) = some ns := by
  induction ns with
  | nil => rfl
  | cons n ns ih => show (allInts (ns.map .int)).map (n :: ·) = _; rw [ih]; rfl
theorem w_sum {d : D} {ns : List Int} (h : fz d = some (.list (ns.map .int))) (k : QD (.p (.int ns.sum))) : wO (sumD d) QD := ⟨_, by unfold sumD; rw [h]; dsimp only; rw [allInts_map]; rfl, k⟩
theorem w_ixNeg {xs ds : List PyData} {q : PyData} (h : xs = ds ++ [q]) (k : QD (.p q)) : wO (ixD (.p (.tuple xs)) (.p (.int (-1)))) QD := by
  subst h
  refine ⟨.p q, ?_, k⟩
  unfold ixD atI ixN
  dsimp only
  rw [if_neg (by decide), if_pos (by simp; omega)]
  have e : ((-1 : Int) + ((ds ++ [q]).length : Int)).toNat = ds.length := by simp; omega
  rw [e]
  simp
theorem y_nodes : ∀ (n m : Nat) (q : PyData), FT n m q → ∀ f, n ≤ f → ∀ {QF : D → List (Option D) → Prop}, QF (.p (.int (m : Nat))) [some (.p q)] → wF (sr__law_nodes f) [.p q] QF := by
  intro n
  induction n with
  | zero => intro m q ht; cases ht
  | succ n ih =>
    intro m q ht f hf QF k
    obtain ⟨f, rfl⟩ : ∃ g, f = g + 1 := ⟨f - 1, by omega⟩
    show wF (runF 2 1 [0] (b__law_nodes (sr__law_nodes f))) _ _
    have ihf : ∀ m q, FT n m q → ∀ {QF : D → List (Option D) → Prop}, QF (.p (.int (m : Nat))) [some (.p q)] → wF (sr__law_nodes f) [.p q] QF := fun m q hq => ih m q hq f (by omega)
    refine w_fn rfl ?_
    unfold b__law_nodes
    cases ht with
    | @leaf _ w ps c hw hl hp hr =>
      walk_at "ew"
      refine w_inS rfl rfl ?_
      walk_at "ew"
      refine w_bt (by rcases hw with rfl | rfl | rfl <;> decide +kernel) ?_
      walk_at "ew"
      exact k
    | @junct _ m w qs hw hl hq =>
      walk_at "ew"
      refine w_inS rfl rfl ?_
      walk_at "ew"
      refine w_bf (by rcases hw with rfl | rfl <;> decide +kernel) ?_
      walk_at "ew"
      refine w_notin rfl rfl ?_
      walk_at "ew"
      refine w_bt (by rcases hw with rfl | rfl <;> decide +kernel) ?_
      walk_at "ew"
      refine ⟨by omega, ?_⟩
      walk_at "ew"
      refine w_loopC (fun ds Γ acc => ∃ (ns : List Int) (r : Nat), FTs n r ds ∧ ns.sum + r = m ∧ acc = (ns.map PyData.int).map .p ∧ Γ = [some (.p (.tuple [.str w, .tuple qs])), none]) ⟨[], m, hq, by simp, rfl, rfl⟩ ?_ ?_
      · rintro q ds Γ acc ⟨ns, r, hd, hs, rfl, rfl⟩
        cases hd with
        | @cons _ a b _ _ h1 h2 =>
        walk_at "ew"
        refine ihf a q h1 ?_
        walk_at "ew"
        exact ⟨ns ++ [(a : Int)], b, h2, by simp; omega, by simp, rfl⟩
      · rintro Γ acc ⟨ns, r, hd, hs, rfl, rfl⟩
        cases hd
        walk_at "ew"
        refine w_sum (fz_l (fzs_map _)) ?_
        walk_at "ew"
        rw [show (1 : Int) + ns.sum = ((m + 1 : Nat) : Int) by omega]
        exact k
    | @neg _ m q hq =>
      walk_at "ew"
      refine w_inS rfl rfl ?_
      walk_at "ew"
      refine w_notin rfl rfl ?_
      walk_at "ew"
      refine ⟨by simp, ?_⟩
      walk_at "ew"
      refine w_C1 ?_
      walk_at "ew"
      refine ihf m q hq ?_
      walk_at "ew"
      refine w_C0 ?_
      walk_at "ew"
      refine w_sum (ns := [(m : Int)]) rfl ?_
      walk_at "ew"
      rw [show (1 : Int) + [(m : Int)].sum = ((m + 1 : Nat) : Int) by simp; omega]
      exact k
    | @quant _ m w s q hw hs hq =>
      walk_at "ew"
      refine w_inS rfl rfl ?_
      walk_at "ew"
      refine w_bf (by rcases hw with rfl | rfl <;> decide +kernel) ?_
      walk_at "ew"
      refine w_notin rfl rfl ?_
      walk_at "ew"
      refine w_bf (by rcases hw with rfl | rfl <;> decide +kernel) ?_
      walk_at "ew"
      refine ⟨by simp, ?_⟩
      walk_at "ew"
      refine w_C1 ?_
      walk_at "ew"
      refine ihf m q hq ?_
      walk_at "ew"
      refine w_C0 ?_
      walk_at "ew"
      refine w_sum (ns := [(m : Int)]) rfl ?_
      walk_at "ew"
      rw [show (1 : Int) + [(m : Int)].sum = ((m + 1 : Nat) : Int) by simp; omega]
      exact k
theorem map_er {α β : Type} (f : α → β) : ∀ (xs : List α) (i : Nat), (xs.map f).eraseIdx i = (xs.eraseIdx i).map f
  | [], _ => rfl
  | _ :: _, 0 => rfl
  | x :: xs, i + 1 => congrArg (f x :: ·) (map_er f xs i)
theorem w_popAt {xs : List D} {v : Int} (h0 : 0 ≤ v) (h1 : v < xs.length) (h2 : xs.length ≤ 1000000) (k : ∀ x, x ∈ xs → Q2 (x, .l (xs.eraseIdx v.toNat))) : wO (popAtD (.l xs) [.p (.int v)]) Q2 := by
  have hlt : v.toNat < xs.length := by omega
  refine ⟨(xs[v.toNat], .l (xs.eraseIdx v.toNat)), ?_, k _ (List.getElem_mem hlt)⟩
  unfold popAtD
  dsimp only
  rw [if_pos (by omega)]
  unfold ixN
  rw [if_pos h0, if_pos h1]
  show ((xs[v.toNat]?).map _) = _
  rw [List.getElem?_eq_getElem hlt]
  rfl
theorem y_mixed (cs : List Int) (m z : Int) (d : D) (qs : List PyData) (hq : isQ d qs) (hl : qs.length ≤ 100) (hd : Dk cs m) (k : ∀ (rs : List PyData) cs' m' z' o, (∀ r ∈ rs, r ∈ qs) → rs.length = qs.length → Dk cs' m' → QF (.l (rs.map .p)) [some (dk cs' m' z'), o]) : wF s__law_mixed [dk cs m z, d] QF := by
  unfold s__law_mixed
  refine w_fn rfl ?_
  unfold b__law_mixed
  rcases hq.2 with ⟨xs, rfl, rfl⟩ | rfl
  all_goals
    walk_at "ew"
    refine w_of (show listD _ = some (.l (qs.map .p)) from rfl) ?_
    walk_at "ew"
    refine w_loopW (fun n Γ => ∃ (left found : List PyData) (cs : List Int) (m z : Int), Γ = [some (dk cs m z), some (.p (.list qs)), some (.l (left.map .p)), some (.l (found.map .p))] ∧ Dk cs m ∧ (∀ x ∈ left, x ∈ qs) ∧ (∀ x ∈ found, x ∈ qs) ∧ left.length + found.length = qs.length ∧ left.length < n)
      ⟨qs, [], cs, m, z, rfl, hd, fun _ h => h, (fun _ h => nomatch h), by simp, by simp [m__law_mixed_1]⟩ ?_
    clear hd
    rintro n Γ ⟨left, found, cs, m, z, rfl, hd, h1, h2, h3, h4⟩
    refine ⟨n - 1, by omega, ?_⟩
    walk_at "ew"
    refine w_neE (fz_l (fzs_map _)) ?_
    walk_at "ew"
    refine w_bd ?_ ?_ <;> intro hne
    · have hpos : 0 < left.length := by
        cases left with
        | nil => exact absurd rfl hne
        | cons a l => simp
      walk_at "ew"
      rw [List.length_map]
      refine y_draw cs m z _ hd ⟨by omega, by omega⟩ fun v cs m z v0 v1 hd => ?_
      walk_at "ew"
      refine w_popAt v0 (by simpa using v1) (by simp; omega) fun x hx => ?_
      obtain ⟨q, hq', rfl⟩ := List.mem_map.mp hx
      walk_at "ew"
      refine w_append (by simp; omega) ?_
      walk_at "ew"
      have hlen : v.toNat < left.length := by omega
      refine ⟨left.eraseIdx v.toNat, found ++ [q], cs, m, z, ?_, hd, fun x hx => h1 x (List.mem_of_mem_eraseIdx hx), fun x hx => ?_, ?_, ?_⟩
      · rw [map_er]; simp
      · rcases List.mem_append.mp hx with hx | hx
        · exact h2 x hx
        · rw [List.mem_singleton] at hx
          exact hx ▸ h1 q hq'
      · rw [List.length_eraseIdx, if_pos hlen]; simp; omega
      · rw [List.length_eraseIdx, if_pos hlen]; omega
    · have he : left = [] := Classical.not_not.mp hne
      subst he
      walk_at "ew"
      exact k found _ _ _ _ h2 (by simpa using h3) hd
end
end GH
namespace GH
open PySem L2 RZ
local macro_rules | `(tactic| walk_at "szt") => `(tactic| (repeat (first | assumption | with_reducible refine Sz.mul ?_ ?_ | with_reducible refine Sz.add ?_ ?_ | with_reducible refine Sz.sub ?_ ?_ | with_reducible refine Sz.neg ?_ | exact (show Sz 64 _ by unfold Sz; omega))))
local macro_rules | `(tactic| walk_at "guard") => `(tactic| first
  | assumption | exact mulOk_l (by decide) | exact mulOk_r (by decide)
  | exact mulOk_l (by omega) | exact mulOk_r (by omega)
  | (refine mulOk_sz (m := ?_) (n := ?_) ?_ ?_ ?_; rotate_left 2; · walk_at "szt"
     · walk_at "szt"
     · decide)
  | (refine divOk_sz (m := ?_) ?_ (by omega) ?_; rotate_left 1; · walk_at "szt"
     · decide)
  | decide)
local macro_rules | `(tactic| walk_at "ev0") => `(tactic| first
  | with_reducible refine w_seq ?_
  | with_reducible refine w_bin ?_
  | with_reducible refine w_argC ?_
  | with_reducible refine w_argN ?_
  | with_reducible refine w_ret ?_
  | ((with_reducible apply w_rd); exact rfl)
  | ((with_reducible apply w_mv); exact rfl)
  | ((with_reducible apply w_nrm); (first
      | ((with_reducible show outsOf _ _ _ = _); ((simp (decide := true) only [outsOf, List.range, List.range.loop, List.map, List.getElem?_cons_zero, List.getElem?_cons_succ, if_true, if_false, Option.join_some, Option.join_none]) <;> exact rfl))
      | ((dsimp only [List.set_cons_zero, List.set_cons_succ, rst, setAll, wipeG, List.map, List.append, List.reduceReplicate, Nat.reduceSub, Int.reduceToNat, List.cons_append, List.nil_append, List.append_nil, List.getElem?_cons_zero, List.getElem?_cons_succ]) <;> exact rfl)
      | exact rfl))
  | with_reducible refine w_una ?_
  | with_reducible refine w_app ?_
  | with_reducible refine w_call ?_
  | (with_reducible refine w_rdO ⟨rfl, rfl⟩ ?_)
  | ((with_reducible apply w_slot); exact rfl)
  | ((with_reducible apply w_rdU); exact rfl)
  | with_reducible refine w_isT ?_
  | with_reducible refine w_db ?_
  | with_reducible refine w_asg ?_
  | ((with_reducible apply w_gnm); exact of_decide_eq_true rfl)
  | with_reducible refine w_ifS ?_
  | with_reducible refine w_ifM ?_
  | with_reducible refine w_retS ?_
  | with_reducible refine w_nx ?_
  | with_reducible refine w_drop ?_
  | with_reducible refine w_par ?_
  | with_reducible refine w_two ?_
  | ((with_reducible apply w_inr); · (unfold InR; first | omega | (simp; omega)))
  | with_reducible refine w_parL ?_
  | with_reducible refine w_parG ?_
  | with_reducible refine w_gconsD ?_
  | with_reducible refine w_gnilD ?_
  | (with_reducible refine ⟨⟨rfl, rfl⟩, ?_⟩)
  | with_reducible refine w_add ?_
  | with_reducible refine w_sub ?_
  | ((with_reducible apply w_mul); · walk_at "guard")
  | ((with_reducible apply w_fdiv); · walk_at "guard")
  | ((with_reducible apply w_mod); · first | assumption | decide | omega)
  | with_reducible refine w_neg ?_
  | with_reducible refine w_notD ?_
  | with_reducible refine w_lt ?_
  | with_reducible refine w_le ?_
  | with_reducible refine w_gt ?_
  | with_reducible refine w_ge ?_
  | with_reducible refine w_eq ?_
  | with_reducible refine w_ne ?_
  | with_reducible refine w_abs ?_
  | with_reducible refine w_notN0 ?_
  | with_reducible refine w_notNT ?_
  | with_reducible refine w_isN0 ?_
  | with_reducible refine w_isNT ?_
  | ((with_reducible apply w_ixl); exact rfl)
  | ((with_reducible apply w_ixT0); exact rfl)
  | ((with_reducible apply w_ixN); exact rfl)
  | with_reducible refine w_un1 ?_
  | with_reducible refine w_intI ?_
  | with_reducible refine w_intB ?_
  | with_reducible refine w_gcd ?_
  | ((with_reducible apply w_isiT); exact rfl)
  | ((with_reducible apply w_isiI); exact rfl)
  | ((with_reducible apply w_isiB); exact rfl)
  | ((with_reducible apply w_isiS); exact rfl)
  | ((with_reducible apply w_isiL); exact rfl)
  | with_reducible refine w_frz ?_
  | ((with_reducible apply w_tup); exact of_decide_eq_true rfl; exact rfl)
  | ((with_reducible apply w_lst1); exact of_decide_eq_true rfl)
  | with_reducible refine w_lenT ?_
  | with_reducible refine w_lenL ?_
  | with_reducible refine w_lenO ?_
  | ((with_reducible apply w_powT); exact of_decide_eq_true rfl; (simp only [Int.reduceToNat, Int.reducePow]; exact rfl))
  | with_reducible refine w_while ?_
  | with_reducible refine w_for ?_
  | with_reducible refine w_lc ?_
  | with_reducible refine w_and ?_
  | with_reducible refine w_any ?_
  | ((with_reducible apply w_itL); exact rfl)
  | ((with_reducible apply w_itT); exact rfl)
  | ((with_reducible apply w_itL); exact fz_l (fzs_map _))
  | ((with_reducible apply w_rdl); exact rfl; exact fz_l (fzs_map _))
  | with_reducible refine w_cutT ?_
  | with_reducible refine w_cutP ?_
  | with_reducible refine w_cutO ?_
  | with_reducible refine w_rng1 ?_
  | with_reducible refine w_rng2 ?_
  | with_reducible refine w_one ?_
  | with_reducible refine w_twoI ?_
  | with_reducible refine w_zip ?_
  | with_reducible refine w_enum ?_
  | with_reducible refine w_enumA ?_
  | with_reducible refine w_ones ?_
  | ((with_reducible apply w_itS); exact rfl)
  | with_reducible refine w_or ?_
  | with_reducible refine w_not ?_
  | with_reducible refine w_yes ?_
  | with_reducible refine w_noP ?_
  | with_reducible refine w_someP ?_
  | with_reducible refine w_int ?_
  | (with_reducible refine w_sliceN ⟨rfl, rfl⟩ ?_)
  | with_reducible refine w_sliceM ?_
  | (with_reducible refine w_argL ⟨rfl, rfl⟩ ?_)
  | with_reducible refine w_callK ?_
  | with_reducible refine w_chain ?_
  | with_reducible refine w_chq ?_
  | with_reducible refine w_andM ?_
  | with_reducible refine w_orM ?_
  | ((with_reducible apply w_mvl); exact rfl)
  | ((with_reducible apply w_rdl); exact rfl; exact rfl)
  | ((with_reducible apply w_gtup); exact rfl; exact rfl)
  | with_reducible refine w_gcons ?_
  | with_reducible refine w_gnil ?_
  | ((with_reducible apply w_mutN); exact rfl)
  | ((with_reducible apply w_mutP); exact rfl; exact rfl)
  | ((with_reducible apply w_rdP); exact rfl; exact rfl)
  | (with_reducible refine ⟨rfl, ?_⟩)
  | ((with_reducible apply w_gset); exact rfl)
  | with_reducible refine w_lst ?_
  | with_reducible refine w_bn ?_
  | ((with_reducible apply w_bt); · decide)
  | ((with_reducible apply w_bf); · decide)
  | with_reducible refine w_bt (show isTup _ = true from rfl) ?_
  | with_reducible refine w_bf (show isTup _ = false from rfl) ?_
  | with_reducible refine w_bt (show isInt _ = true from rfl) ?_
  | with_reducible refine w_bf (show isInt _ = false from rfl) ?_
  | with_reducible refine w_bt (show isBool _ = true from rfl) ?_
  | with_reducible refine w_bf (show isBool _ = false from rfl) ?_
  | with_reducible refine w_bt (show isStr _ = true from rfl) ?_
  | with_reducible refine w_bf (show isStr _ = false from rfl) ?_
  | with_reducible refine w_bt (show isList _ = true from rfl) ?_
  | with_reducible refine w_bf (show isList _ = false from rfl) ?_
  | ((with_reducible apply w_rdK); exact rfl; exact rfl)
  | ((with_reducible apply w_mutK); exact rfl; exact rfl)
  | ((with_reducible apply w_mvm); exact rfl)
  | ((with_reducible apply w_rdPK); exact rfl; exact rfl)
  | with_reducible refine w_setK ?_
  | ((with_reducible apply w_slotK); exact rfl; exact rfl)
  | ((with_reducible apply w_dsp); exact rfl))
local macro_rules | `(tactic| walk_at "ev1") => `(tactic| first
  | walk_at "ev0"
  | ((with_reducible apply w_bt); · (refine decide_eq_true ?_; first | with_reducible rfl | assumption | omega))
  | ((with_reducible apply w_bf); · (refine decide_eq_false ?_; first | assumption | omega)))
local macro_rules | `(tactic| walk_at "ev") => `(tactic| repeat walk_at "ev1")
local macro_rules | `(tactic| walk_at "ew") => `(tactic| repeat walk_at "ev0")
local macro_rules | `(tactic| walk_at "dr") => `(tactic| repeat first
  | walk_at "ev0"
  | with_reducible refine fzp ?_
  | ((with_reducible apply y_draw); · assumption
     · first | decide | (simp; done) | omega
     intro v cs' m' z' hv0 hv1 hd))
section
variable {QF : D → List (Option D) → Prop} {QD : D → Prop} {Q2 : D × D → Prop}
abbrev twelve : List Str := ["x", "y", "z", "a", "b2", "v1", "v2", "v3", "all", "order", "note", "abcdefgh"]
theorem twelve_ok : ∀ s ∈ twelve, s ∈ names13 := by
  have h : twelve.all (fun s => names13.contains s) = true := by decide +kernel
  intro s hs
  exact List.contains_iff_mem.mp (List.all_eq_true.mp h s hs)
theorem strs_of : ∀ {l : List PyData}, (∀ x ∈ l, x ∈ stL twelve) → ∃ ts : List Str, l = stL ts ∧ ∀ t ∈ ts, t ∈ twelve
  | [], _ => ⟨[], rfl, fun _ h => by cases h⟩
  | x :: l, h => by
    obtain ⟨s, hs, rfl⟩ := List.mem_map.mp (h x List.mem_cons_self)
    obtain ⟨ts, rfl, ht⟩ := strs_of (l := l) fun y hy => h y (List.mem_cons_of_mem _ hy)
    exact ⟨s :: ts, rfl, fun t h => by
      rcases List.mem_cons.mp h with rfl | h
      · exact hs
      · exact ht t h⟩
theorem y_names (cs : List Int) (m z : Int) (hd : Dk cs m) (k : ∀ ss cs' m' z' d', isQ d' (stL ss) → NmOk ss → Dk cs' m' → QF d' [some (dk cs' m' z')]) : wF s__law_names [dk cs m z] QF := by
  unfold s__law_names
  refine w_fn rfl ?_
  unfold b__law_names
  walk_at "ew"
  refine y_mixed cs m z _ (stL twelve) (isQ_l (stL twelve)) (by decide) hd fun rs cs' m' z' o hr hl hd' => ?_
  obtain ⟨ts, rfl, ht⟩ := strs_of hr
  have hlen : ts.length = 12 := by simpa [stL] using hl
  walk_at "ew"
  have e : cutL (stL ts) none (some 3) = stL (ts.take 3) := by
    match ts, hlen with
    | [_, _, _, _, _, _, _, _, _, _, _, _], _ => rfl
  rw [e]
  have hl3 : (ts.take 3).length = 3 := by rw [List.length_take, hlen]; decide
  exact k (ts.take 3) _ _ _ _ (isQ_l _) ⟨by omega, by omega, fun s h => twelve_ok s (ht s (List.mem_of_mem_take h))⟩ hd'
/-- what the law draws: 60 nodes at most, or little -/
def Fm (q : PyData) : Prop := ∃ n m, n ≤ 7 ∧ m ≤ 60 ∧ FT n m q
theorem ft_small : ∀ {q : PyData}, Tr 2 q → ∃ m, m ≤ 4 ∧ FT 2 m q := by
  rintro q ⟨m, h⟩
  have one : ∀ {m q}, FT 1 m q → m = 1 := by
    intro m q h
    cases h with
    | leaf _ _ _ _ => rfl
    | @junct _ m _ qs _ _ h =>
      cases h with
      | nil => rfl
      | cons h _ => cases h
    | neg h => cases h
    | quant _ _ h => cases h
  have many : ∀ {qs m}, FTs 1 m qs → m = qs.length := by
    intro qs
    induction qs with
    | nil => intro m h; cases h; rfl
    | cons q qs ih =>
      intro m h
      cases h with
      | cons h1 h2 =>
        rw [one h1, ih h2, List.length_cons]
        omega
  refine ⟨m, ?_, h⟩
  cases h with
  | leaf _ _ _ _ => omega
  | junct _ hl h =>
    have := many h
    omega
  | neg h =>
    have := one h
    omega
  | quant _ _ h =>
    have := one h
    omega
theorem y_formula (cs : List Int) (m z : Int) (d : D) (ss : List Str) (n : Nat) (hn : n ≤ 6) (hq : isQ d (stL ss)) (hs : NmOk ss) (hd : Dk cs m) (k : ∀ q cs' m' z' d' o2, Ro 1200000 30 q → Fm q → isQ d' (stL ss) → Dk cs' m' → QF (.p q) [some (dk cs' m' z'), some d', o2]) : wF s__law_formula [dk cs m z, d, .p (.int ((n + 1 : Nat) : Int))] QF := by
  unfold s__law_formula
  refine w_fn rfl ?_
  unfold b__law_formula
  have tBm : ∀ a b : Nat, a ≤ b → tB a ≤ tB b := by
    intro a b h
    induction h with
    | refl => exact Nat.le_refl _
    | step _ ih => rw [tB]; omega
  have h7 : ∀ (cs : List Int) (m z : Int) (d : D) (_ : isQ d (stL ss)) (_ : Dk cs m) {QF : D → List (Option D) → Prop} (_ : ∀ q cs' m' z' d', Ro 1137200 20 q → Tr (n + 1) q → isQ d' (stL ss) → Dk cs' m' → QF (.p q) [some (dk cs' m' z'), some d', some (.p (.int ((n + 1 : Nat) : Int)))]), wF s__law_tree [dk cs m z, d, .p (.int ((n + 1 : Nat) : Int))] QF := fun cs m z d hq hd QF k => y_tree n 10 (by omega) cs m z d ss hq hs hd fun q cs' m' z' d' h1 h2 h3 h4 => k q cs' m' z' d' (h1.mono (Nat.le_trans (tBm (n + 1) 7 (by omega)) (by decide)) (by omega)) h2 h3 h4
  have h2 : ∀ (cs : List Int) (m z : Int) (d : D) (_ : isQ d (stL ss)) (_ : Dk cs m) {QF : D → List (Option D) → Prop} (_ : ∀ q cs' m' z' d', Ro 1137200 20 q → Tr 2 q → isQ d' (stL ss) → Dk cs' m' → QF (.p q) [some (dk cs' m' z'), some d', some (.p (.int 2))]), wF s__law_tree [dk cs m z, d, .p (.int 2)] QF := fun cs m z d hq hd QF k => y_tree 1 10 (by decide) cs m z d ss hq hs hd fun q cs' m' z' d' h1 h2 h3 h4 => k q cs' m' z' d' (h1.mono (by decide) (by decide)) h2 h3 h4
  have hN : ∀ (nn mm : Nat) (_ : nn ≤ 7) (q : PyData) (_ : FT nn mm q) {QF : D → List (Option D) → Prop} (_ : QF (.p (.int (mm : Nat))) [some (.p q)]), wF s__law_nodes [.p q] QF := fun nn mm hle q h QF k => y_nodes nn mm q h 12 (by omega) k
  rcases hq.2 with ⟨xs, rfl, rfl⟩ | rfl
  all_goals
    walk_at "ew"
    refine h7 _ _ _ _ hq hd fun q cs' m' z' d' hr ht hq' hd' => ?_
    obtain ⟨mm, ht⟩ := ht
    walk_at "ew"
    refine hN (n + 1) mm (by omega) q ht ?_
    walk_at "ew"
    refine w_bd ?_ ?_ <;> intro h60
    · walk_at "ew"
      first | exact k _ _ _ _ _ _ (hr.mono (by decide) (by decide)) ⟨n + 1, mm, by omega, by omega, ht⟩ hq' hd' | exact k _ _ _ _ _ _ (hr.mono (by decide) (by decide)) ⟨n + 1, mm, by omega, by omega, ht⟩ (isQ_p _) hd'
    · walk_at "ew"
      rcases hq'.2 with ⟨ys, rfl, rfl⟩ | rfl
      all_goals
        walk_at "ew"
        refine h2 _ _ _ _ (by first | exact isQ_l _ | exact isQ_p _) hd' fun q cs' m' z' d' hr ht hq' hd' => ?_
        obtain ⟨m4, hm4, ht⟩ := ft_small ht
        walk_at "ew"
        first | exact k _ _ _ _ _ _ (((word_ro (by decide +kernel)).t2 hr).mono (by decide) (by decide)) ⟨3, m4 + 1, by decide, by omega, .neg ht⟩ hq' hd' | exact k _ _ _ _ _ _ (((word_ro (by decide +kernel)).t2 hr).mono (by decide) (by decide)) ⟨3, m4 + 1, by decide, by omega, .neg ht⟩ (isQ_p _) hd'
end
end GH
namespace GH
open PySem L2 RZ
local macro_rules | `(tactic| walk_at "szt") => `(tactic| (repeat (first | assumption | with_reducible refine Sz.mul ?_ ?_ | with_reducible refine Sz.add ?_ ?_ | with_reducible refine Sz.sub ?_ ?_ | with_reducible refine Sz.neg ?_ | exact (show Sz 64 _ by unfold Sz; omega))))
local macro_rules | `(tactic| walk_at "guard") => `(tactic| first
  | assumption | exact mulOk_l (by decide) | exact mulOk_r (by decide)
  | exact mulOk_l (by omega) | exact mulOk_r (by omega)
  | (refine mulOk_sz (m := ?_) (n := ?_) ?_ ?_ ?_; rotate_left 2; · walk_at "szt"
     · walk_at "szt"
     · decide)
  | (refine divOk_sz (m := ?_) ?_ (by omega) ?_; rotate_left 1; · walk_at "szt"
     · decide)
  | decide)
local macro_rules | `(tactic| walk_at "ev0") => `(tactic| first
  | with_reducible refine w_seq ?_
  | with_reducible refine w_bin ?_
  | with_reducible refine w_argC ?_
  | with_reducible refine w_argN ?_
  | with_reducible refine w_ret ?_
  | ((with_reducible apply w_rd); exact rfl)
  | ((with_reducible apply w_mv); exact rfl)
  | ((with_reducible apply w_nrm); (first
      | ((with_reducible show outsOf _ _ _ = _); ((simp (decide := true) only [outsOf, List.range, List.range.loop, List.map, List.getElem?_cons_zero, List.getElem?_cons_succ, if_true, if_false, Option.join_some, Option.join_none]) <;> exact rfl))
      | ((dsimp only [List.set_cons_zero, List.set_cons_succ, rst, setAll, wipeG, List.map, List.append, List.reduceReplicate, Nat.reduceSub, Int.reduceToNat, List.cons_append, List.nil_append, List.append_nil, List.getElem?_cons_zero, List.getElem?_cons_succ]) <;> exact rfl)
      | exact rfl))
  | with_reducible refine w_una ?_
  | with_reducible refine w_app ?_
  | with_reducible refine w_call ?_
  | (with_reducible refine w_rdO ⟨rfl, rfl⟩ ?_)
  | ((with_reducible apply w_slot); exact rfl)
  | ((with_reducible apply w_rdU); exact rfl)
  | with_reducible refine w_isT ?_
  | with_reducible refine w_db ?_
  | with_reducible refine w_asg ?_
  | ((with_reducible apply w_gnm); exact of_decide_eq_true rfl)
  | with_reducible refine w_ifS ?_
  | with_reducible refine w_ifM ?_
  | with_reducible refine w_retS ?_
  | with_reducible refine w_nx ?_
  | with_reducible refine w_drop ?_
  | with_reducible refine w_par ?_
  | with_reducible refine w_two ?_
  | ((with_reducible apply w_inr); · (unfold InR; first | omega | (simp; omega)))
  | with_reducible refine w_parL ?_
  | with_reducible refine w_parG ?_
  | with_reducible refine w_gconsD ?_
  | with_reducible refine w_gnilD ?_
  | (with_reducible refine ⟨⟨rfl, rfl⟩, ?_⟩)
  | with_reducible refine w_add ?_
  | with_reducible refine w_sub ?_
  | ((with_reducible apply w_mul); · walk_at "guard")
  | ((with_reducible apply w_fdiv); · walk_at "guard")
  | ((with_reducible apply w_mod); · first | assumption | decide | omega)
  | with_reducible refine w_neg ?_
  | with_reducible refine w_notD ?_
  | with_reducible refine w_lt ?_
  | with_reducible refine w_le ?_
  | with_reducible refine w_gt ?_
  | with_reducible refine w_ge ?_
  | with_reducible refine w_eq ?_
  | with_reducible refine w_ne ?_
  | with_reducible refine w_abs ?_
  | with_reducible refine w_notN0 ?_
  | with_reducible refine w_notNT ?_
  | with_reducible refine w_isN0 ?_
  | with_reducible refine w_isNT ?_
  | ((with_reducible apply w_ixl); exact rfl)
  | ((with_reducible apply w_ixT0); exact rfl)
  | ((with_reducible apply w_ixN); exact rfl)
  | with_reducible refine w_un1 ?_
  | with_reducible refine w_intI ?_
  | with_reducible refine w_intB ?_
  | with_reducible refine w_gcd ?_
  | ((with_reducible apply w_isiT); exact rfl)
  | ((with_reducible apply w_isiI); exact rfl)
  | ((with_reducible apply w_isiB); exact rfl)
  | ((with_reducible apply w_isiS); exact rfl)
  | ((with_reducible apply w_isiL); exact rfl)
  | with_reducible refine w_frz ?_
  | ((with_reducible apply w_tup); exact of_decide_eq_true rfl; exact rfl)
  | ((with_reducible apply w_lst1); exact of_decide_eq_true rfl)
  | with_reducible refine w_lenT ?_
  | with_reducible refine w_lenL ?_
  | with_reducible refine w_lenO ?_
  | ((with_reducible apply w_powT); exact of_decide_eq_true rfl; (simp only [Int.reduceToNat, Int.reducePow]; exact rfl))
  | with_reducible refine w_while ?_
  | with_reducible refine w_for ?_
  | with_reducible refine w_lc ?_
  | with_reducible refine w_and ?_
  | with_reducible refine w_any ?_
  | ((with_reducible apply w_itL); exact rfl)
  | ((with_reducible apply w_itT); exact rfl)
  | ((with_reducible apply w_itL); exact fz_l (fzs_map _))
  | ((with_reducible apply w_rdl); exact rfl; exact fz_l (fzs_map _))
  | with_reducible refine w_cutT ?_
  | with_reducible refine w_cutP ?_
  | with_reducible refine w_cutO ?_
  | with_reducible refine w_rng1 ?_
  | with_reducible refine w_rng2 ?_
  | with_reducible refine w_one ?_
  | with_reducible refine w_twoI ?_
  | with_reducible refine w_zip ?_
  | with_reducible refine w_enum ?_
  | with_reducible refine w_enumA ?_
  | with_reducible refine w_ones ?_
  | ((with_reducible apply w_itS); exact rfl)
  | with_reducible refine w_or ?_
  | with_reducible refine w_not ?_
  | with_reducible refine w_yes ?_
  | with_reducible refine w_noP ?_
  | with_reducible refine w_someP ?_
  | with_reducible refine w_int ?_
  | (with_reducible refine w_sliceN ⟨rfl, rfl⟩ ?_)
  | with_reducible refine w_sliceM ?_
  | (with_reducible refine w_argL ⟨rfl, rfl⟩ ?_)
  | with_reducible refine w_callK ?_
  | with_reducible refine w_chain ?_
  | with_reducible refine w_chq ?_
  | with_reducible refine w_andM ?_
  | with_reducible refine w_orM ?_
  | ((with_reducible apply w_mvl); exact rfl)
  | ((with_reducible apply w_rdl); exact rfl; exact rfl)
  | ((with_reducible apply w_gtup); exact rfl; exact rfl)
  | with_reducible refine w_gcons ?_
  | with_reducible refine w_gnil ?_
  | ((with_reducible apply w_mutN); exact rfl)
  | ((with_reducible apply w_mutP); exact rfl; exact rfl)
  | ((with_reducible apply w_rdP); exact rfl; exact rfl)
  | (with_reducible refine ⟨rfl, ?_⟩)
  | ((with_reducible apply w_gset); exact rfl)
  | with_reducible refine w_lst ?_
  | with_reducible refine w_bn ?_
  | ((with_reducible apply w_bt); · decide)
  | ((with_reducible apply w_bf); · decide)
  | with_reducible refine w_bt (show isTup _ = true from rfl) ?_
  | with_reducible refine w_bf (show isTup _ = false from rfl) ?_
  | with_reducible refine w_bt (show isInt _ = true from rfl) ?_
  | with_reducible refine w_bf (show isInt _ = false from rfl) ?_
  | with_reducible refine w_bt (show isBool _ = true from rfl) ?_
  | with_reducible refine w_bf (show isBool _ = false from rfl) ?_
  | with_reducible refine w_bt (show isStr _ = true from rfl) ?_
  | with_reducible refine w_bf (show isStr _ = false from rfl) ?_
  | with_reducible refine w_bt (show isList _ = true from rfl) ?_
  | with_reducible refine w_bf (show isList _ = false from rfl) ?_
  | ((with_reducible apply w_rdK); exact rfl; exact rfl)
  | ((with_reducible apply w_mutK); exact rfl; exact rfl)
  | ((with_reducible apply w_mvm); exact rfl)
  | ((with_reducible apply w_rdPK); exact rfl; exact rfl)
  | with_reducible refine w_setK ?_
  | ((with_reducible apply w_slotK); exact rfl; exact rfl)
  | ((with_reducible apply w_dsp); exact rfl))
local macro_rules | `(tactic| walk_at "ev1") => `(tactic| first
  | walk_at "ev0"
  | ((with_reducible apply w_bt); · (refine decide_eq_true ?_; first | with_reducible rfl | assumption | omega))
  | ((with_reducible apply w_bf); · (refine decide_eq_false ?_; first | assumption | omega)))
local macro_rules | `(tactic| walk_at "ev") => `(tactic| repeat walk_at "ev1")
local macro_rules | `(tactic| walk_at "ew") => `(tactic| repeat walk_at "ev0")
local macro_rules | `(tactic| walk_at "dr") => `(tactic| repeat first
  | walk_at "ev0"
  | with_reducible refine fzp ?_
  | ((with_reducible apply y_draw); · assumption
     · first | decide | (simp; done) | omega
     intro v cs' m' z' hv0 hv1 hd))
section
variable {QF : D → List (Option D) → Prop} {QD : D → Prop} {Q2 : D × D → Prop}
inductive Free : PyData → Str → Prop
  | cmp {w s : Str} {ps : List PyData} {c r : PyData} : w = "ge" ∨ w = "gt" ∨ w = "eq" → .tuple [.str s, r] ∈ ps → Free (.tuple [.str w, .tuple [.tuple ps, c]]) s
  | join {w s : Str} {qs : List PyData} {q : PyData} : w = "and" ∨ w = "or" → q ∈ qs → Free q s → Free (.tuple [.str w, .tuple qs]) s
  | no {s : Str} {q : PyData} : Free q s → Free (.tuple [.str "not", q]) s
  | qu {w x s : Str} {q : PyData} : w = "each" ∨ w = "some" → s ≠ x → Free q s → Free (.tuple [.str w, .str x, q]) s
theorem co_jo {w : Str} (h : w = "ge" ∨ w = "gt" ∨ w = "eq") : ¬ (w = "and" ∨ w = "or") ∧ w ≠ "not" := by
  rcases h with rfl | rfl | rfl <;> decide +kernel
theorem jo_no {w : Str} (h : w = "and" ∨ w = "or") : w ≠ "not" := by
  rcases h with rfl | rfl <;> decide +kernel
theorem free_cmp {w s : Str} {ps : List PyData} {c : PyData} (hw : w = "ge" ∨ w = "gt" ∨ w = "eq") : Free (.tuple [.str w, .tuple [.tuple ps, c]]) s ↔ ∃ r, .tuple [.str s, r] ∈ ps := by
  constructor
  · intro h
    cases h with
    | cmp _ h => exact ⟨_, h⟩
    | join h2 _ _ => exact absurd h2 (co_jo hw).1
    | no _ => exact absurd rfl (co_jo hw).2
  · rintro ⟨r, h⟩
    exact .cmp hw h
theorem free_join {w s : Str} {qs : List PyData} (hw : w = "and" ∨ w = "or") : Free (.tuple [.str w, .tuple qs]) s ↔ ∃ q ∈ qs, Free q s := by
  constructor
  · intro h
    cases h with
    | cmp h2 _ => exact absurd hw (co_jo h2).1
    | join _ h1 h2 => exact ⟨_, h1, h2⟩
    | no _ => exact absurd rfl (jo_no hw)
  · rintro ⟨q, h1, h2⟩
    exact .join hw h1 h2
theorem free_no {s : Str} {q : PyData} : Free (.tuple [.str "not", q]) s ↔ Free q s := by
  constructor
  · intro h
    generalize e : PyData.tuple [.str "not", q] = z at h
    cases h with
    | cmp h2 _ =>
      injection e with e
      injection e with e _
      injection e with e
      exact absurd e.symm (co_jo h2).2
    | join h2 _ _ =>
      injection e with e
      injection e with e _
      injection e with e
      exact absurd e.symm (jo_no h2)
    | no h =>
      injection e with e
      injection e with _ e
      injection e with e _
      exact e ▸ h
    | qu _ _ _ =>
      injection e with e
      injection e with _ e
      injection e with _ e
      cases e
  · exact .no
theorem free_qu {w x s : Str} {q : PyData} (hw : w = "each" ∨ w = "some") : Free (.tuple [.str w, .str x, q]) s ↔ s ≠ x ∧ Free q s := by
  constructor
  · intro h
    cases h with
    | qu _ h1 h2 => exact ⟨h1, h2⟩
  · rintro ⟨h1, h2⟩
    exact .qu hw h1 h2
theorem allStrs_stL : ∀ ss : List Str, allStrs (stL ss) = some ss
  | [] => rfl
  | s :: ss => by
    show (allStrs (stL ss)).map (s :: ·) = _
    rw [allStrs_stL ss]
    rfl
theorem w_notinL {d : D} {s : Str} {bs : List Str} (hz : fz d = some (.list (stL bs))) (k : QD (.p (.bool (decide (s ∉ bs))))) : wO (notinD (.p (.str s)) d) QD := by
  refine w_notinQ rfl hz (inQ_strs (allStrs_stL bs)).2 ?_
  have e : (!(bs.any (· == s))) = decide (s ∉ bs) := by
    by_cases h : s ∈ bs
    · rw [List.any_eq_true.mpr ⟨s, h, by simp⟩]
      simp [h]
    · rw [List.any_eq_false.mpr fun x hx z => h (by rw [beq_iff_eq] at z; exact z ▸ hx)]
      simp [h]
  rw [e]
  exact k
theorem y_free : ∀ (n m : Nat) (q : PyData), FT n m q → m ≤ 1000 → ∀ f, n ≤ f → ∀ (d : D) (bs : List Str), isQ d (stL bs) → bs.length + n ≤ 100 → ∀ {QF : D → List (Option D) → Prop},
    (∀ (L : List Str) d', isQ d' (stL bs) → (∀ s, s ∈ L ↔ Free q s ∧ s ∉ bs) → L.length ≤ 3 * m → QF (.l ((stL L).map .p)) [some (.p q), some d']) → wF (sr__law_free f) [.p q, d] QF := by
  intro n
  induction n with
  | zero => intro m q ht; cases ht
  | succ n ih =>
    intro m q ht hm f hf d bs hd hb QF k
    obtain ⟨f, rfl⟩ : ∃ g, f = g + 1 := ⟨f - 1, by omega⟩
    show wF (runF 7 2 [0, 1] (b__law_free (sr__law_free f))) _ _
    have ihf : ∀ m q, FT n m q → m ≤ 1000 → ∀ (d : D) (bs : List Str), isQ d (stL bs) → bs.length + n ≤ 100 → ∀ {QF : D → List (Option D) → Prop}, (∀ (L : List Str) d', isQ d' (stL bs) → (∀ s, s ∈ L ↔ Free q s ∧ s ∉ bs) → L.length ≤ 3 * m → QF (.l ((stL L).map .p)) [some (.p q), some d']) → wF (sr__law_free f) [.p q, d] QF := fun m q h h2 => ih m q h h2 f (by omega)
    refine w_fn rfl ?_
    unfold b__law_free
    cases ht with
    | @leaf _ w ps c hw hl hp hr =>
      walk_at "ew"
      refine w_inS rfl rfl ?_
      walk_at "ew"
      refine w_bt (by rcases hw with rfl | rfl | rfl <;> decide +kernel) ?_
      walk_at "ew"
      refine ⟨by omega, ?_⟩
      walk_at "ew"
      refine w_loopC (fun ds Γ acc => ∃ (L : List Str) (don : List PyData) (d' : D), don ++ ds = ps ∧ (∀ s, s ∈ L ↔ (∃ r, .tuple [.str s, r] ∈ don) ∧ s ∉ bs) ∧ L.length ≤ don.length ∧ acc = (stL L).map .p ∧ isQ d' (stL bs) ∧ Γ = [some (.p (.tuple [.str w, .tuple [.tuple ps, c]])), some d', some (.p (.str w)), none, none, none, none]) ⟨[], [], d, rfl, fun s => by simp, Nat.le_refl _, rfl, hd, rfl⟩ ?_ ?_
      · rintro p ds Γ acc ⟨L, don, d', e, hL, hlen, rfl, hd', rfl⟩
        obtain ⟨s, r, rfl, hs⟩ := hp p (e ▸ List.mem_append_right _ List.mem_cons_self)
        rcases hd'.2 with ⟨xs, rfl, rfl⟩ | rfl
        all_goals
          walk_at "ew"
          refine w_notinL (bs := bs) rfl ?_
          walk_at "ew"
          refine w_bd ?_ ?_ <;> intro hs'
          · walk_at "ew"
            refine ⟨L ++ [s], don ++ [.tuple [.str s, r]], _, by simpa using e, fun s2 => ?_, by simp; omega, by simp [stL], isQ_p _, rfl⟩
            simp only [List.mem_append, List.mem_singleton]
            rw [hL s2]
            constructor
            · rintro (⟨⟨r2, h1⟩, h2⟩ | rfl)
              · exact ⟨⟨r2, .inl h1⟩, h2⟩
              · exact ⟨⟨r, .inr rfl⟩, hs'⟩
            · rintro ⟨⟨r2, h1 | h1⟩, h2⟩
              · exact .inl ⟨⟨r2, h1⟩, h2⟩
              · injection h1 with h1
                injection h1 with h1 _
                injection h1 with h1
                exact .inr h1
          · walk_at "ew"
            refine ⟨L, don ++ [.tuple [.str s, r]], _, by simpa using e, fun s2 => ?_, by simp; omega, rfl, isQ_p _, rfl⟩
            simp only [List.mem_append, List.mem_singleton]
            rw [hL s2]
            constructor
            · rintro ⟨⟨r2, h1⟩, h2⟩
              exact ⟨⟨r2, .inl h1⟩, h2⟩
            · rintro ⟨⟨r2, h1 | h1⟩, h2⟩
              · exact ⟨⟨r2, h1⟩, h2⟩
              · injection h1 with h1
                injection h1 with h1 _
                injection h1 with h1
                exact absurd (h1 ▸ h2) hs'
      · rintro Γ acc ⟨L, don, d', e, hL, hlen, rfl, hd', rfl⟩
        rw [List.append_nil] at e
        subst e
        walk_at "ew"
        exact k L d' hd' (fun s => by rw [hL s, free_cmp hw]) (by omega)
    | @junct _ m w qs hw hl hq =>
      walk_at "ew"
      refine w_inS rfl rfl ?_
      walk_at "ew"
      refine w_bf (by rcases hw with rfl | rfl <;> decide +kernel) ?_
      walk_at "ew"
      refine w_eqS ?_
      walk_at "ew"
      refine w_bf (decide_eq_false (jo_no hw)) ?_
      walk_at "ew"
      refine w_inS rfl rfl ?_
      walk_at "ew"
      refine w_bf (by rcases hw with rfl | rfl <;> decide +kernel) ?_
      walk_at "ew"
      refine w_loop (fun ds Γ => ∃ (L : List Str) (don : List PyData) (r g : Nat) (d' : D) (o4 : Option D), don ++ ds = qs ∧ FTs n r ds ∧ g + r = m ∧ (∀ s, s ∈ L ↔ (∃ q ∈ don, Free q s) ∧ s ∉ bs) ∧ L.length ≤ 3 * g ∧ isQ d' (stL bs) ∧ Γ = [some (.p (.tuple [.str w, .tuple qs])), some d', some (.p (.str w)), some (.l ((stL L).map .p)), o4, none, none]) ⟨[], [], m, 0, d, none, rfl, hq, by omega, fun s => by simp, Nat.le_refl _, hd, rfl⟩ ?_ ?_
      · rintro x ds Γ ⟨L, don, r, g, d', o4, e, hds, hg, hL, hlen, hd', rfl⟩
        cases hds with
        | @cons _ a b _ _ h1 h2 =>
        rcases hd'.2 with ⟨xs, rfl, rfl⟩ | rfl
        all_goals
          walk_at "ew"
          refine ihf a x h1 (by omega) _ bs (by first | exact isQ_l _ | exact isQ_p _) (by omega) fun L2 d2 hd2 hL2 hlen2 => ?_
          walk_at "ew"
          refine w_addF (qs := stL L) (ys := (stL L2).map .p) (by simp; omega) ?_
          walk_at "ew"
          have E : (stL L).map D.p ++ (stL L2).map D.p = (stL (L ++ L2)).map D.p := by simp only [stL, List.map_append]
          rw [E]
          first
            | refine ⟨L ++ L2, don ++ [x], b, g + a, d2, _, by simpa using e, h2, by omega, fun s => ?_, by simp; omega, hd2, rfl⟩
            | refine ⟨L ++ L2, don ++ [x], b, g + a, _, _, by simpa using e, h2, by omega, fun s => ?_, by simp; omega, isQ_p _, rfl⟩
          simp only [List.mem_append, List.mem_singleton]
          rw [hL s, hL2 s]
          constructor
          · rintro (⟨⟨y, h3, h4⟩, h5⟩ | ⟨h3, h4⟩)
            · exact ⟨⟨y, .inl h3, h4⟩, h5⟩
            · exact ⟨⟨x, .inr rfl, h3⟩, h4⟩
          · rintro ⟨⟨y, h3 | rfl, h4⟩, h5⟩
            · exact .inl ⟨⟨y, h3, h4⟩, h5⟩
            · exact .inr ⟨h4, h5⟩
      · rintro Γ ⟨L, don, r, g, d', o4, e, hds, hg, hL, hlen, hd', rfl⟩
        cases hds
        rw [List.append_nil] at e
        subst e
        walk_at "ew"
        exact k L d' hd' (fun s => by rw [hL s, free_join hw]) (by omega)
    | @neg _ m q hq =>
      walk_at "ew"
      refine w_inS rfl rfl ?_
      walk_at "ew"
      refine w_eqS ?_
      walk_at "ew"
      rcases hd.2 with ⟨xs, rfl, rfl⟩ | rfl
      all_goals
        walk_at "ew"
        refine ihf m q hq (by omega) _ bs (by first | exact isQ_l _ | exact isQ_p _) (by omega) fun L d' hd' hL hlen => ?_
        walk_at "ew"
        first | exact k L _ hd' (fun s => by rw [hL s, free_no]) (by omega) | exact k L _ (isQ_p _) (fun s => by rw [hL s, free_no]) (by omega)
    | @quant _ m w s q hw hs hq =>
      walk_at "ew"
      refine w_inS rfl rfl ?_
      walk_at "ew"
      refine w_bf (by rcases hw with rfl | rfl <;> decide +kernel) ?_
      walk_at "ew"
      refine w_eqS ?_
      walk_at "ew"
      refine w_bf (by rcases hw with rfl | rfl <;> decide +kernel) ?_
      walk_at "ew"
      refine w_inS rfl rfl ?_
      walk_at "ew"
      refine w_bt (by rcases hw with rfl | rfl <;> decide +kernel) ?_
      rcases hd.2 with ⟨xs, rfl, rfl⟩ | rfl
      all_goals
        walk_at "ew"
        refine w_addF (qs := stL bs) (by simp; omega) ?_
        walk_at "ew"
        rw [show (stL bs).map D.p ++ [D.p (.str s)] = (stL (bs ++ [s])).map D.p by simp [stL]]
        refine ihf m q hq (by omega) _ (bs ++ [s]) (isQ_l _) (by simp; omega) fun L d' hd' hL hlen => ?_
        walk_at "ew"
        refine k L _ (isQ_p _) (fun s2 => ?_) (by omega)
        rw [hL s2, free_qu hw, List.mem_append, List.mem_singleton, not_or]
        exact ⟨fun ⟨h1, h2, h3⟩ => ⟨⟨h3, h1⟩, h2⟩, fun ⟨⟨h3, h1⟩, h2⟩ => ⟨h1, h2, h3⟩⟩
end
end GH
namespace GH
open PySem L2 RZ
local macro_rules | `(tactic| walk_at "szt") => `(tactic| (repeat (first | assumption | with_reducible refine Sz.mul ?_ ?_ | with_reducible refine Sz.add ?_ ?_ | with_reducible refine Sz.sub ?_ ?_ | with_reducible refine Sz.neg ?_ | exact (show Sz 64 _ by unfold Sz; omega))))
local macro_rules | `(tactic| walk_at "guard") => `(tactic| first
  | assumption | exact mulOk_l (by decide) | exact mulOk_r (by decide)
  | exact mulOk_l (by omega) | exact mulOk_r (by omega)
  | (refine mulOk_sz (m := ?_) (n := ?_) ?_ ?_ ?_; rotate_left 2; · walk_at "szt"
     · walk_at "szt"
     · decide)
  | (refine divOk_sz (m := ?_) ?_ (by omega) ?_; rotate_left 1; · walk_at "szt"
     · decide)
  | decide)
local macro_rules | `(tactic| walk_at "ev0") => `(tactic| first
  | with_reducible refine w_seq ?_
  | with_reducible refine w_bin ?_
  | with_reducible refine w_argC ?_
  | with_reducible refine w_argN ?_
  | with_reducible refine w_ret ?_
  | ((with_reducible apply w_rd); exact rfl)
  | ((with_reducible apply w_mv); exact rfl)
  | ((with_reducible apply w_nrm); (first
      | ((with_reducible show outsOf _ _ _ = _); ((simp (decide := true) only [outsOf, List.range, List.range.loop, List.map, List.getElem?_cons_zero, List.getElem?_cons_succ, if_true, if_false, Option.join_some, Option.join_none]) <;> exact rfl))
      | ((dsimp only [List.set_cons_zero, List.set_cons_succ, rst, setAll, wipeG, List.map, List.append, List.reduceReplicate, Nat.reduceSub, Int.reduceToNat, List.cons_append, List.nil_append, List.append_nil, List.getElem?_cons_zero, List.getElem?_cons_succ]) <;> exact rfl)
      | exact rfl))
  | with_reducible refine w_una ?_
  | with_reducible refine w_app ?_
  | with_reducible refine w_call ?_
  | (with_reducible refine w_rdO ⟨rfl, rfl⟩ ?_)
  | ((with_reducible apply w_slot); exact rfl)
  | ((with_reducible apply w_rdU); exact rfl)
  | with_reducible refine w_isT ?_
  | with_reducible refine w_db ?_
  | with_reducible refine w_asg ?_
  | ((with_reducible apply w_gnm); exact of_decide_eq_true rfl)
  | with_reducible refine w_ifS ?_
  | with_reducible refine w_ifM ?_
  | with_reducible refine w_retS ?_
  | with_reducible refine w_nx ?_
  | with_reducible refine w_drop ?_
  | with_reducible refine w_par ?_
  | with_reducible refine w_two ?_
  | ((with_reducible apply w_inr); · (unfold InR; first | omega | (simp; omega)))
  | with_reducible refine w_parL ?_
  | with_reducible refine w_parG ?_
  | with_reducible refine w_gconsD ?_
  | with_reducible refine w_gnilD ?_
  | (with_reducible refine ⟨⟨rfl, rfl⟩, ?_⟩)
  | with_reducible refine w_add ?_
  | with_reducible refine w_sub ?_
  | ((with_reducible apply w_mul); · walk_at "guard")
  | ((with_reducible apply w_fdiv); · walk_at "guard")
  | ((with_reducible apply w_mod); · first | assumption | decide | omega)
  | with_reducible refine w_neg ?_
  | with_reducible refine w_notD ?_
  | with_reducible refine w_lt ?_
  | with_reducible refine w_le ?_
  | with_reducible refine w_gt ?_
  | with_reducible refine w_ge ?_
  | with_reducible refine w_eq ?_
  | with_reducible refine w_ne ?_
  | with_reducible refine w_abs ?_
  | with_reducible refine w_notN0 ?_
  | with_reducible refine w_notNT ?_
  | with_reducible refine w_isN0 ?_
  | with_reducible refine w_isNT ?_
  | ((with_reducible apply w_ixl); exact rfl)
  | ((with_reducible apply w_ixT0); exact rfl)
  | ((with_reducible apply w_ixN); exact rfl)
  | with_reducible refine w_un1 ?_
  | with_reducible refine w_intI ?_
  | with_reducible refine w_intB ?_
  | with_reducible refine w_gcd ?_
  | ((with_reducible apply w_isiT); exact rfl)
  | ((with_reducible apply w_isiI); exact rfl)
  | ((with_reducible apply w_isiB); exact rfl)
  | ((with_reducible apply w_isiS); exact rfl)
  | ((with_reducible apply w_isiL); exact rfl)
  | with_reducible refine w_frz ?_
  | ((with_reducible apply w_tup); exact of_decide_eq_true rfl; exact rfl)
  | ((with_reducible apply w_lst1); exact of_decide_eq_true rfl)
  | with_reducible refine w_lenT ?_
  | with_reducible refine w_lenL ?_
  | with_reducible refine w_lenO ?_
  | ((with_reducible apply w_powT); exact of_decide_eq_true rfl; (simp only [Int.reduceToNat, Int.reducePow]; exact rfl))
  | with_reducible refine w_while ?_
  | with_reducible refine w_for ?_
  | with_reducible refine w_lc ?_
  | with_reducible refine w_and ?_
  | with_reducible refine w_any ?_
  | ((with_reducible apply w_itL); exact rfl)
  | ((with_reducible apply w_itT); exact rfl)
  | ((with_reducible apply w_itL); exact fz_l (fzs_map _))
  | ((with_reducible apply w_rdl); exact rfl; exact fz_l (fzs_map _))
  | with_reducible refine w_cutT ?_
  | with_reducible refine w_cutP ?_
  | with_reducible refine w_cutO ?_
  | with_reducible refine w_rng1 ?_
  | with_reducible refine w_rng2 ?_
  | with_reducible refine w_one ?_
  | with_reducible refine w_twoI ?_
  | with_reducible refine w_zip ?_
  | with_reducible refine w_enum ?_
  | with_reducible refine w_enumA ?_
  | with_reducible refine w_ones ?_
  | ((with_reducible apply w_itS); exact rfl)
  | with_reducible refine w_or ?_
  | with_reducible refine w_not ?_
  | with_reducible refine w_yes ?_
  | with_reducible refine w_noP ?_
  | with_reducible refine w_someP ?_
  | with_reducible refine w_int ?_
  | (with_reducible refine w_sliceN ⟨rfl, rfl⟩ ?_)
  | with_reducible refine w_sliceM ?_
  | (with_reducible refine w_argL ⟨rfl, rfl⟩ ?_)
  | with_reducible refine w_callK ?_
  | with_reducible refine w_chain ?_
  | with_reducible refine w_chq ?_
  | with_reducible refine w_andM ?_
  | with_reducible refine w_orM ?_
  | ((with_reducible apply w_mvl); exact rfl)
  | ((with_reducible apply w_rdl); exact rfl; exact rfl)
  | ((with_reducible apply w_gtup); exact rfl; exact rfl)
  | with_reducible refine w_gcons ?_
  | with_reducible refine w_gnil ?_
  | ((with_reducible apply w_mutN); exact rfl)
  | ((with_reducible apply w_mutP); exact rfl; exact rfl)
  | ((with_reducible apply w_rdP); exact rfl; exact rfl)
  | (with_reducible refine ⟨rfl, ?_⟩)
  | ((with_reducible apply w_gset); exact rfl)
  | with_reducible refine w_lst ?_
  | with_reducible refine w_bn ?_
  | ((with_reducible apply w_bt); · decide)
  | ((with_reducible apply w_bf); · decide)
  | with_reducible refine w_bt (show isTup _ = true from rfl) ?_
  | with_reducible refine w_bf (show isTup _ = false from rfl) ?_
  | with_reducible refine w_bt (show isInt _ = true from rfl) ?_
  | with_reducible refine w_bf (show isInt _ = false from rfl) ?_
  | with_reducible refine w_bt (show isBool _ = true from rfl) ?_
  | with_reducible refine w_bf (show isBool _ = false from rfl) ?_
  | with_reducible refine w_bt (show isStr _ = true from rfl) ?_
  | with_reducible refine w_bf (show isStr _ = false from rfl) ?_
  | with_reducible refine w_bt (show isList _ = true from rfl) ?_
  | with_reducible refine w_bf (show isList _ = false from rfl) ?_
  | ((with_reducible apply w_rdK); exact rfl; exact rfl)
  | ((with_reducible apply w_mutK); exact rfl; exact rfl)
  | ((with_reducible apply w_mvm); exact rfl)
  | ((with_reducible apply w_rdPK); exact rfl; exact rfl)
  | with_reducible refine w_setK ?_
  | ((with_reducible apply w_slotK); exact rfl; exact rfl)
  | ((with_reducible apply w_dsp); exact rfl))
local macro_rules | `(tactic| walk_at "ev1") => `(tactic| first
  | walk_at "ev0"
  | ((with_reducible apply w_bt); · (refine decide_eq_true ?_; first | with_reducible rfl | assumption | omega))
  | ((with_reducible apply w_bf); · (refine decide_eq_false ?_; first | assumption | omega)))
local macro_rules | `(tactic| walk_at "ev") => `(tactic| repeat walk_at "ev1")
local macro_rules | `(tactic| walk_at "ew") => `(tactic| repeat walk_at "ev0")
local macro_rules | `(tactic| walk_at "dr") => `(tactic| repeat first
  | walk_at "ev0"
  | with_reducible refine fzp ?_
  | ((with_reducible apply y_draw); · assumption
     · first | decide | (simp; done) | omega
     intro v cs' m' z' hv0 hv1 hd))
section
variable {QF : D → List (Option D) → Prop} {QD : D → Prop} {Q2 : D × D → Prop}
theorem w_notinT {d : D} {s : Str} {bs : List Str} (hz : fz d = some (.tuple (stL bs))) (k : QD (.p (.bool (decide (s ∉ bs))))) : wO (notinD (.p (.str s)) d) QD := by
  refine w_notinQ rfl hz (inQ_strs (allStrs_stL bs)).1 ?_
  have e : (!(bs.any (· == s))) = decide (s ∉ bs) := by
    by_cases h : s ∈ bs
    · rw [List.any_eq_true.mpr ⟨s, h, by simp⟩]
      simp [h]
    · rw [List.any_eq_false.mpr fun x hx z => h (by rw [beq_iff_eq] at z; exact z ▸ hx)]
      simp [h]
  rw [e]
  exact k
theorem dput_is (ks : List Str) (xs : List D) (s : Str) (d : D) : ∃ ks' xs', dput ks xs s d = .m ks' xs' ∧ (ks.Nodup → ks'.Nodup) ∧ ∀ t, t ∈ ks' ↔ t ∈ ks ∨ t = s := by
  unfold dput
  cases h : kix s ks with
  | some c =>
    have hm := List.mem_of_getElem? (kix_at h)
    exact ⟨ks, _, rfl, id, fun t => ⟨.inl, fun z => z.elim id fun z => z ▸ hm⟩⟩
  | none =>
    have hm := kix_none.mp h
    refine ⟨ks ++ [s], _, rfl, fun nd => ?_, fun t => by simp⟩
    rw [List.nodup_append]
    refine ⟨nd, by simp, fun a ha b hb => ?_⟩
    rw [List.mem_singleton] at hb
    subst hb
    exact fun z => hm (z ▸ ha)
theorem nodup_le {α : Type} [DecidableEq α] : ∀ {l D : List α}, l.Nodup → (∀ x ∈ l, x ∈ D) → l.length ≤ D.length
  | [], _, _, _ => Nat.zero_le _
  | x :: l, D, nd, h => by
    obtain ⟨n1, n2⟩ := List.nodup_cons.mp nd
    have hx := h x List.mem_cons_self
    have := nodup_le (D := D.erase x) n2 fun y hy => (List.mem_erase_of_ne (fun e => n1 (by rw [← e]; exact hy))).mpr (h y (List.mem_cons_of_mem _ hy))
    rw [List.length_erase_of_mem hx] at this
    have := List.length_pos_of_mem hx
    rw [List.length_cons]
    omega
theorem keys_few {ks : List Str} (nd : ks.Nodup) (h : ∀ k ∈ ks, k ∈ names13) : ks.length ≤ 13 := nodup_le nd h
theorem w_popE {A : List PyData} {x : PyData} {Q2 : D × D → Prop} (k : Q2 (.p x, .l (A.map .p))) : wO (popD (.l ((A ++ [x]).map .p)) []) Q2 := by
  rw [List.map_append]
  exact ⟨_, by unfold popD; simp, k⟩
theorem w_extE {a b : List PyData} (h : a.length + b.length ≤ 1000000) (k : Q2 (.p .none, .l ((a ++ b).map .p))) : wO (extendD (.l (a.map .p)) [.l (b.map .p)]) Q2 := by
  refine ⟨_, ?_, k⟩
  unfold extendD
  dsimp only
  rw [if_pos (by simpa using h), List.map_append]
theorem w_appE {a : List PyData} {x : PyData} (h : a.length < 1000000) (k : Q2 (.p .none, .l ((a ++ [x]).map .p))) : wO (appendD (.l (a.map .p)) [.p x]) Q2 := by
  refine ⟨_, ?_, k⟩
  unfold appendD
  dsimp only
  rw [if_pos (by simpa using h), List.map_append]
  rfl
theorem w_addTup {a b : List PyData} (h : a.length + b.length ≤ 1000) (k : QD (.p (.tuple (a ++ b)))) : wO (addD (.p (.tuple a)) (.p (.tuple b))) QD := ⟨_, if_pos (by rw [lineM]; omega), k⟩
theorem sortQ_strs (ss : List Str) : sortQ (stL ss) = stL (ss.mergeSort leS) :=
  (PySem.W.sort_maps (r := leS) (s := PySem.W.dataLe false id) PyData.str (l := ss) (fun a _ b _ => rfl)).symm
theorem w_sortL {d : D} {ss : List Str} (hd : fz d = some (.list (stL ss))) (h : ss.length ≤ 1000) (k : QD (.l ((stL (ss.mergeSort leS)).map .p))) : wO (sortD d) QD := by
  refine ⟨_, ?_, k⟩
  unfold sortD
  rw [hd]
  dsimp only
  rw [if_pos (sortOk_strs h), sortQ_strs]
theorem y_parts_j (w : Str) (qs : List PyData) (hw : w = "and" ∨ w = "or") (k : QF (.p (.tuple qs)) [some (.p (.tuple [.str w, .tuple qs]))]) : wF s_parts_of [.p (.tuple [.str w, .tuple qs])] QF := by
  unfold s_parts_of
  refine w_fn rfl ?_
  unfold b_parts_of
  walk_at "ew"
  refine w_inS rfl rfl ?_
  walk_at "ew"
  refine w_bf (by rcases hw with rfl | rfl <;> decide +kernel) ?_
  walk_at "ew"
  refine w_inS rfl rfl ?_
  walk_at "ew"
  refine w_bt (by rcases hw with rfl | rfl <;> decide +kernel) ?_
  walk_at "ew"
  exact k
theorem y_parts_n (q : PyData) (k : QF (.p (.tuple [q])) [some (.p (.tuple [.str "not", q]))]) : wF s_parts_of [.p (.tuple [.str "not", q])] QF := by
  unfold s_parts_of
  refine w_fn rfl ?_
  unfold b_parts_of
  walk_at "ew"
  refine w_inS rfl rfl ?_
  walk_at "ew"
  refine w_inS rfl rfl ?_
  walk_at "ew"
  exact k
def entQ (x : PyData × List Str) : PyData := .tuple [x.1, .tuple (stL x.2)]
def StF (st : List (PyData × List Str)) (s : Str) : Prop := ∃ x ∈ st, Free x.1 s ∧ s ∉ x.2
theorem stF_cons {q : PyData} {bs : List Str} {st : List (PyData × List Str)} {s : Str} : StF ((q, bs) :: st) s ↔ (Free q s ∧ s ∉ bs) ∨ StF st s := by
  unfold StF
  simp
theorem stF_app {a b : List (PyData × List Str)} {s : Str} : StF (a ++ b) s ↔ StF a s ∨ StF b s := by
  unfold StF
  simp only [List.mem_append]
  constructor
  · rintro ⟨x, h | h, h2⟩
    · exact .inl ⟨x, h, h2⟩
    · exact .inr ⟨x, h, h2⟩
  · rintro (⟨x, h, h2⟩ | ⟨x, h, h2⟩)
    · exact ⟨x, .inl h, h2⟩
    · exact ⟨x, .inr h, h2⟩
abbrev kids (qs : List PyData) (bs : List Str) : List (PyData × List Str) := (qs.map fun y => (y, bs)).reverse
theorem stF_kids {qs : List PyData} {bs : List Str} {s : Str} : StF (kids qs bs) s ↔ (∃ y ∈ qs, Free y s) ∧ s ∉ bs := by
  unfold StF
  constructor
  · rintro ⟨x, h, h1, h2⟩
    rw [List.mem_reverse] at h
    obtain ⟨y, hy, rfl⟩ := List.mem_map.mp h
    exact ⟨⟨y, hy, h1⟩, h2⟩
  · rintro ⟨⟨y, hy, h1⟩, h2⟩
    exact ⟨(y, bs), by rw [List.mem_reverse]; exact List.mem_map.mpr ⟨y, hy, rfl⟩, h1, h2⟩
theorem fts_mem {n : Nat} : ∀ {qs : List PyData} {m : Nat}, FTs n m qs → ∀ y ∈ qs, ∃ a, FT n a y
  | [], _, _, y, hy => by cases hy
  | q :: qs, m, h, y, hy => by
    cases h with
    | cons h1 h2 =>
      rcases List.mem_cons.mp hy with rfl | hy
      · exact ⟨_, h1⟩
      · exact fts_mem h2 y hy
theorem reprChar_ge (q c : Nat) : 1 ≤ (Builtin.Str.reprChar q c).length := by
  unfold Builtin.Str.reprChar
  dsimp only
  repeat' split
  all_goals simp
theorem repr_grow (q : Nat) : ∀ (l : List Nat) (acc : Array Nat), acc.size + l.length ≤ (l.foldl (fun out c => out ++ (Builtin.Str.reprChar q c).toArray) acc).size
  | [], acc => by simp
  | c :: r, acc => by
    have ih := repr_grow q r (acc ++ (Builtin.Str.reprChar q c).toArray)
    have h1 := reprChar_ge q c
    simp only [List.foldl_cons, List.length_cons]
    simp only [Array.size_append, List.size_toArray] at ih
    omega
theorem reprText_ge (x : Str) : x.length + 2 ≤ (reprText x).length := by
  unfold reprText
  show _ ≤ ((x.cps.foldl (fun out c => out ++ (Builtin.Str.reprChar (reprQuote x) c).toArray) #[reprQuote x]).push (reprQuote x)).size
  rw [Array.size_push, ← Array.foldl_toList]
  have := repr_grow (reprQuote x) x.cps.toList #[reprQuote x]
  have e : x.cps.toList.length = x.length := by simp [Str.length]
  rw [e] at this
  have e1 : (#[reprQuote x] : Array Nat).size = 1 := rfl
  omega
theorem szt_two (q : PyData) : 2 ≤ szt q := by
  cases q with
  | str s => have := reprText_ge s; rw [szt]; omega
  | _ => simp only [szt]; omega
def wtS (st : List (PyData × List Str)) : Nat := (st.map fun x => szt x.1).sum
theorem wtS_app (a b : List (PyData × List Str)) : wtS (a ++ b) = wtS a + wtS b := by simp [wtS]
theorem wtS_cons (x : PyData × List Str) (b : List (PyData × List Str)) : wtS (x :: b) = szt x.1 + wtS b := by simp [wtS]
theorem wtS_kids (bs : List Str) : ∀ qs : List PyData, wtS (kids qs bs) ≤ szts qs
  | [] => Nat.zero_le _
  | q :: qs => by
    have e : kids (q :: qs) bs = kids qs bs ++ [(q, bs)] := by simp [kids]
    have := wtS_kids bs qs
    rw [e, wtS_app, wtS_cons]
    simp only [szts, wtS, List.map_nil, List.sum_nil] at *
    omega
theorem wtS_len : ∀ st : List (PyData × List Str), 2 * st.length ≤ wtS st
  | [] => Nat.zero_le _
  | x :: st => by
    have := wtS_len st
    have := szt_two x.1
    rw [wtS_cons, List.length_cons]
    omega
theorem kids_ent (qs : List PyData) (bs : List Str) (st : List (PyData × List Str)) : (kids qs bs ++ st).reverse.map entQ = st.reverse.map entQ ++ qs.map fun y => .tuple [y, .tuple (stL bs)] := by
  rw [List.reverse_append, List.map_append, kids, List.reverse_reverse, List.map_map]
  rfl
theorem y_free_names (v : PyData) (n m : Nat) (hv : FT n m v) (hn : n ≤ 40) (hz : szt v ≤ 1900000) (k : ∀ ks : List Str, ks.Nodup → (∀ s, s ∈ ks ↔ Free v s) → (∀ s ∈ ks, s ∈ names13) → QF (.p (.tuple (stL (ks.mergeSort leS)))) [some (.p v)]) : wF s_free_names [.p v] QF := by
  unfold s_free_names
  refine w_fn rfl ?_
  unfold b_free_names
  walk_at "ew"
  refine w_newM ?_
  walk_at "ew"
  refine w_loopW (fun f Γ => ∃ (st : List (PyData × List Str)) (ks : List Str) (xs : List D) (o3 o4 o5 o6 : Option D), (∀ x ∈ st, ∃ n m, FT n m x.1 ∧ n + x.2.length ≤ 40) ∧ wtS st ≤ 1900000 ∧ wtS st < f ∧ ks.Nodup ∧ (∀ s ∈ ks, s ∈ names13) ∧ (∀ s, (s ∈ ks ∨ StF st s) ↔ Free v s) ∧ Γ = [some (.p v), some (.m ks xs), some (.l (((st.reverse.map entQ)).map .p)), o3, o4, o5, o6, none])
    ⟨[(v, [])], [], [], none, none, none, none, fun x hx => ?_, ?_, ?_, .nil, (fun _ h => nomatch h), fun s => ?_, rfl⟩ ?_
  · rw [List.mem_singleton] at hx
    subst hx
    exact ⟨n, m, hv, by simpa using hn⟩
  · simpa [wtS] using hz
  · simp [wtS, m_free_names_1]
  · simp [StF]
  · rintro f Γ ⟨st, ks, xs, o3, o4, o5, o6, hst, hw, hf, nd, hks, hfr, rfl⟩
    refine ⟨f - 1, by omega, ?_⟩
    walk_at "ew"
    refine w_neE (fz_l (fzs_map _)) ?_
    walk_at "ew"
    refine w_bd ?_ ?_ <;> intro hne
    · cases st with
      | nil => exact absurd rfl hne
      | cons x st =>
        obtain ⟨q, bs⟩ := x
        obtain ⟨n1, m1, hq, hb⟩ := hst _ List.mem_cons_self
        dsimp only at hq hb
        have hst' : ∀ x ∈ st, ∃ n m, FT n m x.1 ∧ n + x.2.length ≤ 40 := fun x hx => hst x (List.mem_cons_of_mem _ hx)
        have ew : wtS ((q, bs) :: st) = szt q + wtS st := by simp [wtS]
        rw [ew] at hw hf
        walk_at "ew"
        rw [show ((q, bs) :: st).reverse.map entQ = st.reverse.map entQ ++ [entQ (q, bs)] by rw [List.reverse_cons, List.map_append]; rfl]
        refine w_popE ?_
        walk_at "ew"
        cases hq with
        | @leaf n1 w ps c hw' hl hp hr =>
          walk_at "ew"
          refine w_inS rfl rfl ?_
          walk_at "ew"
          refine w_bt (by rcases hw' with rfl | rfl | rfl <;> decide +kernel) ?_
          walk_at "ew"
          have h3 : 3 ≤ szt (.tuple [.str w, .tuple [.tuple ps, c]]) := by simp only [szt]; omega
          refine w_loop (fun ds Γ => ∃ (don : List PyData) (ks' : List Str) (xs' : List D) (o5 o6 : Option D), don ++ ds = ps ∧ ks'.Nodup ∧ (∀ s ∈ ks', s ∈ names13) ∧ (∀ s, s ∈ ks' ↔ s ∈ ks ∨ ((∃ r, .tuple [.str s, r] ∈ don) ∧ s ∉ bs)) ∧ Γ = [some (.p v), some (.m ks' xs'), some (.l ((st.reverse.map entQ).map .p)), some (.p (.tuple [.str w, .tuple [.tuple ps, c]])), some (.p (.tuple (stL bs))), o5, o6, none]) ⟨[], ks, xs, o5, o6, rfl, nd, hks, fun s => by simp, rfl⟩ ?_ ?_
          · rintro p ds Γ ⟨don, ks', xs', o5, o6, e, nd', hks', hm, rfl⟩
            obtain ⟨s, r, rfl, hs⟩ := hp p (e ▸ List.mem_append_right _ List.mem_cons_self)
            have hfew := keys_few nd' hks'
            walk_at "ew"
            refine w_notinT (bs := bs) rfl ?_
            walk_at "ew"
            refine w_bd ?_ ?_ <;> intro hs'
            · walk_at "ew"
              refine w_putY ?_
              walk_at "ew"
              refine ⟨⟨_, rfl⟩, ?_⟩
              walk_at "ew"
              obtain ⟨k2, x2, e2, n2, m2⟩ := dput_is ks' xs' s (.p (.bool true))
              refine ⟨s, ks', xs', rfl, rfl, nd', by omega, ?_⟩
              rw [e2]
              walk_at "ew"
              refine ⟨don ++ [.tuple [.str s, r]], k2, x2, _, _, by simpa using e, n2 nd', fun t ht => ?_, fun t => ?_, rfl⟩
              · rcases (m2 t).mp ht with h | rfl
                · exact hks' t h
                · exact hs
              · rw [m2 t, hm t]
                simp only [List.mem_append, List.mem_singleton]
                constructor
                · rintro ((h | ⟨⟨r2, h1⟩, h2⟩) | rfl)
                  · exact .inl h
                  · exact .inr ⟨⟨r2, .inl h1⟩, h2⟩
                  · exact .inr ⟨⟨r, .inr rfl⟩, hs'⟩
                · rintro (h | ⟨⟨r2, h1 | h1⟩, h2⟩)
                  · exact .inl (.inl h)
                  · exact .inl (.inr ⟨⟨r2, h1⟩, h2⟩)
                  · injection h1 with h1
                    injection h1 with h1 _
                    injection h1 with h1
                    exact .inr h1
            · walk_at "ew"
              refine ⟨don ++ [.tuple [.str s, r]], ks', xs', _, _, by simpa using e, nd', hks', fun t => ?_, rfl⟩
              rw [hm t]
              simp only [List.mem_append, List.mem_singleton]
              constructor
              · rintro (h | ⟨⟨r2, h1⟩, h2⟩)
                · exact .inl h
                · exact .inr ⟨⟨r2, .inl h1⟩, h2⟩
              · rintro (h | ⟨⟨r2, h1 | h1⟩, h2⟩)
                · exact .inl h
                · exact .inr ⟨⟨r2, h1⟩, h2⟩
                · injection h1 with h1
                  injection h1 with h1 _
                  injection h1 with h1
                  exact absurd (h1 ▸ h2) hs'
          · rintro Γ ⟨don, ks', xs', o5, o6, e, nd', hks', hm, rfl⟩
            rw [List.append_nil] at e
            subst e
            walk_at "ew"
            refine ⟨st, ks', xs', _, _, _, _, hst', by omega, by omega, nd', hks', fun s => ?_, rfl⟩
            rw [← hfr s, stF_cons, hm s, free_cmp hw', or_assoc]
        | @junct n1 m1 w qs hw' hl hqs =>
          walk_at "ew"
          refine w_inS rfl rfl ?_
          walk_at "ew"
          refine w_bf (by rcases hw' with rfl | rfl <;> decide +kernel) ?_
          walk_at "ew"
          refine w_inS rfl rfl ?_
          walk_at "ew"
          refine w_bf (by rcases hw' with rfl | rfl <;> decide +kernel) ?_
          walk_at "ew"
          refine y_parts_j w qs hw' ?_
          walk_at "ew"
          have h3 : szts qs + 3 ≤ szt (.tuple [.str w, .tuple qs]) := by simp only [szt, szts]; omega
          have h4 := wtS_kids bs qs
          have h5 := wtS_len (kids qs bs ++ st)
          have h6 := wtS_app (kids qs bs) st
          rw [List.length_append, show (kids qs bs).length = qs.length by simp [kids]] at h5
          refine ⟨by omega, ?_⟩
          walk_at "ew"
          refine w_lmap qs id (fun y => .tuple [y, .tuple (stL bs)]) (by simp) (fun y hy => ?_) ?_
          · dsimp only [id]
            walk_at "ew"
            rfl
          · walk_at "ew"
            refine w_extE (by simp; omega) ?_
            rw [← kids_ent]
            walk_at "ew"
            refine ⟨kids qs bs ++ st, ks, xs, _, _, _, _, fun x hx => ?_, by omega, by omega, nd, hks, fun s => ?_, rfl⟩
            · rcases List.mem_append.mp hx with hx | hx
              · rw [List.mem_reverse] at hx
                obtain ⟨y, hy, rfl⟩ := List.mem_map.mp hx
                obtain ⟨a, ha⟩ := fts_mem hqs y hy
                exact ⟨n1, a, ha, by dsimp only; omega⟩
              · exact hst' x hx
            · rw [← hfr s, stF_cons, stF_app, stF_kids, free_join hw']
        | @neg n1 m1 q hq =>
          walk_at "ew"
          refine w_inS rfl rfl ?_
          walk_at "ew"
          refine w_inS rfl rfl ?_
          walk_at "ew"
          refine y_parts_n q ?_
          walk_at "ew"
          have h3 : szt q + 3 ≤ szt (.tuple [.str "not", q]) := by simp only [szt, szts]; omega
          have h5 := wtS_len ((q, bs) :: st)
          have h6 := wtS_cons (q, bs) st
          rw [List.length_cons] at h5
          dsimp only at h6
          refine ⟨by simp, ?_⟩
          walk_at "ew"
          refine w_lmap [q] id (fun y => .tuple [y, .tuple (stL bs)]) (by simp) (fun y hy => ?_) ?_
          · dsimp only [id]
            walk_at "ew"
            rfl
          · walk_at "ew"
            refine w_extE (by simp; omega) ?_
            rw [← kids_ent]
            walk_at "ew"
            refine ⟨kids [q] bs ++ st, ks, xs, _, _, _, _, fun x hx => ?_, by show wtS ((q, bs) :: st) ≤ _; omega, by show wtS ((q, bs) :: st) < _; omega, nd, hks, fun s => ?_, rfl⟩
            · rcases List.mem_cons.mp (show x ∈ (q, bs) :: st from hx) with rfl | hx
              · exact ⟨n1, m1, hq, by dsimp only; omega⟩
              · exact hst' x hx
            · show s ∈ ks ∨ StF ((q, bs) :: st) s ↔ _
              rw [← hfr s, stF_cons, stF_cons, free_no]
        | @quant n1 m1 w s q hw' hs hq =>
          walk_at "ew"
          refine w_inS rfl rfl ?_
          walk_at "ew"
          refine w_bf (by rcases hw' with rfl | rfl <;> decide +kernel) ?_
          walk_at "ew"
          refine w_inS rfl rfl ?_
          walk_at "ew"
          refine w_bt (by rcases hw' with rfl | rfl <;> decide +kernel) ?_
          walk_at "ew"
          have h3 : szt q + 3 ≤ szt (.tuple [.str w, .str s, q]) := by simp only [szt, szts]; omega
          have h5 := wtS_len ((q, bs) :: st)
          have h6 := wtS_cons (q, bs) st
          rw [List.length_cons] at h5
          dsimp only at h6
          refine w_addTup (a := stL bs) (b := [.str s]) (by simp; omega) ?_
          walk_at "ew"
          refine w_appE (by simp; omega) ?_
          rw [show st.reverse.map entQ ++ [.tuple [q, .tuple (stL bs ++ [.str s])]] = ((q, bs ++ [s]) :: st).reverse.map entQ by rw [List.reverse_cons, List.map_append]; simp [entQ, stL]]
          walk_at "ew"
          refine ⟨(q, bs ++ [s]) :: st, ks, xs, _, _, _, _, fun x hx => ?_, by rw [wtS_cons]; dsimp only; omega, by rw [wtS_cons]; dsimp only; omega, nd, hks, fun t => ?_, rfl⟩
          · rcases List.mem_cons.mp hx with rfl | hx
            · exact ⟨n1, m1, hq, by simp; omega⟩
            · exact hst' x hx
          · rw [← hfr t, stF_cons, stF_cons, free_qu hw', List.mem_append, List.mem_singleton, not_or]
            constructor
            · rintro (h | ⟨h1, h2, h4⟩ | h)
              · exact .inl h
              · exact .inr (.inl ⟨⟨h4, h1⟩, h2⟩)
              · exact .inr (.inr h)
            · rintro (h | ⟨⟨h4, h1⟩, h2⟩ | h)
              · exact .inl h
              · exact .inr (.inl ⟨h1, h2, h4⟩)
              · exact .inr (.inr h)
    · have he : st = [] := by
        have := Classical.not_not.mp hne
        simpa using this
      subst he
      have hfew := keys_few nd hks
      walk_at "ew"
      refine w_keysM rfl ?_
      walk_at "ew"
      refine w_sortL (ss := ks) (fz_l (by show fzs (ks.map fun x => D.p (.str x)) = _; rw [show (ks.map fun x => D.p (.str x)) = (stL ks).map D.p by simp [stL]]; exact fzs_map _)) (by omega) ?_
      walk_at "ew"
      refine w_tupleL (fz_l (fzs_map _)) ?_
      walk_at "ew"
      exact k ks nd (fun s => by rw [← hfr s]; simp [StF]) hks
end
end GH
namespace GH
open PySem L2 RZ
local macro_rules | `(tactic| walk_at "szt") => `(tactic| (repeat (first | assumption | with_reducible refine Sz.mul ?_ ?_ | with_reducible refine Sz.add ?_ ?_ | with_reducible refine Sz.sub ?_ ?_ | with_reducible refine Sz.neg ?_ | exact (show Sz 64 _ by unfold Sz; omega))))
local macro_rules | `(tactic| walk_at "guard") => `(tactic| first
  | assumption | exact mulOk_l (by decide) | exact mulOk_r (by decide)
  | exact mulOk_l (by omega) | exact mulOk_r (by omega)
  | (refine mulOk_sz (m := ?_) (n := ?_) ?_ ?_ ?_; rotate_left 2; · walk_at "szt"
     · walk_at "szt"
     · decide)
  | (refine divOk_sz (m := ?_) ?_ (by omega) ?_; rotate_left 1; · walk_at "szt"
     · decide)
  | decide)
local macro_rules | `(tactic| walk_at "ev0") => `(tactic| first
  | with_reducible refine w_seq ?_
  | with_reducible refine w_bin ?_
  | with_reducible refine w_argC ?_
  | with_reducible refine w_argN ?_
  | with_reducible refine w_ret ?_
  | ((with_reducible apply w_rd); exact rfl)
  | ((with_reducible apply w_mv); exact rfl)
  | ((with_reducible apply w_nrm); (first
      | ((with_reducible show outsOf _ _ _ = _); ((simp (decide := true) only [outsOf, List.range, List.range.loop, List.map, List.getElem?_cons_zero, List.getElem?_cons_succ, if_true, if_false, Option.join_some, Option.join_none]) <;> exact rfl))
      | ((dsimp only [List.set_cons_zero, List.set_cons_succ, rst, setAll, wipeG, List.map, List.append, List.reduceReplicate, Nat.reduceSub, Int.reduceToNat, List.cons_append, List.nil_append, List.append_nil, List.getElem?_cons_zero, List.getElem?_cons_succ]) <;> exact rfl)
      | exact rfl))
  | with_reducible refine w_una ?_
  | with_reducible refine w_app ?_
  | with_reducible refine w_call ?_
  | (with_reducible refine w_rdO ⟨rfl, rfl⟩ ?_)
  | ((with_reducible apply w_slot); exact rfl)
  | ((with_reducible apply w_rdU); exact rfl)
  | with_reducible refine w_isT ?_
  | with_reducible refine w_db ?_
  | with_reducible refine w_asg ?_
  | ((with_reducible apply w_gnm); exact of_decide_eq_true rfl)
  | with_reducible refine w_ifS ?_
  | with_reducible refine w_ifM ?_
  | with_reducible refine w_retS ?_
  | with_reducible refine w_nx ?_
  | with_reducible refine w_drop ?_
  | with_reducible refine w_par ?_
  | with_reducible refine w_two ?_
  | ((with_reducible apply w_inr); · (unfold InR; first | omega | (simp; omega)))
  | with_reducible refine w_parL ?_
  | with_reducible refine w_parG ?_
  | with_reducible refine w_gconsD ?_
  | with_reducible refine w_gnilD ?_
  | (with_reducible refine ⟨⟨rfl, rfl⟩, ?_⟩)
  | with_reducible refine w_add ?_
  | with_reducible refine w_sub ?_
  | ((with_reducible apply w_mul); · walk_at "guard")
  | ((with_reducible apply w_fdiv); · walk_at "guard")
  | ((with_reducible apply w_mod); · first | assumption | decide | omega)
  | with_reducible refine w_neg ?_
  | with_reducible refine w_notD ?_
  | with_reducible refine w_lt ?_
  | with_reducible refine w_le ?_
  | with_reducible refine w_gt ?_
  | with_reducible refine w_ge ?_
  | with_reducible refine w_eq ?_
  | with_reducible refine w_ne ?_
  | with_reducible refine w_abs ?_
  | with_reducible refine w_notN0 ?_
  | with_reducible refine w_notNT ?_
  | with_reducible refine w_isN0 ?_
  | with_reducible refine w_isNT ?_
  | ((with_reducible apply w_ixl); exact rfl)
  | ((with_reducible apply w_ixT0); exact rfl)
  | ((with_reducible apply w_ixN); exact rfl)
  | with_reducible refine w_un1 ?_
  | with_reducible refine w_intI ?_
  | with_reducible refine w_intB ?_
  | with_reducible refine w_gcd ?_
  | ((with_reducible apply w_isiT); exact rfl)
  | ((with_reducible apply w_isiI); exact rfl)
  | ((with_reducible apply w_isiB); exact rfl)
  | ((with_reducible apply w_isiS); exact rfl)
  | ((with_reducible apply w_isiL); exact rfl)
  | with_reducible refine w_frz ?_
  | ((with_reducible apply w_tup); exact of_decide_eq_true rfl; exact rfl)
  | ((with_reducible apply w_lst1); exact of_decide_eq_true rfl)
  | with_reducible refine w_lenT ?_
  | with_reducible refine w_lenL ?_
  | with_reducible refine w_lenO ?_
  | ((with_reducible apply w_powT); exact of_decide_eq_true rfl; (simp only [Int.reduceToNat, Int.reducePow]; exact rfl))
  | with_reducible refine w_while ?_
  | with_reducible refine w_for ?_
  | with_reducible refine w_lc ?_
  | with_reducible refine w_and ?_
  | with_reducible refine w_any ?_
  | ((with_reducible apply w_itL); exact rfl)
  | ((with_reducible apply w_itT); exact rfl)
  | ((with_reducible apply w_itL); exact fz_l (fzs_map _))
  | ((with_reducible apply w_rdl); exact rfl; exact fz_l (fzs_map _))
  | with_reducible refine w_cutT ?_
  | with_reducible refine w_cutP ?_
  | with_reducible refine w_cutO ?_
  | with_reducible refine w_rng1 ?_
  | with_reducible refine w_rng2 ?_
  | with_reducible refine w_one ?_
  | with_reducible refine w_twoI ?_
  | with_reducible refine w_zip ?_
  | with_reducible refine w_enum ?_
  | with_reducible refine w_enumA ?_
  | with_reducible refine w_ones ?_
  | ((with_reducible apply w_itS); exact rfl)
  | with_reducible refine w_or ?_
  | with_reducible refine w_not ?_
  | with_reducible refine w_yes ?_
  | with_reducible refine w_noP ?_
  | with_reducible refine w_someP ?_
  | with_reducible refine w_int ?_
  | (with_reducible refine w_sliceN ⟨rfl, rfl⟩ ?_)
  | with_reducible refine w_sliceM ?_
  | (with_reducible refine w_argL ⟨rfl, rfl⟩ ?_)
  | with_reducible refine w_callK ?_
  | with_reducible refine w_chain ?_
  | with_reducible refine w_chq ?_
  | with_reducible refine w_andM ?_
  | with_reducible refine w_orM ?_
  | ((with_reducible apply w_mvl); exact rfl)
  | ((with_reducible apply w_rdl); exact rfl; exact rfl)
  | ((with_reducible apply w_gtup); exact rfl; exact rfl)
  | with_reducible refine w_gcons ?_
  | with_reducible refine w_gnil ?_
  | ((with_reducible apply w_mutN); exact rfl)
  | ((with_reducible apply w_mutP); exact rfl; exact rfl)
  | ((with_reducible apply w_rdP); exact rfl; exact rfl)
  | (with_reducible refine ⟨rfl, ?_⟩)
  | ((with_reducible apply w_gset); exact rfl)
  | with_reducible refine w_lst ?_
  | with_reducible refine w_bn ?_
  | ((with_reducible apply w_bt); · decide)
  | ((with_reducible apply w_bf); · decide)
  | with_reducible refine w_bt (show isTup _ = true from rfl) ?_
  | with_reducible refine w_bf (show isTup _ = false from rfl) ?_
  | with_reducible refine w_bt (show isInt _ = true from rfl) ?_
  | with_reducible refine w_bf (show isInt _ = false from rfl) ?_
  | with_reducible refine w_bt (show isBool _ = true from rfl) ?_
  | with_reducible refine w_bf (show isBool _ = false from rfl) ?_
  | with_reducible refine w_bt (show isStr _ = true from rfl) ?_
  | with_reducible refine w_bf (show isStr _ = false from rfl) ?_
  | with_reducible refine w_bt (show isList _ = true from rfl) ?_
  | with_reducible refine w_bf (show isList _ = false from rfl) ?_
  | ((with_reducible apply w_rdK); exact rfl; exact rfl)
  | ((with_reducible apply w_mutK); exact rfl; exact rfl)
  | ((with_reducible apply w_mvm); exact rfl)
  | ((with_reducible apply w_rdPK); exact rfl; exact rfl)
  | with_reducible refine w_setK ?_
  | ((with_reducible apply w_slotK); exact rfl; exact rfl)
  | ((with_reducible apply w_dsp); exact rfl))
local macro_rules | `(tactic| walk_at "ev1") => `(tactic| first
  | walk_at "ev0"
  | ((with_reducible apply w_bt); · (refine decide_eq_true ?_; first | with_reducible rfl | assumption | omega))
  | ((with_reducible apply w_bf); · (refine decide_eq_false ?_; first | assumption | omega)))
local macro_rules | `(tactic| walk_at "ev") => `(tactic| repeat walk_at "ev1")
local macro_rules | `(tactic| walk_at "ew") => `(tactic| repeat walk_at "ev0")
local macro_rules | `(tactic| walk_at "dr") => `(tactic| repeat first
  | walk_at "ev0"
  | with_reducible refine fzp ?_
  | ((with_reducible apply y_draw); · assumption
     · first | decide | (simp; done) | omega
     intro v cs' m' z' hv0 hv1 hd))
section
variable {QF : D → List (Option D) → Prop} {QD : D → Prop} {Q2 : D × D → Prop}
theorem ft_size : ∀ (n : Nat), (∀ (m : Nat) (q : PyData), FT n m q → bigS q = true ∧ szt q + 10 ≤ 1600 * m ∧ q.depth ≤ 2 * n + 4) ∧ (∀ (qs : List PyData) (m : Nat), FTs n m qs → bigSs qs = true ∧ szts qs ≤ 1600 * m ∧ PyData.depthAll qs ≤ 2 * n + 4) := by
  intro n
  induction n with
  | zero =>
    refine ⟨fun m q h => (by cases h), fun qs m h => ?_⟩
    cases h with
    | nil => exact ⟨rfl, by simp [szts], by simp [PyData.depthAll]⟩
    | cons h _ => cases h
  | succ n ih =>
    have one : ∀ (m : Nat) (q : PyData), FT (n + 1) m q → bigS q = true ∧ szt q + 10 ≤ 1600 * m ∧ q.depth ≤ 2 * (n + 1) + 4 := by
      intro m q h
      cases h with
      | leaf hw _ _ hr =>
        have hl : (reprText ‹Str›).length ≤ 20 := by rcases hw with rfl | rfl | rfl <;> decide +kernel
        obtain ⟨h1, h2, h3⟩ := (word_ro hl (k := 4)).t2 hr
        exact ⟨h1, by omega, by omega⟩
      | @junct _ m w qs hw _ h =>
        have hl : (reprText w).length ≤ 20 := by rcases hw with rfl | rfl <;> decide +kernel
        obtain ⟨h1, h2, h3⟩ := ih.2 _ _ h
        have hq : Ro (1600 * m + 3) (2 * n + 5) (.tuple qs) := ⟨by simpa only [bigS] using h1, by simp only [szt]; omega, by simp only [PyData.depth]; omega⟩
        obtain ⟨h1, h2, h3⟩ := (word_ro hl (k := 2 * n + 5)).t2 hq
        exact ⟨h1, by omega, by omega⟩
      | @neg _ m q h =>
        obtain ⟨h1, h2, h3⟩ := ih.1 _ _ h
        have hq : Ro (1600 * m) (2 * n + 4) q := ⟨h1, by omega, h3⟩
        have hl : (reprText ("not" : Str)).length ≤ 20 := by decide +kernel
        obtain ⟨h1, h2, h3⟩ := (word_ro hl (k := 2 * n + 4)).t2 hq
        exact ⟨h1, by omega, by omega⟩
      | @quant _ m w s q hw hs h =>
        obtain ⟨h1, h2, h3⟩ := ih.1 _ _ h
        have hq : Ro (1600 * m) (2 * n + 4) q := ⟨h1, by omega, h3⟩
        have hl : (reprText w).length ≤ 20 := by rcases hw with rfl | rfl <;> decide +kernel
        obtain ⟨h1, h2, h3⟩ := (word_ro hl (k := 2 * n + 4)).t3 (word_ro (names_ok s hs)) hq
        exact ⟨h1, by omega, by omega⟩
    refine ⟨one, fun qs => ?_⟩
    induction qs with
    | nil => intro m h; cases h; exact ⟨rfl, by simp [szts], by simp [PyData.depthAll]⟩
    | cons q qs ihq =>
      intro m h
      cases h with
      | cons h1 h2 =>
        obtain ⟨a1, a2, a3⟩ := one _ _ h1
        obtain ⟨b1, b2, b3⟩ := ihq _ h2
        exact ⟨by simp only [bigSs, a1, b1, Bool.and_self], by simp only [szts]; omega, by simp only [PyData.depthAll]; omega⟩
theorem ft_ro {n m : Nat} {q : PyData} (h : FT n m q) : Ro (1600 * m) (2 * n + 4) q := by
  obtain ⟨h1, h2, h3⟩ := (ft_size n).1 m q h
  exact ⟨h1, by omega, h3⟩
/-- the names that are free, in order -/
structure Due (v : PyData) (T : List Str) : Prop where
  nd : T.Nodup
  pw : T.Pairwise fun a b => leS a b = true
  is : ∀ s, s ∈ T ↔ Free v s
theorem srt_is {A B : List Str} (na : A.Nodup) (nb : B.Nodup) (pb : B.Pairwise fun a b => leS a b = true) (h : ∀ s, s ∈ A ↔ s ∈ B) : A.mergeSort leS = B :=
  List.Perm.eq_of_pairwise (fun a b _ _ => leS_anti) (leS_sorted A) pb ((List.mergeSort_perm _ _).trans ((List.perm_ext_iff_of_nodup na nb).mpr h))
theorem setSortS_nd (L : List Str) : (setSortS L).Nodup := (List.mergeSort_perm _ _).nodup_iff.mpr nodup_sdup
theorem setSortS_mem {L : List Str} {s : Str} : s ∈ setSortS L ↔ s ∈ L := (List.mergeSort_perm _ _).mem_iff.trans mem_sdup
theorem Due.of {v : PyData} {L : List Str} (h : ∀ s, s ∈ L ↔ Free v s) : Due v (setSortS L) := ⟨setSortS_nd L, leS_sorted _, fun s => setSortS_mem.trans (h s)⟩
theorem y_fn {v : PyData} {n m : Nat} {T : List Str} (hv : FT n m v) (hT : Due v T) (hn : n ≤ 40) (hm : m ≤ 1000) (k : (∀ s ∈ T, s ∈ names13) → QF (.p (.tuple (stL T))) [some (.p v)]) : wF s_free_names [.p v] QF :=
  y_free_names v n m hv hn (by have := (ft_ro hv).2.1; omega) fun ks nd hks h13 => by
    rw [srt_is nd hT.nd hT.pw fun s => (hks s).trans (hT.is s).symm]
    exact k fun s hs => h13 s ((hks s).mpr ((hT.is s).mp hs))
theorem txs_stL (L : List Str) : txs (stL L) = some L := txs_map L
theorem w_setSortS {d : D} {L : List Str} (hd : fz d = some (.list (stL L))) (h : L.length < 4000) (k : QD (.l ((stL (setSortS L)).map .p))) : wO (setSortSD d) QD := by
  refine ⟨_, ?_, k⟩
  unfold setSortSD
  rw [hd]
  dsimp only
  rw [txs_stL]
  dsimp only
  rw [if_pos h, stL, List.map_map]
  rfl
theorem names_ro {T : List Str} (nd : T.Nodup) (h : ∀ s ∈ T, s ∈ names13) : Ro 300 1 (.tuple (stL T)) :=
  (Ro.tupn (n := 20) (k := 0) (m := 13) (fun x hx => by
    obtain ⟨s, hs, rfl⟩ := List.mem_map.mp hx
    exact word_ro (names_ok s (h s hs))) (by rw [stL, List.length_map]; exact keys_few nd h)).mono (by decide) (by decide)
abbrev othQ : PyData := .tuple [.str "ge", .tuple [.tuple [.tuple [.str "q", .tuple [.int 1, .int 1]], .tuple [.str "x", .tuple [.int (-1), .int 2]]], .tuple [.int 0, .int 1]]]
theorem oth_ft : FT 1 1 othQ := .leaf (.inl rfl) (by decide) (fun p hp => by
  simp only [List.mem_cons, List.not_mem_nil, or_false] at hp
  rcases hp with rfl | rfl
  · exact ⟨"q", _, rfl, by decide +kernel⟩
  · exact ⟨"x", _, rfl, by decide +kernel⟩) (by refine ⟨by decide +kernel, by decide +kernel, by decide +kernel⟩)
theorem oth_free {s : Str} : Free othQ s ↔ s = "q" ∨ s = "x" := by
  rw [free_cmp (.inl rfl)]
  simp only [List.mem_cons, List.not_mem_nil, or_false]
  constructor
  · rintro ⟨r, h | h⟩
    · injection h with h
      injection h with h _
      injection h with h
      exact .inl h
    · injection h with h
      injection h with h _
      injection h with h
      exact .inr h
  · rintro (rfl | rfl)
    · exact ⟨_, .inl rfl⟩
    · exact ⟨_, .inr rfl⟩
theorem ft_up {n m : Nat} {q : PyData} : FT n m q → FT (n + 1) m q := by
  have all : ∀ n : Nat, (∀ (m : Nat) (q : PyData), FT n m q → FT (n + 1) m q) ∧ (∀ (qs : List PyData) (m : Nat), FTs n m qs → FTs (n + 1) m qs) := by
    intro n
    induction n with
    | zero =>
      refine ⟨fun m q h => (by cases h), fun qs m h => ?_⟩
      cases h with
      | nil => exact .nil
      | cons h _ => cases h
    | succ n ih =>
      have one : ∀ (m : Nat) (q : PyData), FT (n + 1) m q → FT (n + 1 + 1) m q := by
        intro m q h
        cases h with
        | leaf a b c d => exact .leaf a b c d
        | junct a b c => exact .junct a b (ih.2 _ _ c)
        | neg a => exact .neg (ih.1 _ _ a)
        | quant a b c => exact .quant a b (ih.1 _ _ c)
      refine ⟨one, fun qs => ?_⟩
      induction qs with
      | nil => intro m h; cases h; exact .nil
      | cons q qs ihq =>
        intro m h
        cases h with
        | cons h1 h2 => exact .cons (one _ _ h1) (ihq _ h2)
  exact (all n).1 m q
theorem ft_le {n n' m : Nat} {q : PyData} (h : FT n m q) (hn : n ≤ n') : FT n' m q := by
  induction hn with
  | refl => exact h
  | step _ ih => exact ft_up ih
end
end GH
namespace GH
open PySem L2 RZ
local macro_rules | `(tactic| walk_at "szt") => `(tactic| (repeat (first | assumption | with_reducible refine Sz.mul ?_ ?_ | with_reducible refine Sz.add ?_ ?_ | with_reducible refine Sz.sub ?_ ?_ | with_reducible refine Sz.neg ?_ | exact (show Sz 64 _ by unfold Sz; omega))))
local macro_rules | `(tactic| walk_at "guard") => `(tactic| first
  | assumption | exact mulOk_l (by decide) | exact mulOk_r (by decide)
  | exact mulOk_l (by omega) | exact mulOk_r (by omega)
  | (refine mulOk_sz (m := ?_) (n := ?_) ?_ ?_ ?_; rotate_left 2; · walk_at "szt"
     · walk_at "szt"
     · decide)
  | (refine divOk_sz (m := ?_) ?_ (by omega) ?_; rotate_left 1; · walk_at "szt"
     · decide)
  | decide)
local macro_rules | `(tactic| walk_at "ev0") => `(tactic| first
  | with_reducible refine w_seq ?_
  | with_reducible refine w_bin ?_
  | with_reducible refine w_argC ?_
  | with_reducible refine w_argN ?_
  | with_reducible refine w_ret ?_
  | ((with_reducible apply w_rd); exact rfl)
  | ((with_reducible apply w_mv); exact rfl)
  | ((with_reducible apply w_nrm); (first
      | ((with_reducible show outsOf _ _ _ = _); ((simp (decide := true) only [outsOf, List.range, List.range.loop, List.map, List.getElem?_cons_zero, List.getElem?_cons_succ, if_true, if_false, Option.join_some, Option.join_none]) <;> exact rfl))
      | ((dsimp only [List.set_cons_zero, List.set_cons_succ, rst, setAll, wipeG, List.map, List.append, List.reduceReplicate, Nat.reduceSub, Int.reduceToNat, List.cons_append, List.nil_append, List.append_nil, List.getElem?_cons_zero, List.getElem?_cons_succ]) <;> exact rfl)
      | exact rfl))
  | with_reducible refine w_una ?_
  | with_reducible refine w_app ?_
  | with_reducible refine w_call ?_
  | (with_reducible refine w_rdO ⟨rfl, rfl⟩ ?_)
  | ((with_reducible apply w_slot); exact rfl)
  | ((with_reducible apply w_rdU); exact rfl)
  | with_reducible refine w_isT ?_
  | with_reducible refine w_db ?_
  | with_reducible refine w_asg ?_
  | ((with_reducible apply w_gnm); exact of_decide_eq_true rfl)
  | with_reducible refine w_ifS ?_
  | with_reducible refine w_ifM ?_
  | with_reducible refine w_retS ?_
  | with_reducible refine w_nx ?_
  | with_reducible refine w_drop ?_
  | with_reducible refine w_par ?_
  | with_reducible refine w_two ?_
  | ((with_reducible apply w_inr); · (unfold InR; first | omega | (simp; omega)))
  | with_reducible refine w_parL ?_
  | with_reducible refine w_parG ?_
  | with_reducible refine w_gconsD ?_
  | with_reducible refine w_gnilD ?_
  | (with_reducible refine ⟨⟨rfl, rfl⟩, ?_⟩)
  | with_reducible refine w_add ?_
  | with_reducible refine w_sub ?_
  | ((with_reducible apply w_mul); · walk_at "guard")
  | ((with_reducible apply w_fdiv); · walk_at "guard")
  | ((with_reducible apply w_mod); · first | assumption | decide | omega)
  | with_reducible refine w_neg ?_
  | with_reducible refine w_notD ?_
  | with_reducible refine w_lt ?_
  | with_reducible refine w_le ?_
  | with_reducible refine w_gt ?_
  | with_reducible refine w_ge ?_
  | with_reducible refine w_eq ?_
  | with_reducible refine w_ne ?_
  | with_reducible refine w_abs ?_
  | with_reducible refine w_notN0 ?_
  | with_reducible refine w_notNT ?_
  | with_reducible refine w_isN0 ?_
  | with_reducible refine w_isNT ?_
  | ((with_reducible apply w_ixl); exact rfl)
  | ((with_reducible apply w_ixT0); exact rfl)
  | ((with_reducible apply w_ixN); exact rfl)
  | with_reducible refine w_un1 ?_
  | with_reducible refine w_intI ?_
  | with_reducible refine w_intB ?_
  | with_reducible refine w_gcd ?_
  | ((with_reducible apply w_isiT); exact rfl)
  | ((with_reducible apply w_isiI); exact rfl)
  | ((with_reducible apply w_isiB); exact rfl)
  | ((with_reducible apply w_isiS); exact rfl)
  | ((with_reducible apply w_isiL); exact rfl)
  | with_reducible refine w_frz ?_
  | ((with_reducible apply w_tup); exact of_decide_eq_true rfl; exact rfl)
  | ((with_reducible apply w_lst1); exact of_decide_eq_true rfl)
  | with_reducible refine w_lenT ?_
  | with_reducible refine w_lenL ?_
  | with_reducible refine w_lenO ?_
  | ((with_reducible apply w_powT); exact of_decide_eq_true rfl; (simp only [Int.reduceToNat, Int.reducePow]; exact rfl))
  | with_reducible refine w_while ?_
  | with_reducible refine w_for ?_
  | with_reducible refine w_lc ?_
  | with_reducible refine w_and ?_
  | with_reducible refine w_any ?_
  | ((with_reducible apply w_itL); exact rfl)
  | ((with_reducible apply w_itT); exact rfl)
  | ((with_reducible apply w_itL); exact fz_l (fzs_map _))
  | ((with_reducible apply w_rdl); exact rfl; exact fz_l (fzs_map _))
  | with_reducible refine w_cutT ?_
  | with_reducible refine w_cutP ?_
  | with_reducible refine w_cutO ?_
  | with_reducible refine w_rng1 ?_
  | with_reducible refine w_rng2 ?_
  | with_reducible refine w_one ?_
  | with_reducible refine w_twoI ?_
  | with_reducible refine w_zip ?_
  | with_reducible refine w_enum ?_
  | with_reducible refine w_enumA ?_
  | with_reducible refine w_ones ?_
  | ((with_reducible apply w_itS); exact rfl)
  | with_reducible refine w_or ?_
  | with_reducible refine w_not ?_
  | with_reducible refine w_yes ?_
  | with_reducible refine w_noP ?_
  | with_reducible refine w_someP ?_
  | with_reducible refine w_int ?_
  | (with_reducible refine w_sliceN ⟨rfl, rfl⟩ ?_)
  | with_reducible refine w_sliceM ?_
  | (with_reducible refine w_argL ⟨rfl, rfl⟩ ?_)
  | with_reducible refine w_callK ?_
  | with_reducible refine w_chain ?_
  | with_reducible refine w_chq ?_
  | with_reducible refine w_andM ?_
  | with_reducible refine w_orM ?_
  | ((with_reducible apply w_mvl); exact rfl)
  | ((with_reducible apply w_rdl); exact rfl; exact rfl)
  | ((with_reducible apply w_gtup); exact rfl; exact rfl)
  | with_reducible refine w_gcons ?_
  | with_reducible refine w_gnil ?_
  | ((with_reducible apply w_mutN); exact rfl)
  | ((with_reducible apply w_mutP); exact rfl; exact rfl)
  | ((with_reducible apply w_rdP); exact rfl; exact rfl)
  | (with_reducible refine ⟨rfl, ?_⟩)
  | ((with_reducible apply w_gset); exact rfl)
  | with_reducible refine w_lst ?_
  | with_reducible refine w_bn ?_
  | ((with_reducible apply w_bt); · decide)
  | ((with_reducible apply w_bf); · decide)
  | with_reducible refine w_bt (show isTup _ = true from rfl) ?_
  | with_reducible refine w_bf (show isTup _ = false from rfl) ?_
  | with_reducible refine w_bt (show isInt _ = true from rfl) ?_
  | with_reducible refine w_bf (show isInt _ = false from rfl) ?_
  | with_reducible refine w_bt (show isBool _ = true from rfl) ?_
  | with_reducible refine w_bf (show isBool _ = false from rfl) ?_
  | with_reducible refine w_bt (show isStr _ = true from rfl) ?_
  | with_reducible refine w_bf (show isStr _ = false from rfl) ?_
  | with_reducible refine w_bt (show isList _ = true from rfl) ?_
  | with_reducible refine w_bf (show isList _ = false from rfl) ?_
  | ((with_reducible apply w_rdK); exact rfl; exact rfl)
  | ((with_reducible apply w_mutK); exact rfl; exact rfl)
  | ((with_reducible apply w_mvm); exact rfl)
  | ((with_reducible apply w_rdPK); exact rfl; exact rfl)
  | with_reducible refine w_setK ?_
  | ((with_reducible apply w_slotK); exact rfl; exact rfl)
  | ((with_reducible apply w_dsp); exact rfl))
local macro_rules | `(tactic| walk_at "ev1") => `(tactic| first
  | walk_at "ev0"
  | ((with_reducible apply w_bt); · (refine decide_eq_true ?_; first | with_reducible rfl | assumption | omega))
  | ((with_reducible apply w_bf); · (refine decide_eq_false ?_; first | assumption | omega)))
local macro_rules | `(tactic| walk_at "ev") => `(tactic| repeat walk_at "ev1")
local macro_rules | `(tactic| walk_at "ew") => `(tactic| repeat walk_at "ev0")
local macro_rules | `(tactic| walk_at "dr") => `(tactic| repeat first
  | walk_at "ev0"
  | with_reducible refine fzp ?_
  | ((with_reducible apply y_draw); · assumption
     · first | decide | (simp; done) | omega
     intro v cs' m' z' hv0 hv1 hd))
section
variable {QF : D → List (Option D) → Prop} {QD : D → Prop} {Q2 : D × D → Prop}
abbrev pre3 : List Str := ["x", "y", "v1"]
abbrev suf2 : List Str := ["q", "x"]
theorem w_listT {d : D} {xs : List PyData} (h : fz d = some (.tuple xs)) (k : QD (.l (xs.map .p))) : wO (listD d) QD := ⟨_, by unfold listD; rw [h], k⟩
theorem y_is_right (cs : List Int) (m z : Int) (v : PyData) (b : Bool) (n mm : Nat) (hv : FT n mm v) (hn1 : 1 ≤ n) (hn : n ≤ 12) (hm : mm ≤ 400) (hd : Dk cs m) (k : ∀ cs' m' z', Dk cs' m' → QF (.p (.bool true)) [some (dk cs' m' z'), some (.p v), some (.p (.bool b))]) : wF s__law_is_right [dk cs m z, .p v, .p (.bool b)] QF := by
  have rv : reprOk v = true := (ft_ro hv).ok (by omega) (by omega)
  unfold s__law_is_right
  refine w_fn rfl ?_
  unfold b__law_is_right
  walk_at "ew"
  refine y_free n mm v hv (by omega) 12 hn _ [] (isQ_l []) (by simp; omega) fun L d' hd' hL hlen => ?_
  have hdue : Due v (setSortS L) := .of fun s => by rw [hL s]; simp
  walk_at "ew"
  refine w_setSortS (fz_l (fzs_map _)) (by omega) ?_
  generalize setSortS L = T at *
  walk_at "ew"
  refine w_tupleL (fz_l (fzs_map _)) ?_
  walk_at "ew"
  refine w_repr rfl rv ?_
  walk_at "ew"
  refine w_midBE (fun d Γ' => d = .p (.tuple (stL T)) ∧ (∀ s ∈ T, s ∈ names13) ∧ Γ' = [some (dk cs m z), some (.p v), some (.p (.bool b)), some (.p (.tuple (stL T))), some (.p (.str v.shown)), none, none, none, none, none, none]) ?_ ?_
  · refine ⟨fun hb => ?_, fun hb => ?_⟩
    · walk_at "ew"
      refine y_fn hv hdue (by omega) (by omega) fun h13 => ?_
      walk_at "ew"
      first | exact ⟨rfl, h13, rfl⟩ | exact ⟨h13, rfl⟩ | exact h13
    · walk_at "ew"
      refine y_fn hv hdue (by omega) (by omega) fun h13 => ?_
      walk_at "ew"
      first | exact ⟨rfl, h13, rfl⟩ | exact ⟨h13, rfl⟩ | exact h13
  rintro d Γ' ⟨rfl, h13, rfl⟩
  have rT := names_ro hdue.nd h13
  have hfew := keys_few hdue.nd h13
  have rTT : reprOk (.list [.tuple (stL T), .tuple (stL T)]) = true := (Ro.listn (n := 300) (k := 1) (m := 2) (fun x hx => by
    simp only [List.mem_cons, List.not_mem_nil, or_false, or_self] at hx
    exact hx ▸ rT) (by simp)).ok (by decide) (by decide)
  have okT : reprOk (.tuple (stL T)) = true := rT.ok (by decide) (by decide)
  walk_at "ew"
  refine y_fn hv hdue (by omega) (by omega) fun _ => ?_
  walk_at "ew"
  refine w_repr rfl rTT ?_
  walk_at "ew"
  refine w_repr rfl rTT ?_
  walk_at "ew"
  refine w_neS ?_
  walk_at "ew"
  refine w_bt (decide_eq_true rfl) ?_
  walk_at "ew"
  refine w_listT (xs := stL T) rfl ?_
  walk_at "ew"
  refine w_addL (by simp; omega) ?_
  walk_at "ew"
  refine y_pick _ _ _ _ (stL (pre3 ++ T)) (isQ_l (stL (pre3 ++ T))) hd ⟨by simp, by simp; omega⟩ fun q hq cs m z hd => ?_
  obtain ⟨nm, hnm, rfl⟩ := List.mem_map.mp hq
  have n13 : nm ∈ names13 := by
    rcases List.mem_append.mp hnm with h | h
    · simp only [List.mem_cons, List.not_mem_nil, or_false] at h
      rcases h with rfl | rfl | rfl <;> decide +kernel
    · exact h13 nm h
  walk_at "ew"
  refine pick_two "each" "some" (by decide +kernel) (by decide +kernel) _ _ _ hd fun w cs m z hw hl hd => ?_
  walk_at "ew"
  have d1 : Due (.tuple [.str w, .str nm, v]) (T.filter fun s => decide (s ≠ nm)) := ⟨hdue.nd.filter _, hdue.pw.filter _, fun s => by rw [free_qu hw, List.mem_filter, hdue.is s, decide_eq_true_eq, And.comm]⟩
  refine y_fn (.quant hw n13 hv) d1 (by omega) (by omega) fun _ => ?_
  walk_at "ew"
  refine pick_two "and" "or" (by decide +kernel) (by decide +kernel) _ _ _ hd fun w2 cs m z hw2 hl2 hd => ?_
  walk_at "ew"
  have d2 : Due (.tuple [.str w2, .tuple [v, othQ]]) (setSortS (T ++ suf2)) := .of fun s => by
    rw [free_join hw2, List.mem_append, hdue.is s]
    constructor
    · rintro (h | h)
      · exact ⟨v, by simp, h⟩
      · exact ⟨othQ, by simp, oth_free.mpr (by simpa using h)⟩
    · rintro ⟨q, hq, h⟩
      simp only [List.mem_cons, List.not_mem_nil, or_false] at hq
      rcases hq with rfl | rfl
      · exact .inl h
      · exact .inr (by simpa using oth_free.mp h)
  refine y_fn (.junct hw2 (by simp) (.cons hv (.cons (ft_le oth_ft hn1) .nil))) d2 (by omega) (by omega) fun h13b => ?_
  walk_at "ew"
  have okB : reprOk (.tuple (stL (T.filter fun s => decide (s ≠ nm)))) = true := (names_ro d1.nd fun s hs => h13 s (List.mem_filter.mp hs).1).ok (by decide) (by decide)
  have okS : reprOk (.tuple (stL (setSortS (T ++ suf2)))) = true := (names_ro d2.nd h13b).ok (by decide) (by decide)
  refine w_repr rfl okB ?_
  walk_at "ew"
  refine ⟨by simp; omega, ?_⟩
  walk_at "ew"
  refine w_lfil T .str .str (fun s => decide (s ≠ nm)) rfl (fun s hs => ?_) ?_
  · walk_at "ew"
    refine w_neS ?_
    walk_at "ew"
    refine w_bd ?_ ?_ <;> intro h
    · walk_at "ew"
      simp [h]
    · walk_at "ew"
      simp [h]
  walk_at "ew"
  refine w_tupleL (qs := stL (T.filter fun s => decide (s ≠ nm))) (fz_l (fzs_map _)) ?_
  walk_at "ew"
  refine w_repr rfl okB ?_
  walk_at "ew"
  refine w_neS ?_
  walk_at "ew"
  refine w_bt (decide_eq_true rfl) ?_
  walk_at "ew"
  have d3 : Due (.tuple [.str "not", v]) T := ⟨hdue.nd, hdue.pw, fun s => by rw [free_no, hdue.is s]⟩
  refine y_fn (.neg hv) d3 (by omega) (by omega) fun _ => ?_
  walk_at "ew"
  refine w_repr rfl okT ?_
  walk_at "ew"
  refine w_repr rfl okT ?_
  walk_at "ew"
  refine w_neS ?_
  walk_at "ew"
  refine w_bt (decide_eq_true rfl) ?_
  walk_at "ew"
  refine w_repr rfl okS ?_
  walk_at "ew"
  refine w_listT (xs := stL T) rfl ?_
  walk_at "ew"
  refine w_addL (by simp; omega) ?_
  walk_at "ew"
  refine w_setSortS (L := T ++ suf2) (by rw [show (stL T).map D.p ++ [D.p (.str "q"), D.p (.str "x")] = (stL (T ++ suf2)).map D.p by simp [stL]]; exact fz_l (fzs_map _)) (by simp; omega) ?_
  walk_at "ew"
  refine w_tupleL (fz_l (fzs_map _)) ?_
  walk_at "ew"
  refine w_repr rfl okS ?_
  walk_at "ew"
  refine w_eqS ?_
  walk_at "ew"
  refine w_bt (decide_eq_true rfl) ?_
  walk_at "ew"
  refine w_repr rfl rv ?_
  walk_at "ew"
  refine w_eqS ?_
  rw [decide_eq_true rfl]
  walk_at "ew"
  exact k _ _ _ hd
end
end GH
namespace GH
open PySem L2 RZ
local macro_rules | `(tactic| walk_at "szt") => `(tactic| (repeat (first | assumption | with_reducible refine Sz.mul ?_ ?_ | with_reducible refine Sz.add ?_ ?_ | with_reducible refine Sz.sub ?_ ?_ | with_reducible refine Sz.neg ?_ | exact (show Sz 64 _ by unfold Sz; omega))))
local macro_rules | `(tactic| walk_at "guard") => `(tactic| first
  | assumption | exact mulOk_l (by decide) | exact mulOk_r (by decide)
  | exact mulOk_l (by omega) | exact mulOk_r (by omega)
  | (refine mulOk_sz (m := ?_) (n := ?_) ?_ ?_ ?_; rotate_left 2; · walk_at "szt"
     · walk_at "szt"
     · decide)
  | (refine divOk_sz (m := ?_) ?_ (by omega) ?_; rotate_left 1; · walk_at "szt"
     · decide)
  | decide)
local macro_rules | `(tactic| walk_at "ev0") => `(tactic| first
  | with_reducible refine w_seq ?_
  | with_reducible refine w_bin ?_
  | with_reducible refine w_argC ?_
  | with_reducible refine w_argN ?_
  | with_reducible refine w_ret ?_
  | ((with_reducible apply w_rd); exact rfl)
  | ((with_reducible apply w_mv); exact rfl)
  | ((with_reducible apply w_nrm); (first
      | ((with_reducible show outsOf _ _ _ = _); ((simp (decide := true) only [outsOf, List.range, List.range.loop, List.map, List.getElem?_cons_zero, List.getElem?_cons_succ, if_true, if_false, Option.join_some, Option.join_none]) <;> exact rfl))
      | ((dsimp only [List.set_cons_zero, List.set_cons_succ, rst, setAll, wipeG, List.map, List.append, List.reduceReplicate, Nat.reduceSub, Int.reduceToNat, List.cons_append, List.nil_append, List.append_nil, List.getElem?_cons_zero, List.getElem?_cons_succ]) <;> exact rfl)
      | exact rfl))
  | with_reducible refine w_una ?_
  | with_reducible refine w_app ?_
  | with_reducible refine w_call ?_
  | (with_reducible refine w_rdO ⟨rfl, rfl⟩ ?_)
  | ((with_reducible apply w_slot); exact rfl)
  | ((with_reducible apply w_rdU); exact rfl)
  | with_reducible refine w_isT ?_
  | with_reducible refine w_db ?_
  | with_reducible refine w_asg ?_
  | ((with_reducible apply w_gnm); exact of_decide_eq_true rfl)
  | with_reducible refine w_ifS ?_
  | with_reducible refine w_ifM ?_
  | with_reducible refine w_retS ?_
  | with_reducible refine w_nx ?_
  | with_reducible refine w_drop ?_
  | with_reducible refine w_par ?_
  | with_reducible refine w_two ?_
  | ((with_reducible apply w_inr); · (unfold InR; first | omega | (simp; omega)))
  | with_reducible refine w_parL ?_
  | with_reducible refine w_parG ?_
  | with_reducible refine w_gconsD ?_
  | with_reducible refine w_gnilD ?_
  | (with_reducible refine ⟨⟨rfl, rfl⟩, ?_⟩)
  | with_reducible refine w_add ?_
  | with_reducible refine w_sub ?_
  | ((with_reducible apply w_mul); · walk_at "guard")
  | ((with_reducible apply w_fdiv); · walk_at "guard")
  | ((with_reducible apply w_mod); · first | assumption | decide | omega)
  | with_reducible refine w_neg ?_
  | with_reducible refine w_notD ?_
  | with_reducible refine w_lt ?_
  | with_reducible refine w_le ?_
  | with_reducible refine w_gt ?_
  | with_reducible refine w_ge ?_
  | with_reducible refine w_eq ?_
  | with_reducible refine w_ne ?_
  | with_reducible refine w_abs ?_
  | with_reducible refine w_notN0 ?_
  | with_reducible refine w_notNT ?_
  | with_reducible refine w_isN0 ?_
  | with_reducible refine w_isNT ?_
  | ((with_reducible apply w_ixl); exact rfl)
  | ((with_reducible apply w_ixT0); exact rfl)
  | ((with_reducible apply w_ixN); exact rfl)
  | with_reducible refine w_un1 ?_
  | with_reducible refine w_intI ?_
  | with_reducible refine w_intB ?_
  | with_reducible refine w_gcd ?_
  | ((with_reducible apply w_isiT); exact rfl)
  | ((with_reducible apply w_isiI); exact rfl)
  | ((with_reducible apply w_isiB); exact rfl)
  | ((with_reducible apply w_isiS); exact rfl)
  | ((with_reducible apply w_isiL); exact rfl)
  | with_reducible refine w_frz ?_
  | ((with_reducible apply w_tup); exact of_decide_eq_true rfl; exact rfl)
  | ((with_reducible apply w_lst1); exact of_decide_eq_true rfl)
  | with_reducible refine w_lenT ?_
  | with_reducible refine w_lenL ?_
  | with_reducible refine w_lenO ?_
  | ((with_reducible apply w_powT); exact of_decide_eq_true rfl; (simp only [Int.reduceToNat, Int.reducePow]; exact rfl))
  | with_reducible refine w_while ?_
  | with_reducible refine w_for ?_
  | with_reducible refine w_lc ?_
  | with_reducible refine w_and ?_
  | with_reducible refine w_any ?_
  | ((with_reducible apply w_itL); exact rfl)
  | ((with_reducible apply w_itT); exact rfl)
  | ((with_reducible apply w_itL); exact fz_l (fzs_map _))
  | ((with_reducible apply w_rdl); exact rfl; exact fz_l (fzs_map _))
  | with_reducible refine w_cutT ?_
  | with_reducible refine w_cutP ?_
  | with_reducible refine w_cutO ?_
  | with_reducible refine w_rng1 ?_
  | with_reducible refine w_rng2 ?_
  | with_reducible refine w_one ?_
  | with_reducible refine w_twoI ?_
  | with_reducible refine w_zip ?_
  | with_reducible refine w_enum ?_
  | with_reducible refine w_enumA ?_
  | with_reducible refine w_ones ?_
  | ((with_reducible apply w_itS); exact rfl)
  | with_reducible refine w_or ?_
  | with_reducible refine w_not ?_
  | with_reducible refine w_yes ?_
  | with_reducible refine w_noP ?_
  | with_reducible refine w_someP ?_
  | with_reducible refine w_int ?_
  | (with_reducible refine w_sliceN ⟨rfl, rfl⟩ ?_)
  | with_reducible refine w_sliceM ?_
  | (with_reducible refine w_argL ⟨rfl, rfl⟩ ?_)
  | with_reducible refine w_callK ?_
  | with_reducible refine w_chain ?_
  | with_reducible refine w_chq ?_
  | with_reducible refine w_andM ?_
  | with_reducible refine w_orM ?_
  | ((with_reducible apply w_mvl); exact rfl)
  | ((with_reducible apply w_rdl); exact rfl; exact rfl)
  | ((with_reducible apply w_gtup); exact rfl; exact rfl)
  | with_reducible refine w_gcons ?_
  | with_reducible refine w_gnil ?_
  | ((with_reducible apply w_mutN); exact rfl)
  | ((with_reducible apply w_mutP); exact rfl; exact rfl)
  | ((with_reducible apply w_rdP); exact rfl; exact rfl)
  | (with_reducible refine ⟨rfl, ?_⟩)
  | ((with_reducible apply w_gset); exact rfl)
  | with_reducible refine w_lst ?_
  | with_reducible refine w_bn ?_
  | ((with_reducible apply w_bt); · decide)
  | ((with_reducible apply w_bf); · decide)
  | with_reducible refine w_bt (show isTup _ = true from rfl) ?_
  | with_reducible refine w_bf (show isTup _ = false from rfl) ?_
  | with_reducible refine w_bt (show isInt _ = true from rfl) ?_
  | with_reducible refine w_bf (show isInt _ = false from rfl) ?_
  | with_reducible refine w_bt (show isBool _ = true from rfl) ?_
  | with_reducible refine w_bf (show isBool _ = false from rfl) ?_
  | with_reducible refine w_bt (show isStr _ = true from rfl) ?_
  | with_reducible refine w_bf (show isStr _ = false from rfl) ?_
  | with_reducible refine w_bt (show isList _ = true from rfl) ?_
  | with_reducible refine w_bf (show isList _ = false from rfl) ?_
  | ((with_reducible apply w_rdK); exact rfl; exact rfl)
  | ((with_reducible apply w_mutK); exact rfl; exact rfl)
  | ((with_reducible apply w_mvm); exact rfl)
  | ((with_reducible apply w_rdPK); exact rfl; exact rfl)
  | with_reducible refine w_setK ?_
  | ((with_reducible apply w_slotK); exact rfl; exact rfl)
  | ((with_reducible apply w_dsp); exact rfl))
local macro_rules | `(tactic| walk_at "ev1") => `(tactic| first
  | walk_at "ev0"
  | ((with_reducible apply w_bt); · (refine decide_eq_true ?_; first | with_reducible rfl | assumption | omega))
  | ((with_reducible apply w_bf); · (refine decide_eq_false ?_; first | assumption | omega)))
local macro_rules | `(tactic| walk_at "ev") => `(tactic| repeat walk_at "ev1")
local macro_rules | `(tactic| walk_at "ew") => `(tactic| repeat walk_at "ev0")
local macro_rules | `(tactic| walk_at "dr") => `(tactic| repeat first
  | walk_at "ev0"
  | with_reducible refine fzp ?_
  | ((with_reducible apply y_draw); · assumption
     · first | decide | (simp; done) | omega
     intro v cs' m' z' hv0 hv1 hd))
section
variable {QF : D → List (Option D) → Prop} {QD : D → Prop} {Q2 : D × D → Prop}
theorem due_nil {w : Str} (hw : w = "and" ∨ w = "or") : Due (.tuple [.str w, .tuple []]) [] := ⟨.nil, .nil, fun s => by rw [free_join hw]; simp⟩
theorem due_gt {c : PyData} : Due (.tuple [.str "gt", .tuple [.tuple [], c]]) [] := ⟨.nil, .nil, fun s => by rw [free_cmp (.inr (.inl rfl))]; simp⟩
theorem law_w (ns : List Int) (hn : ns.length ≤ 63) : wF s_law [.p (.list (ns.map .int))] fun d _ => d = .p (.bool true) := by
  unfold s_law
  refine w_fn rfl ?_
  unfold b_law
  walk_at "ew"
  refine y_sack ns (by omega) fun cs m hd => ?_
  walk_at "ew"
  refine w_loop (fun ds Γ => ∃ (is : List Int) (cs : List Int) (m z : Int) (e2 e3 e4 : Option D), Γ = [some (.p (.list (ns.map .int))), some (dk cs m z), e2, e3, e4] ∧ ds = is.map .int ∧ Dk cs m) ⟨(List.range 9).map Int.ofNat, cs, m, 0, none, none, none, rfl, rfl, hd⟩ ?_ ?_
  · clear hd
    rintro q ds Γ ⟨is, cs, m, z, e2, e3, e4, rfl, e, hd⟩
    cases is with
    | nil => cases e
    | cons i is =>
      cases e
      walk_at "ew"
      refine y_names _ _ _ hd fun ss cs m z d' hq hs hd => ?_
      rcases hq.2 with ⟨xs, rfl, rfl⟩ | rfl
      all_goals
        walk_at "dr"
        rename_i v cs1 m1 z1 v0 v1 hd1
        rw [show (3 : Int) + v = ((v.toNat + 2 + 1 : Nat) : Int) by omega]
        refine y_formula _ _ _ _ ss (v.toNat + 2) (by omega) (by first | exact isQ_l _ | exact isQ_p _) hs hd1 fun f cs m z d' o2 hr hF hq' hd => ?_
        obtain ⟨n, mm, hn, hm, hf⟩ := hF
        have hn1 : 1 ≤ n := by
          cases n with
          | zero => cases hf
          | succ n => omega
        rcases hq'.2 with ⟨ys, rfl, rfl⟩ | rfl
        all_goals
          walk_at "ew"
          refine w_bd ?_ ?_ <;> intro h5
          · walk_at "ew"
            first
              | refine w_ixP (qs := stL ss) (v := 0) (by decide) (by have := hs.1; simp; omega) fun q hq => ?_
              | refine w_ixPL (qs := stL ss) (v := 0) (by decide) (by have := hs.1; simp; omega) fun q hq => ?_
            obtain ⟨nm, hnm, rfl⟩ := List.mem_map.mp hq
            walk_at "ew"
            refine y_is_right _ _ _ _ _ (n + 4) (mm + ((mm + (mm + 1 + 0) + 1) + 1 + 0) + 1) (.junct (.inl rfl) (by simp) (.cons (ft_le hf (by omega)) (.cons (.quant (.inr rfl) (hs.2.2 nm hnm) (.junct (.inr rfl) (by simp) (.cons (ft_up hf) (.cons (.neg hf) .nil)))) .nil))) (by omega) (by omega) (by omega) hd fun cs m z hd => ?_
            walk_at "ew"
            exact ⟨is, _, _, _, _, _, _, rfl, rfl, hd⟩
          · walk_at "ew"
            refine y_is_right _ _ _ _ _ n mm hf hn1 (by omega) (by omega) hd fun cs m z hd => ?_
            walk_at "ew"
            exact ⟨is, _, _, _, _, _, _, rfl, rfl, hd⟩
  · rintro Γ ⟨is, cs, m, z, e2, e3, e4, rfl, e, hd⟩
    walk_at "ew"
    refine y_fn (.junct (n := 0) (.inl rfl) (by simp) .nil) (due_nil (.inl rfl)) (by omega) (by omega) fun _ => ?_
    walk_at "ew"
    refine y_fn (.junct (n := 0) (.inr rfl) (by simp) .nil) (due_nil (.inr rfl)) (by omega) (by omega) fun _ => ?_
    walk_at "ew"
    refine y_fn (.leaf (n := 0) (.inr (.inl rfl)) (by simp) (fun _ h => nomatch h) (by refine ⟨by decide +kernel, by decide +kernel, by decide +kernel⟩)) due_gt (by omega) (by omega) fun _ => ?_
    walk_at "ew"
    refine w_repr rfl (by decide +kernel) ?_
    walk_at "ew"
    refine w_smulL (qs := [.tuple []]) (by decide) ?_
    walk_at "ew"
    refine w_repr (q := .list [.tuple [], .tuple [], .tuple []]) rfl (by decide +kernel) ?_
    walk_at "ew"
    refine w_eqS ?_
    walk_at "ew"
    exact congrArg (fun b => D.p (.bool b)) (decide_eq_true rfl)
theorem law_true : ∀ ns : List Int, ns.length ≤ 63 → (∀ z ∈ ns, Builtin.Int.intBits z ≤ 1048576) → ∃ outs, s_law [.p (.list (ns.map .int))] = some (.p (.bool true), outs) := fun ns hn _ => by
  obtain ⟨d, outs, e, k⟩ := law_w ns hn
  exact ⟨outs, by rw [e, k]⟩
end
end GH
namespace GH
open PySem L2 RZ
def topS (i : Nat) : Stmt := PySem.Challenge.pw_answerlines_k44_names_that_are_free.main.body.getD i (.Pass ⟨0, 0, 0, 0⟩)
abbrev st_parts_of : Stmt := topS 4
abbrev st_free_names : Stmt := topS 5
abbrev st__law_sack : Stmt := topS 7
abbrev st__law_draw : Stmt := topS 8
abbrev st__law_pick : Stmt := topS 9
abbrev st__law_gcd : Stmt := topS 11
abbrev st__law_ratio : Stmt := topS 12
abbrev st__law_fraction : Stmt := topS 13
abbrev st__law_sum : Stmt := topS 14
abbrev st__law_tree : Stmt := topS 15
abbrev st__law_nodes : Stmt := topS 16
abbrev st__law_formula : Stmt := topS 17
abbrev st__law_mixed : Stmt := topS 10
abbrev st__law_names : Stmt := topS 18
abbrev st__law_free : Stmt := topS 19
abbrev st__law_is_right : Stmt := topS 20
abbrev st_law : Stmt := topS 21
theorem kw_free_names_0_formula : KwOk st_free_names "free_names" ["formula"] 0 ["formula"] [0] := fun _ _ _ _ _ _ us ws h1 h2 => match us, ws, h1, h2 with | [], [_], _, _ => rfl
theorem sc_parts_of : FnScope ["formula"] ["formula"] (defScope st_parts_of) := ⟨rfl, rfl, rfl, by decide +kernel, rfl, by decide +kernel, by decide +kernel⟩
structure Tx_parts_of (P : Program) (w : World) (K : PySem.W.Frag) (mg : Str → Option Value) (base : Heap) : Prop where
  c_COMPARISONS : GlobK K mg "COMPARISONS" k_COMPARISONS
  c_JOINS : GlobK K mg "JOINS" k_JOINS
theorem ok_parts_of {P : Program} {w : World} {K : PySem.W.Frag} {mg : Str → Option Value} {base : Heap} (T : Tx_parts_of P w K mg base) (hN : base.NoDigits) {f : Addr} {fd : FuncData} (F : Fun K "parts_of" "parts_of" st_parts_of f fd) : FnG P w K mg base CX0 2 f fd ["formula"] (okFn K s_parts_of) := by
  refine okG_def (k := 1) (N := ["formula"]) (g := b_parts_of) F sc_parts_of rfl fun cdv A outer s H E hgd hr => ?_
  have hu := hr.units
  have hu5 := units65 hr
  have hu1 := units1 hr
  exact (ess_cons (es_if (et_cmp (o_in hu5) (ee_ixN (pv 0) ee_int (fun _ _ => rfl)) (ee_globK T.c_COMPARISONS (by rfl)) (by rfl)) (ess_one (es_ret (ee_tup ea_nil))) ess_nil)
    (ess_one (es_ret (ee_if (et_cmp (o_in hu5) (ee_ixN (pv 0) ee_int (fun _ _ => rfl)) (ee_globK T.c_JOINS (by rfl)) (by rfl)) (ee_ixN (pv 0) ee_int (fun _ _ => rfl)) (ee_sliceN (pv 0) (eo_some (ee_una u_neg ee_int)) eo_none)))))
theorem bd_parts_of : ∀ (kV doc pm : Value) (an : Option Addr) (cdv ct : Value) (us : List Value), us.length = (["formula"] : List Str).length → bindArgs (PySem.W.fnOf "parts_of" "parts_of" (defArgs st_parts_of) (defBody st_parts_of) (defScope st_parts_of) .none kV doc pm an cdv ct) ⟨us, []⟩ = pure ((["formula"] : List Str).zip us) := fun _ _ _ _ _ _ us hl => match us, hl with | [_], _ => rfl
theorem sc_free_names : FnScope ["formula", "found", "todo", "own", "bound", "name", "number", "part"] ["formula"] (defScope st_free_names) := ⟨rfl, rfl, rfl, by decide +kernel, rfl, by decide +kernel, by decide +kernel⟩
structure Tx_free_names (P : Program) (w : World) (K : PySem.W.Frag) (mg : Str → Option Value) (base : Heap) : Prop where
  d_parts_of : Has P w K mg base 2 "parts_of" st_parts_of ["formula"] s_parts_of
  z_list : mg "list" = none
  z_sorted : mg "sorted" = none
  z_tuple : mg "tuple" = none
  c_COMPARISONS : GlobK K mg "COMPARISONS" k_COMPARISONS
  c_QUANTIFIERS : GlobK K mg "QUANTIFIERS" k_QUANTIFIERS
theorem ok_free_names {P : Program} {w : World} {K : PySem.W.Frag} {mg : Str → Option Value} {base : Heap} (T : Tx_free_names P w K mg base) (hN : base.NoDigits) {f : Addr} {fd : FuncData} (F : Fun K "free_names" "free_names" st_free_names f fd) : FnG P w K mg base CX0 3 f fd ["formula"] (okFn K s_free_names) := by
  refine okG_def (k := 2) (N := ["formula", "found", "todo", "own", "bound", "name", "number", "part"]) (g := b_free_names) F sc_free_names rfl fun cdv A outer s H E hgd hr => ?_
  have hu := hr.units
  have hu5 := units65 hr
  have hu1 := units1 hr
  exact (ess_cons (es_par (ps_par (i := 1) (j := 2) rfl sc_free_names.nd rfl rfl (by decide) rfl rfl (ea_cons ee_newM (ea_cons (ee_lst (ea_cons (ee_tup (ea_cons (ee_rd (pv 0)) (ea_cons (ee_tup ea_nil) ea_nil))) ea_nil)) ea_nil)) (by rfl)) (by decide) (by decide))
    (ess_cons (es_while PassesOwn.never (et_cmpN (r_ne hu) (pv 2) (ee_lst ea_nil) (nomark _)) (ess_cons (es_asg (ps_asg (ee_mutN0 PySem.F.plainAttrs_list PySem.F.slot_list_pop PySem.F.type_list_pop mt_pop m_pop (pv 2)) (eg_tup rfl (egs_cons (eg_name (pg_name (i := 3) sc_free_names.nd rfl (Or.inl rfl)) (by decide)) (egs_cons (eg_name (pg_name (i := 4) sc_free_names.nd rfl (Or.inr rfl)) (by decide)) egs_nil)))))
    (ess_one (es_if (et_cmp (o_in hu5) (ee_ixN (pv 3) ee_int (fun _ _ => rfl)) (ee_globK T.c_COMPARISONS (by rfl)) (by rfl)) (ess_one (es_for PassesOwn.never rfl (ei_any (ee_ix (ee_ixN (pv 3) ee_int (fun _ _ => rfl)) ee_int (fun _ _ => rfl))) (eg_tup rfl (egs_cons (eg_name (pg_name (i := 5) sc_free_names.nd rfl (Or.inl rfl)) (by decide)) (egs_cons (eg_name (pg_name (i := 6) sc_free_names.nd rfl (Or.inl rfl)) (by decide)) egs_nil))) (ess_one (es_if (et_cmp (o_notin hu5) (ee_rd (pv 5)) (ee_rd (pv 4)) (by rfl)) (ess_one (es_putY hu1 (pv 1) (ee_rd (pv 5)) ee_bool)) ess_nil)))) (ess_one (es_if (et_cmp (o_in hu5) (ee_ixN (pv 3) ee_int (fun _ _ => rfl)) (ee_globK T.c_QUANTIFIERS (by rfl)) (by rfl)) (ess_one (es_expr (ee_mutN PySem.F.plainAttrs_list PySem.F.slot_list_append PySem.F.type_list_append mt_append m_append (pv 2) (ea_cons (ee_tup (ea_cons (ee_ixN (pv 3) ee_int (fun _ _ => rfl)) (ea_cons (ee_bin o_add (ee_rd (pv 4)) (ee_tup (ea_cons (ee_ixN (pv 3) ee_int (fun _ _ => rfl)) ea_nil))) ea_nil))) ea_nil)))) (ess_one (es_expr (ee_mutN PySem.F.plainAttrs_list PySem.F.slot_list_extend PySem.F.type_list_extend mt_extend m_extend (pv 2) (ea_cons (ee_lc (own := [("part", 7)]) rfl sc_free_names.nd (ei_any (ee_callH T.d_parts_of hgd hr (by decide) (by rfl) (ea_lend (pv 3) ea_nil))) (blkOk_by (N := ["formula", "found", "todo", "own", "bound", "name", "number", "part"]) (sc := defScope st_free_names) (by decide +kernel)) (fun _ _ _ _ _ => (eg_name (pg_name (i := 7) sc_free_names.nd rfl (Or.inl rfl)) (by decide))) (fun _ _ _ _ _ => ets_nil) (fun _ _ _ _ _ => (ee_tup (ea_cons (ee_rd (pv 7)) (ea_cons (ee_rd (pv 4)) ea_nil))))) ea_nil))))))))))
    (ess_one (es_ret (ee_callTy c_tuple (by rfl) T.z_tuple (by decide +kernel) (ea_cons (ee_callB (c_sorted (Nat.lt_of_le_of_lt (Nat.add_le_add_left (show 60 ≤ 65 by decide) _) hu5)) (by rfl) T.z_sorted (by decide +kernel) (ea_cons (ee_keysM rfl (by rfl) T.z_list (by decide +kernel) (pv 1)) ea_nil)) ea_nil))))))
theorem bd_free_names : ∀ (kV doc pm : Value) (an : Option Addr) (cdv ct : Value) (us : List Value), us.length = (["formula"] : List Str).length → bindArgs (PySem.W.fnOf "free_names" "free_names" (defArgs st_free_names) (defBody st_free_names) (defScope st_free_names) .none kV doc pm an cdv ct) ⟨us, []⟩ = pure ((["formula"] : List Str).zip us) := fun _ _ _ _ _ _ us hl => match us, hl with | [_], _ => rfl
theorem sc__law_sack : FnScope ["script", "cells", "stirred", "cell"] ["script"] (defScope st__law_sack) := ⟨rfl, rfl, rfl, by decide +kernel, rfl, by decide +kernel, by decide +kernel⟩
structure Tx__law_sack (P : Program) (w : World) (K : PySem.W.Frag) (mg : Str → Option Value) (base : Heap) : Prop where
  z_abs : mg "abs" = none
  z_int : mg "int" = none
  z_len : mg "len" = none
theorem ok__law_sack {P : Program} {w : World} {K : PySem.W.Frag} {mg : Str → Option Value} {base : Heap} (T : Tx__law_sack P w K mg base) (hN : base.NoDigits) {f : Addr} {fd : FuncData} (F : Fun K "_law_sack" "_law_sack" st__law_sack f fd) : FnG P w K mg base CX0 2 f fd ["script"] (okFn K s__law_sack) := by
  refine okG_def (k := 1) (N := ["script", "cells", "stirred", "cell"]) (g := b__law_sack) F sc__law_sack rfl fun cdv A outer s H E hgd hr => ?_
  have hu := hr.units
  have hu5 := units65 hr
  have hu1 := units1 hr
  exact (ess_cons (es_par (ps_par (i := 1) (j := 2) rfl sc__law_sack.nd rfl rfl (by decide) rfl rfl (ea_cons (ee_lc (own := [("cell", 3)]) rfl sc__law_sack.nd (ei_any (ee_sliceN (pv 0) eo_none (eo_some ee_int))) (blkOk_by (N := ["script", "cells", "stirred", "cell"]) (sc := defScope st__law_sack) (by decide +kernel)) (fun _ _ _ _ _ => (eg_name (pg_name (i := 3) sc__law_sack.nd rfl (Or.inl rfl)) (by decide))) (fun _ _ _ _ _ => ets_nil) (fun _ _ _ _ _ => (ee_bin o_add (ee_bin o_smul ee_int (ee_callBN c_abs (by rfl) T.z_abs (by decide +kernel) (pv 3))) (ee_callTy c_int.used (by rfl) T.z_int (by decide +kernel) (ea_cons (ee_cmp o_lt (ee_rd (pv 3)) ee_int (nomark _)) ea_nil))))) (ea_cons (ee_bin o_add ee_int (ee_bin o_smul ee_int (ee_callBN c_len (by rfl) T.z_len (by decide +kernel) (pv 0)))) ea_nil)) (by rfl)) (by decide) (by decide))
    (ess_cons (es_for PassesOwn.never rfl (ei_any (ee_rd (pv 1))) (eg_name (pg_name (i := 3) sc__law_sack.nd rfl (Or.inl rfl)) (by decide)) (ess_one (es_set (ps_set (i := 2) sc__law_sack.nd rfl (Or.inl rfl) (ee_bin o_mod (ee_callTy c_int.used (by rfl) T.z_int (by decide +kernel) (ea_cons (ee_bin o_add (ee_bin o_add (ee_bin o_smul (ee_rd (pv 2)) ee_int) (ee_rd (pv 3))) ee_int) ea_nil)) ee_int)) (by decide))))
    (ess_one (es_ret (ee_disp (kd_cons (ee_lc (own := [("cell", 3)]) rfl sc__law_sack.nd (ei_any (ee_rd (pv 1))) (blkOk_by (N := ["script", "cells", "stirred", "cell"]) (sc := defScope st__law_sack) (by decide +kernel)) (fun _ _ _ _ _ => (eg_name (pg_name (i := 3) sc__law_sack.nd rfl (Or.inl rfl)) (by decide))) (fun _ _ _ _ _ => (ets_one (et_cmp o_ge (ee_rd (pv 3)) (ee_bin o_pow ee_int ee_int) (nomark _)))) (fun _ _ _ _ _ => (ee_bin o_fdiv (ee_rd (pv 3)) ee_int))) (kd_cons (ee_mv (pv 2)) (kd_cons ee_int kd_nil))))))))
theorem bd__law_sack : ∀ (kV doc pm : Value) (an : Option Addr) (cdv ct : Value) (us : List Value), us.length = (["script"] : List Str).length → bindArgs (PySem.W.fnOf "_law_sack" "_law_sack" (defArgs st__law_sack) (defBody st__law_sack) (defScope st__law_sack) .none kV doc pm an cdv ct) ⟨us, []⟩ = pure ((["script"] : List Str).zip us) := fun _ _ _ _ _ _ us hl => match us, hl with | [_], _ => rfl
theorem sc__law_draw : FnScope ["sack", "many", "one", "whole"] ["sack", "many"] (defScope st__law_draw) := ⟨rfl, rfl, rfl, by decide +kernel, rfl, by decide +kernel, by decide +kernel⟩
structure Tx__law_draw (P : Program) (w : World) (K : PySem.W.Frag) (mg : Str → Option Value) (base : Heap) : Prop where
  z_int : mg "int" = none
theorem ok__law_draw {P : Program} {w : World} {K : PySem.W.Frag} {mg : Str → Option Value} {base : Heap} (T : Tx__law_draw P w K mg base) (hN : base.NoDigits) {f : Addr} {fd : FuncData} (F : Fun K "_law_draw" "_law_draw" st__law_draw f fd) : FnG P w K mg base CX0 2 f fd ["sack", "many"] (okFn K s__law_draw) := by
  refine okG_def (k := 1) (N := ["sack", "many", "one", "whole"]) (g := b__law_draw) F sc__law_draw rfl fun cdv A outer s H E hgd hr => ?_
  have hu := hr.units
  have hu5 := units65 hr
  have hu1 := units1 hr
  exact (ess_cons (es_if (et_cmp o_lt (ee_rd (pv 1)) ee_int (nomark _)) (ess_one (es_ret ee_int)) ess_nil)
    (ess_cons (es_if (et_cmpPK (r_ne hu) (by decide) (by rfl) (pe_K hu1 (pv 0)) (ee_lst ea_nil) (nomark _)) (ess_cons (es_set (ps_set (i := 3) sc__law_draw.nd rfl (Or.inl rfl) (ee_mutK0 PySem.F.plainAttrs_list PySem.F.slot_list_pop PySem.F.type_list_pop mt_pop m_pop (by decide) (by rfl) (pe_K hu1 (pv 0)))) (by decide))
    (ess_cons (es_if (et_cmp o_ge (ee_rd (pv 3)) (ee_rd (pv 1)) (nomark _)) (ess_one (es_expr (ee_mutK PySem.F.plainAttrs_list PySem.F.slot_list_append PySem.F.type_list_append mt_append m_append (by decide) (by rfl) (pe_K hu1 (pv 0)) (ea_cons (ee_bin o_fdiv (ee_rd (pv 3)) (ee_rd (pv 1))) ea_nil)))) ess_nil)
    (ess_one (es_ret (ee_bin o_mod (ee_callTN c_int (by rfl) T.z_int (by decide +kernel) (pv 3)) (ee_rd (pv 1))))))) ess_nil)
    (ess_cons (es_setK hu1 (by decide) (by rfl) (pv 0) (ee_bin o_add (ee_rdK hu1 (by decide) (by rfl) (pv 0)) ee_int))
    (ess_cons (es_set (ps_set (i := 2) sc__law_draw.nd rfl (Or.inl rfl) (ee_bin o_mod (ee_callTy c_int.used (by rfl) T.z_int (by decide +kernel) (ea_cons (ee_bin o_add (ee_rdK hu1 (by decide) (by rfl) (pv 0)) (ee_bin o_smul ee_int (ee_rdK hu1 (by decide) (by rfl) (pv 0)))) ea_nil)) ee_int)) (by decide))
    (ess_cons (es_set (ps_set (i := 2) sc__law_draw.nd rfl (Or.inl rfl) (ee_bin o_mod (ee_callTy c_int.used (by rfl) T.z_int (by decide +kernel) (ea_cons (ee_bin o_add (ee_bin o_add (ee_bin o_smul (ee_rd (pv 2)) (ee_rd (pv 2))) (ee_bin o_smul ee_int (ee_rdK hu1 (by decide) (by rfl) (pv 0)))) ee_int) ea_nil)) ee_int)) (by decide))
    (ess_cons (es_set (ps_set (i := 2) sc__law_draw.nd rfl (Or.inl rfl) (ee_bin o_mod (ee_callTy c_int.used (by rfl) T.z_int (by decide +kernel) (ea_cons (ee_bin o_add (ee_bin o_smul (ee_rd (pv 2)) (ee_rd (pv 2))) (ee_rdK hu1 (by decide) (by rfl) (pv 0))) ea_nil)) ee_int)) (by decide))
    (ess_one (es_ret (ee_bin o_mod (ee_callTy c_int.used (by rfl) T.z_int (by decide +kernel) (ea_cons (ee_bin o_fdiv (ee_rd (pv 2)) ee_int) ea_nil)) (ee_rd (pv 1)))))))))))
theorem bd__law_draw : ∀ (kV doc pm : Value) (an : Option Addr) (cdv ct : Value) (us : List Value), us.length = (["sack", "many"] : List Str).length → bindArgs (PySem.W.fnOf "_law_draw" "_law_draw" (defArgs st__law_draw) (defBody st__law_draw) (defScope st__law_draw) .none kV doc pm an cdv ct) ⟨us, []⟩ = pure ((["sack", "many"] : List Str).zip us) := fun _ _ _ _ _ _ us hl => match us, hl with | [_, _], _ => rfl
theorem sc__law_pick : FnScope ["sack", "items"] ["sack", "items"] (defScope st__law_pick) := ⟨rfl, rfl, rfl, by decide +kernel, rfl, by decide +kernel, by decide +kernel⟩
structure Tx__law_pick (P : Program) (w : World) (K : PySem.W.Frag) (mg : Str → Option Value) (base : Heap) : Prop where
  d__law_draw : Has P w K mg base 2 "_law_draw" st__law_draw ["sack", "many"] s__law_draw
  z_len : mg "len" = none
theorem ok__law_pick {P : Program} {w : World} {K : PySem.W.Frag} {mg : Str → Option Value} {base : Heap} (T : Tx__law_pick P w K mg base) (hN : base.NoDigits) {f : Addr} {fd : FuncData} (F : Fun K "_law_pick" "_law_pick" st__law_pick f fd) : FnG P w K mg base CX0 3 f fd ["sack", "items"] (okFn K s__law_pick) := by
  refine okG_def (k := 2) (N := ["sack", "items"]) (g := b__law_pick) F sc__law_pick rfl fun cdv A outer s H E hgd hr => ?_
  have hu := hr.units
  have hu5 := units65 hr
  have hu1 := units1 hr
  exact (ess_one (es_ret (ee_ixN (pv 1) (ee_callH T.d__law_draw hgd hr (by decide) (by rfl) (ea_lend (pv 0) (ea_cons (ee_callBN c_len (by rfl) T.z_len (by decide +kernel) (pv 1)) ea_nil))) (fun _ _ => rfl))))
theorem bd__law_pick : ∀ (kV doc pm : Value) (an : Option Addr) (cdv ct : Value) (us : List Value), us.length = (["sack", "items"] : List Str).length → bindArgs (PySem.W.fnOf "_law_pick" "_law_pick" (defArgs st__law_pick) (defBody st__law_pick) (defScope st__law_pick) .none kV doc pm an cdv ct) ⟨us, []⟩ = pure ((["sack", "items"] : List Str).zip us) := fun _ _ _ _ _ _ us hl => match us, hl with | [_, _], _ => rfl
theorem sc__law_gcd : FnScope ["a", "b", "one", "other"] ["a", "b"] (defScope st__law_gcd) := ⟨rfl, rfl, rfl, by decide +kernel, rfl, by decide +kernel, by decide +kernel⟩
structure Tx__law_gcd (P : Program) (w : World) (K : PySem.W.Frag) (mg : Str → Option Value) (base : Heap) : Prop where
  z_abs : mg "abs" = none
  z_int : mg "int" = none
theorem ok__law_gcd {P : Program} {w : World} {K : PySem.W.Frag} {mg : Str → Option Value} {base : Heap} (T : Tx__law_gcd P w K mg base) (hN : base.NoDigits) {f : Addr} {fd : FuncData} (F : Fun K "_law_gcd" "_law_gcd" st__law_gcd f fd) : FnG P w K mg base CX0 2 f fd ["a", "b"] (okFn K s__law_gcd) := by
  refine okG_def (k := 1) (N := ["a", "b", "one", "other"]) (g := b__law_gcd) F sc__law_gcd rfl fun cdv A outer s H E hgd hr => ?_
  have hu := hr.units
  have hu5 := units65 hr
  have hu1 := units1 hr
  exact (ess_cons (es_par (ps_par (i := 2) (j := 3) rfl sc__law_gcd.nd rfl rfl (by decide) rfl rfl (ea_cons (ee_callBN c_abs (by rfl) T.z_abs (by decide +kernel) (pv 0)) (ea_cons (ee_callBN c_abs (by rfl) T.z_abs (by decide +kernel) (pv 1)) ea_nil)) (by rfl)) (by decide) (by decide))
    (ess_cons (es_while PassesOwn.never (et_cmpN (r_ne hu) (pv 3) ee_int (nomark _)) (ess_one (es_par (ps_par (i := 2) (j := 3) rfl sc__law_gcd.nd rfl rfl (by decide) rfl rfl (ea_cons (ee_rd (pv 3)) (ea_cons (ee_bin o_mod (ee_callTN c_int (by rfl) T.z_int (by decide +kernel) (pv 2)) (ee_rd (pv 3))) ea_nil)) (by rfl)) (by decide) (by decide))))
    (ess_one (es_ret (ee_mv (pv 2))))))
theorem bd__law_gcd : ∀ (kV doc pm : Value) (an : Option Addr) (cdv ct : Value) (us : List Value), us.length = (["a", "b"] : List Str).length → bindArgs (PySem.W.fnOf "_law_gcd" "_law_gcd" (defArgs st__law_gcd) (defBody st__law_gcd) (defScope st__law_gcd) .none kV doc pm an cdv ct) ⟨us, []⟩ = pure ((["a", "b"] : List Str).zip us) := fun _ _ _ _ _ _ us hl => match us, hl with | [_, _], _ => rfl
theorem sc__law_ratio : FnScope ["a", "b", "shared"] ["a", "b"] (defScope st__law_ratio) := ⟨rfl, rfl, rfl, by decide +kernel, rfl, by decide +kernel, by decide +kernel⟩
structure Tx__law_ratio (P : Program) (w : World) (K : PySem.W.Frag) (mg : Str → Option Value) (base : Heap) : Prop where
  d__law_gcd : Has P w K mg base 2 "_law_gcd" st__law_gcd ["a", "b"] s__law_gcd
theorem ok__law_ratio {P : Program} {w : World} {K : PySem.W.Frag} {mg : Str → Option Value} {base : Heap} (T : Tx__law_ratio P w K mg base) (hN : base.NoDigits) {f : Addr} {fd : FuncData} (F : Fun K "_law_ratio" "_law_ratio" st__law_ratio f fd) : FnG P w K mg base CX0 3 f fd ["a", "b"] (okFn K s__law_ratio) := by
  refine okG_def (k := 2) (N := ["a", "b", "shared"]) (g := b__law_ratio) F sc__law_ratio rfl fun cdv A outer s H E hgd hr => ?_
  have hu := hr.units
  have hu5 := units65 hr
  have hu1 := units1 hr
  exact (ess_cons (es_set (ps_set (i := 2) sc__law_ratio.nd rfl (Or.inl rfl) (ee_if (et_cmp o_gt (ee_rd (pv 1)) ee_int (nomark _)) (ee_callH T.d__law_gcd hgd hr (by decide) (by rfl) (ea_lend (pv 0) (ea_lend (pv 1) ea_nil))) (ee_una u_neg (ee_callH T.d__law_gcd hgd hr (by decide) (by rfl) (ea_lend (pv 0) (ea_lend (pv 1) ea_nil)))))) (by decide))
    (ess_one (es_ret (ee_tup (ea_cons (ee_bin o_fdiv (ee_rd (pv 0)) (ee_rd (pv 2))) (ea_cons (ee_bin o_fdiv (ee_rd (pv 1)) (ee_rd (pv 2))) ea_nil))))))
theorem bd__law_ratio : ∀ (kV doc pm : Value) (an : Option Addr) (cdv ct : Value) (us : List Value), us.length = (["a", "b"] : List Str).length → bindArgs (PySem.W.fnOf "_law_ratio" "_law_ratio" (defArgs st__law_ratio) (defBody st__law_ratio) (defScope st__law_ratio) .none kV doc pm an cdv ct) ⟨us, []⟩ = pure ((["a", "b"] : List Str).zip us) := fun _ _ _ _ _ _ us hl => match us, hl with | [_, _], _ => rfl
theorem sc__law_fraction : FnScope ["sack", "is_any", "top"] ["sack", "is_any"] (defScope st__law_fraction) := ⟨rfl, rfl, rfl, by decide +kernel, rfl, by decide +kernel, by decide +kernel⟩
structure Tx__law_fraction (P : Program) (w : World) (K : PySem.W.Frag) (mg : Str → Option Value) (base : Heap) : Prop where
  d__law_draw : Has P w K mg base 2 "_law_draw" st__law_draw ["sack", "many"] s__law_draw
  d__law_pick : Has P w K mg base 3 "_law_pick" st__law_pick ["sack", "items"] s__law_pick
  d__law_ratio : Has P w K mg base 3 "_law_ratio" st__law_ratio ["a", "b"] s__law_ratio
  z_int : mg "int" = none
theorem ok__law_fraction {P : Program} {w : World} {K : PySem.W.Frag} {mg : Str → Option Value} {base : Heap} (T : Tx__law_fraction P w K mg base) (hN : base.NoDigits) {f : Addr} {fd : FuncData} (F : Fun K "_law_fraction" "_law_fraction" st__law_fraction f fd) : FnG P w K mg base CX0 4 f fd ["sack", "is_any"] (okFn K s__law_fraction) := by
  refine okG_def (k := 3) (N := ["sack", "is_any", "top"]) (g := b__law_fraction) F sc__law_fraction rfl fun cdv A outer s H E hgd hr => ?_
  have hu := hr.units
  have hu5 := units65 hr
  have hu1 := units1 hr
  exact (ess_cons (es_set (ps_set (i := 2) sc__law_fraction.nd rfl (Or.inl rfl) (ee_callH T.d__law_pick hgd hr (by decide) (by rfl) (ea_lend (pv 0) (ea_cons (ee_bin o_add (ee_lst (ea_cons ee_int (ea_cons ee_int (ea_cons (ee_una u_neg ee_int) (ea_cons ee_int (ea_cons (ee_una u_neg ee_int) (ea_cons ee_int (ea_cons (ee_una u_neg ee_int) (ea_cons ee_int ea_nil))))))))) (ee_bin o_smul (ee_lst (ea_cons ee_int (ea_cons ee_int ea_nil))) (ee_callTN c_int (by rfl) T.z_int (by decide +kernel) (pv 1)))) ea_nil)))) (by decide))
    (ess_cons (es_if (et_cmp (r_eq hu).used (ee_callH T.d__law_draw hgd hr (by decide) (by rfl) (ea_lend (pv 0) (ea_cons ee_int ea_nil))) ee_int (nomark _)) (ess_one (es_set (ps_set (i := 2) sc__law_fraction.nd rfl (Or.inl rfl) (ee_bin o_add (ee_bin o_smul (ee_rd (pv 2)) (ee_bin o_pow ee_int ee_int)) (ee_callH T.d__law_pick hgd hr (by decide) (by rfl) (ea_lend (pv 0) (ea_cons (ee_lst (ea_cons ee_int (ea_cons (ee_una u_neg ee_int) ea_nil))) ea_nil))))) (by decide))) ess_nil)
    (ess_one (es_ret (ee_callH T.d__law_ratio hgd hr (by decide) (by rfl) (ea_lend (pv 2) (ea_cons (ee_callH T.d__law_pick hgd hr (by decide) (by rfl) (ea_lend (pv 0) (ea_cons (ee_lst (ea_cons ee_int (ea_cons ee_int (ea_cons ee_int (ea_cons ee_int (ea_cons ee_int (ea_cons ee_int ea_nil))))))) ea_nil))) ea_nil)))))))
theorem bd__law_fraction : ∀ (kV doc pm : Value) (an : Option Addr) (cdv ct : Value) (us : List Value), us.length = (["sack", "is_any"] : List Str).length → bindArgs (PySem.W.fnOf "_law_fraction" "_law_fraction" (defArgs st__law_fraction) (defBody st__law_fraction) (defScope st__law_fraction) .none kV doc pm an cdv ct) ⟨us, []⟩ = pure ((["sack", "is_any"] : List Str).zip us) := fun _ _ _ _ _ _ us hl => match us, hl with | [_, _], _ => rfl
theorem sc__law_sum : FnScope ["sack", "names", "parts", "name"] ["sack", "names"] (defScope st__law_sum) := ⟨rfl, rfl, rfl, by decide +kernel, rfl, by decide +kernel, by decide +kernel⟩
structure Tx__law_sum (P : Program) (w : World) (K : PySem.W.Frag) (mg : Str → Option Value) (base : Heap) : Prop where
  d__law_draw : Has P w K mg base 2 "_law_draw" st__law_draw ["sack", "many"] s__law_draw
  d__law_fraction : Has P w K mg base 4 "_law_fraction" st__law_fraction ["sack", "is_any"] s__law_fraction
  z_sorted : mg "sorted" = none
  z_tuple : mg "tuple" = none
theorem ok__law_sum {P : Program} {w : World} {K : PySem.W.Frag} {mg : Str → Option Value} {base : Heap} (T : Tx__law_sum P w K mg base) (hN : base.NoDigits) {f : Addr} {fd : FuncData} (F : Fun K "_law_sum" "_law_sum" st__law_sum f fd) : FnG P w K mg base CX0 5 f fd ["sack", "names"] (okFn K s__law_sum) := by
  refine okG_def (k := 4) (N := ["sack", "names", "parts", "name"]) (g := b__law_sum) F sc__law_sum rfl fun cdv A outer s H E hgd hr => ?_
  have hu := hr.units
  have hu5 := units65 hr
  have hu1 := units1 hr
  exact (ess_cons (es_setLc (own := [("name", 3)]) (ps_setLc (i := 2) (own := [("name", 3)]) rfl sc__law_sum.nd rfl rfl (sw_true rfl rfl rfl (by decide +kernel)) (ei_any (ee_callB (c_sorted (Nat.lt_of_le_of_lt (Nat.add_le_add_left (show 60 ≤ 65 by decide) _) hu5)) (by rfl) T.z_sorted (by decide +kernel) (ea_cons (ee_rd (pv 1)) ea_nil))) (blkOk_by (N := ["sack", "names", "parts", "name"]) (sc := defScope st__law_sum) (by decide +kernel)) (fun _ _ _ _ _ => (eg_name (pg_name (i := 3) sc__law_sum.nd rfl (Or.inl rfl)) (by decide))) (fun _ _ _ _ _ => (ets_one (et_cmp o_lt (ee_callH T.d__law_draw hgd hr (by decide) (by rfl) (ea_lend (pv 0) (ea_cons ee_int ea_nil))) ee_int (nomark _)))) (fun _ _ _ _ _ => (ee_tup (ea_cons (ee_rd (pv 3)) (ea_cons (ee_callH T.d__law_fraction hgd hr (by decide) (by rfl) (ea_lend (pv 0) (ea_cons ee_bool ea_nil))) ea_nil))))) (by decide))
    (ess_one (es_ret (ee_tup (ea_cons (ee_callTy c_tuple (by rfl) T.z_tuple (by decide +kernel) (ea_cons (ee_rd (pv 2)) ea_nil)) (ea_cons (ee_callH T.d__law_fraction hgd hr (by decide) (by rfl) (ea_lend (pv 0) (ea_cons ee_bool ea_nil))) ea_nil))))))
theorem bd__law_sum : ∀ (kV doc pm : Value) (an : Option Addr) (cdv ct : Value) (us : List Value), us.length = (["sack", "names"] : List Str).length → bindArgs (PySem.W.fnOf "_law_sum" "_law_sum" (defArgs st__law_sum) (defBody st__law_sum) (defScope st__law_sum) .none kV doc pm an cdv ct) ⟨us, []⟩ = pure ((["sack", "names"] : List Str).zip us) := fun _ _ _ _ _ _ us hl => match us, hl with | [_, _], _ => rfl
theorem sc__law_tree : FnScope ["sack", "names", "deep", "way", "many", "turn"] ["sack", "names", "deep"] (defScope st__law_tree) := ⟨rfl, rfl, rfl, by decide +kernel, rfl, by decide +kernel, by decide +kernel⟩
structure Tx__law_tree (dd : Nat) (P : Program) (w : World) (K : PySem.W.Frag) (mg : Str → Option Value) (base : Heap) : Prop where
  d__law_draw : Has P w K mg base 2 "_law_draw" st__law_draw ["sack", "many"] s__law_draw
  d__law_pick : Has P w K mg base 3 "_law_pick" st__law_pick ["sack", "items"] s__law_pick
  d__law_sum : Has P w K mg base 5 "_law_sum" st__law_sum ["sack", "names"] s__law_sum
  d__law_tree : Has P w K mg base (6 + dd) "_law_tree" st__law_tree ["sack", "names", "deep"] (sr__law_tree dd)
  z_range : mg "range" = none
  z_tuple : mg "tuple" = none
theorem ok__law_tree {P : Program} {w : World} {K : PySem.W.Frag} {mg : Str → Option Value} {base : Heap} (dd : Nat) (T : Tx__law_tree dd P w K mg base) (hN : base.NoDigits) {f : Addr} {fd : FuncData} (F : Fun K "_law_tree" "_law_tree" st__law_tree f fd) : FnG P w K mg base CX0 (6 + dd + 1) f fd ["sack", "names", "deep"] (okFn K (sr__law_tree (dd + 1))) := by
  refine okG_def (k := 6 + dd) (N := ["sack", "names", "deep", "way", "many", "turn"]) (g := b__law_tree (sr__law_tree dd)) F sc__law_tree rfl fun cdv A outer s H E hgd hr => ?_
  have hu := hr.units
  have hu5 := units65 hr
  have hu1 := units1 hr
  exact (ess_cons (es_set (ps_set (i := 3) sc__law_tree.nd rfl (Or.inl rfl) (ee_if (et_cmp o_gt (ee_rd (pv 2)) ee_int (nomark _)) (ee_callH T.d__law_draw hgd hr (by omega) (by rfl) (ea_lend (pv 0) (ea_cons ee_int ea_nil))) (ee_callH T.d__law_draw hgd hr (by omega) (by rfl) (ea_lend (pv 0) (ea_cons ee_int ea_nil))))) (by decide))
    (ess_cons (es_if (et_cmp o_lt (ee_rd (pv 3)) ee_int (nomark _)) (ess_one (es_ret (ee_tup (ea_cons (ee_callH T.d__law_pick hgd hr (by omega) (by rfl) (ea_lend (pv 0) (ea_cons (ee_lst (ea_cons ee_str (ea_cons ee_str (ea_cons ee_str ea_nil)))) ea_nil))) (ea_cons (ee_callH T.d__law_sum hgd hr (by omega) (by rfl) (ea_lend (pv 0) (ea_lend (pv 1) ea_nil))) ea_nil))))) ess_nil)
    (ess_cons (es_if (et_cmpN (r_eq hu) (pv 3) ee_int (nomark _)) (ess_one (es_ret (ee_tup (ea_cons (ee_callH T.d__law_pick hgd hr (by omega) (by rfl) (ea_lend (pv 0) (ea_cons (ee_lst (ea_cons ee_str (ea_cons ee_str ea_nil))) ea_nil))) (ea_cons (ee_tup ea_nil) ea_nil))))) ess_nil)
    (ess_cons (es_if (et_cmp o_lt (ee_rd (pv 3)) ee_int (nomark _)) (ess_one (es_ret (ee_tup (ea_cons ee_str (ea_cons (ee_callH T.d__law_tree hgd hr (by omega) (by rfl) (ea_lend (pv 0) (ea_lend (pv 1) (ea_cons (ee_bin o_sub (ee_rd (pv 2)) ee_int) ea_nil)))) ea_nil))))) ess_nil)
    (ess_cons (es_if (et_cmp o_lt (ee_rd (pv 3)) ee_int (nomark _)) (ess_cons (es_set (ps_set (i := 4) sc__law_tree.nd rfl (Or.inl rfl) (ee_callH T.d__law_pick hgd hr (by omega) (by rfl) (ea_lend (pv 0) (ea_cons (ee_lst (ea_cons ee_int (ea_cons ee_int (ea_cons ee_int (ea_cons ee_int ea_nil))))) ea_nil)))) (by decide))
    (ess_one (es_ret (ee_tup (ea_cons (ee_callH T.d__law_pick hgd hr (by omega) (by rfl) (ea_lend (pv 0) (ea_cons (ee_lst (ea_cons ee_str (ea_cons ee_str ea_nil))) ea_nil))) (ea_cons (ee_callTy c_tuple (by rfl) T.z_tuple (by decide +kernel) (ea_cons (ee_lc (own := [("turn", 5)]) rfl sc__law_tree.nd (ei_rng1 (by rfl) T.z_range (ea_cons (ee_rd (pv 4)) ea_nil)) (blkOk_by (N := ["sack", "names", "deep", "way", "many", "turn"]) (sc := defScope st__law_tree) (by decide +kernel)) (fun _ _ _ _ _ => (eg_name (pg_name (i := 5) sc__law_tree.nd rfl (Or.inl rfl)) (by decide))) (fun _ _ _ _ _ => ets_nil) (fun _ _ _ _ _ => (ee_callH T.d__law_tree hgd hr (by omega) (by rfl) (ea_lend (pv 0) (ea_lend (pv 1) (ea_cons (ee_bin o_sub (ee_rd (pv 2)) ee_int) ea_nil)))))) ea_nil)) ea_nil)))))) ess_nil)
    (ess_one (es_ret (ee_tup (ea_cons (ee_callH T.d__law_pick hgd hr (by omega) (by rfl) (ea_lend (pv 0) (ea_cons (ee_lst (ea_cons ee_str (ea_cons ee_str ea_nil))) ea_nil))) (ea_cons (ee_callH T.d__law_pick hgd hr (by omega) (by rfl) (ea_lend (pv 0) (ea_lend (pv 1) ea_nil))) (ea_cons (ee_callH T.d__law_tree hgd hr (by omega) (by rfl) (ea_lend (pv 0) (ea_lend (pv 1) (ea_cons (ee_bin o_sub (ee_rd (pv 2)) ee_int) ea_nil)))) ea_nil)))))))))))
theorem bd__law_tree : ∀ (kV doc pm : Value) (an : Option Addr) (cdv ct : Value) (us : List Value), us.length = (["sack", "names", "deep"] : List Str).length → bindArgs (PySem.W.fnOf "_law_tree" "_law_tree" (defArgs st__law_tree) (defBody st__law_tree) (defScope st__law_tree) .none kV doc pm an cdv ct) ⟨us, []⟩ = pure ((["sack", "names", "deep"] : List Str).zip us) := fun _ _ _ _ _ _ us hl => match us, hl with | [_, _, _], _ => rfl
theorem sc__law_nodes : FnScope ["formula", "own"] ["formula"] (defScope st__law_nodes) := ⟨rfl, rfl, rfl, by decide +kernel, rfl, by decide +kernel, by decide +kernel⟩
structure Tx__law_nodes (dd : Nat) (P : Program) (w : World) (K : PySem.W.Frag) (mg : Str → Option Value) (base : Heap) : Prop where
  d__law_nodes : Has P w K mg base (2 + dd) "_law_nodes" st__law_nodes ["formula"] (sr__law_nodes dd)
  z_sum : mg "sum" = none
theorem ok__law_nodes {P : Program} {w : World} {K : PySem.W.Frag} {mg : Str → Option Value} {base : Heap} (dd : Nat) (T : Tx__law_nodes dd P w K mg base) (hN : base.NoDigits) {f : Addr} {fd : FuncData} (F : Fun K "_law_nodes" "_law_nodes" st__law_nodes f fd) : FnG P w K mg base CX0 (2 + dd + 1) f fd ["formula"] (okFn K (sr__law_nodes (dd + 1))) := by
  refine okG_def (k := 2 + dd) (N := ["formula", "own"]) (g := b__law_nodes (sr__law_nodes dd)) F sc__law_nodes rfl fun cdv A outer s H E hgd hr => ?_
  have hu := hr.units
  have hu5 := units65 hr
  have hu1 := units1 hr
  exact (ess_cons (es_if (et_cmp (o_in hu5) (ee_ixN (pv 0) ee_int (fun _ _ => rfl)) (ee_tup (ea_cons ee_str (ea_cons ee_str (ea_cons ee_str ea_nil)))) (by rfl)) (ess_one (es_ret ee_int)) ess_nil)
    (ess_one (es_ret (ee_bin o_add ee_int (ee_callB (c_sum rfl).used (by rfl) T.z_sum (by decide +kernel) (ea_cons (ee_lc (own := [("own", 1)]) rfl sc__law_nodes.nd (ei_any (ee_if (et_cmp (o_notin hu5) (ee_ixN (pv 0) ee_int (fun _ _ => rfl)) (ee_tup (ea_cons ee_str (ea_cons ee_str ea_nil))) (by rfl)) (ee_lst (ea_cons (ee_ixN (pv 0) (ee_una u_neg ee_int) (fun _ _ => rfl)) ea_nil)) (ee_ixN (pv 0) ee_int (fun _ _ => rfl)))) (blkOk_by (N := ["formula", "own"]) (sc := defScope st__law_nodes) (by decide +kernel)) (fun _ _ _ _ _ => (eg_name (pg_name (i := 1) sc__law_nodes.nd rfl (Or.inl rfl)) (by decide))) (fun _ _ _ _ _ => ets_nil) (fun _ _ _ _ _ => (ee_callH T.d__law_nodes hgd hr (by omega) (by rfl) (ea_lend (pv 1) ea_nil)))) ea_nil))))))
theorem bd__law_nodes : ∀ (kV doc pm : Value) (an : Option Addr) (cdv ct : Value) (us : List Value), us.length = (["formula"] : List Str).length → bindArgs (PySem.W.fnOf "_law_nodes" "_law_nodes" (defArgs st__law_nodes) (defBody st__law_nodes) (defScope st__law_nodes) .none kV doc pm an cdv ct) ⟨us, []⟩ = pure ((["formula"] : List Str).zip us) := fun _ _ _ _ _ _ us hl => match us, hl with | [_], _ => rfl
theorem sc__law_formula : FnScope ["sack", "names", "deep", "found"] ["sack", "names", "deep"] (defScope st__law_formula) := ⟨rfl, rfl, rfl, by decide +kernel, rfl, by decide +kernel, by decide +kernel⟩
structure Tx__law_formula (P : Program) (w : World) (K : PySem.W.Frag) (mg : Str → Option Value) (base : Heap) : Prop where
  d__law_tree : Has P w K mg base 16 "_law_tree" st__law_tree ["sack", "names", "deep"] s__law_tree
  d__law_nodes : Has P w K mg base 14 "_law_nodes" st__law_nodes ["formula"] s__law_nodes
theorem ok__law_formula {P : Program} {w : World} {K : PySem.W.Frag} {mg : Str → Option Value} {base : Heap} (T : Tx__law_formula P w K mg base) (hN : base.NoDigits) {f : Addr} {fd : FuncData} (F : Fun K "_law_formula" "_law_formula" st__law_formula f fd) : FnG P w K mg base CX0 17 f fd ["sack", "names", "deep"] (okFn K s__law_formula) := by
  refine okG_def (k := 16) (N := ["sack", "names", "deep", "found"]) (g := b__law_formula) F sc__law_formula rfl fun cdv A outer s H E hgd hr => ?_
  have hu := hr.units
  have hu5 := units65 hr
  have hu1 := units1 hr
  exact (ess_cons (es_set (ps_set (i := 3) sc__law_formula.nd rfl (Or.inl rfl) (ee_callH T.d__law_tree hgd hr (by decide) (by rfl) (ea_lend (pv 0) (ea_lend (pv 1) (ea_lend (pv 2) ea_nil))))) (by decide))
    (ess_one (es_ret (ee_if (et_cmp o_le (ee_callH T.d__law_nodes hgd hr (by decide) (by rfl) (ea_lend (pv 3) ea_nil)) ee_int (nomark _)) (ee_rd (pv 3)) (ee_tup (ea_cons ee_str (ea_cons (ee_callH T.d__law_tree hgd hr (by decide) (by rfl) (ea_lend (pv 0) (ea_lend (pv 1) (ea_cons ee_int ea_nil)))) ea_nil)))))))
theorem bd__law_formula : ∀ (kV doc pm : Value) (an : Option Addr) (cdv ct : Value) (us : List Value), us.length = (["sack", "names", "deep"] : List Str).length → bindArgs (PySem.W.fnOf "_law_formula" "_law_formula" (defArgs st__law_formula) (defBody st__law_formula) (defScope st__law_formula) .none kV doc pm an cdv ct) ⟨us, []⟩ = pure ((["sack", "names", "deep"] : List Str).zip us) := fun _ _ _ _ _ _ us hl => match us, hl with | [_, _, _], _ => rfl
theorem sc__law_mixed : FnScope ["sack", "items", "left", "found"] ["sack", "items"] (defScope st__law_mixed) := ⟨rfl, rfl, rfl, by decide +kernel, rfl, by decide +kernel, by decide +kernel⟩
structure Tx__law_mixed (P : Program) (w : World) (K : PySem.W.Frag) (mg : Str → Option Value) (base : Heap) : Prop where
  d__law_draw : Has P w K mg base 2 "_law_draw" st__law_draw ["sack", "many"] s__law_draw
  z_len : mg "len" = none
  z_list : mg "list" = none
theorem ok__law_mixed {P : Program} {w : World} {K : PySem.W.Frag} {mg : Str → Option Value} {base : Heap} (T : Tx__law_mixed P w K mg base) (hN : base.NoDigits) {f : Addr} {fd : FuncData} (F : Fun K "_law_mixed" "_law_mixed" st__law_mixed f fd) : FnG P w K mg base CX0 3 f fd ["sack", "items"] (okFn K s__law_mixed) := by
  refine okG_def (k := 2) (N := ["sack", "items", "left", "found"]) (g := b__law_mixed) F sc__law_mixed rfl fun cdv A outer s H E hgd hr => ?_
  have hu := hr.units
  have hu5 := units65 hr
  have hu1 := units1 hr
  exact (ess_cons (es_par (ps_par (i := 2) (j := 3) rfl sc__law_mixed.nd rfl rfl (by decide) rfl rfl (ea_cons (ee_callTy (c_list rfl) (by rfl) T.z_list (by decide +kernel) (ea_cons (ee_rd (pv 1)) ea_nil)) (ea_cons (ee_lst ea_nil) ea_nil)) (by rfl)) (by decide) (by decide))
    (ess_cons (es_while PassesOwn.never (et_cmpN (r_ne hu) (pv 2) (ee_lst ea_nil) (nomark _)) (ess_one (es_expr (ee_mutN PySem.F.plainAttrs_list PySem.F.slot_list_append PySem.F.type_list_append mt_append m_append (pv 3) (ea_cons (ee_mutN PySem.F.plainAttrs_list PySem.F.slot_list_pop PySem.F.type_list_pop mt_popAt m_popAt (pv 2) (ea_cons (ee_callH T.d__law_draw hgd hr (by decide) (by rfl) (ea_lend (pv 0) (ea_cons (ee_callBN c_len (by rfl) T.z_len (by decide +kernel) (pv 2)) ea_nil))) ea_nil)) ea_nil)))))
    (ess_one (es_ret (ee_mv (pv 3))))))
theorem bd__law_mixed : ∀ (kV doc pm : Value) (an : Option Addr) (cdv ct : Value) (us : List Value), us.length = (["sack", "items"] : List Str).length → bindArgs (PySem.W.fnOf "_law_mixed" "_law_mixed" (defArgs st__law_mixed) (defBody st__law_mixed) (defScope st__law_mixed) .none kV doc pm an cdv ct) ⟨us, []⟩ = pure ((["sack", "items"] : List Str).zip us) := fun _ _ _ _ _ _ us hl => match us, hl with | [_, _], _ => rfl
theorem sc__law_names : FnScope ["sack"] ["sack"] (defScope st__law_names) := ⟨rfl, rfl, rfl, by decide +kernel, rfl, by decide +kernel, by decide +kernel⟩
structure Tx__law_names (P : Program) (w : World) (K : PySem.W.Frag) (mg : Str → Option Value) (base : Heap) : Prop where
  d__law_mixed : Has P w K mg base 3 "_law_mixed" st__law_mixed ["sack", "items"] s__law_mixed
theorem ok__law_names {P : Program} {w : World} {K : PySem.W.Frag} {mg : Str → Option Value} {base : Heap} (T : Tx__law_names P w K mg base) (hN : base.NoDigits) {f : Addr} {fd : FuncData} (F : Fun K "_law_names" "_law_names" st__law_names f fd) : FnG P w K mg base CX0 4 f fd ["sack"] (okFn K s__law_names) := by
  refine okG_def (k := 3) (N := ["sack"]) (g := b__law_names) F sc__law_names rfl fun cdv A outer s H E hgd hr => ?_
  have hu := hr.units
  have hu5 := units65 hr
  have hu1 := units1 hr
  exact (ess_one (es_ret (ee_slice (ee_callH T.d__law_mixed hgd hr (by decide) (by rfl) (ea_lend (pv 0) (ea_cons (ee_lst (ea_cons ee_str (ea_cons ee_str (ea_cons ee_str (ea_cons ee_str (ea_cons ee_str (ea_cons ee_str (ea_cons ee_str (ea_cons ee_str (ea_cons ee_str (ea_cons ee_str (ea_cons ee_str (ea_cons ee_str ea_nil))))))))))))) ea_nil))) eo_none (eo_some ee_int))))
theorem bd__law_names : ∀ (kV doc pm : Value) (an : Option Addr) (cdv ct : Value) (us : List Value), us.length = (["sack"] : List Str).length → bindArgs (PySem.W.fnOf "_law_names" "_law_names" (defArgs st__law_names) (defBody st__law_names) (defScope st__law_names) .none kV doc pm an cdv ct) ⟨us, []⟩ = pure ((["sack"] : List Str).zip us) := fun _ _ _ _ _ _ us hl => match us, hl with | [_], _ => rfl
theorem sc__law_free : FnScope ["formula", "bound", "word", "found", "own", "name", "number"] ["formula", "bound"] (defScope st__law_free) := ⟨rfl, rfl, rfl, by decide +kernel, rfl, by decide +kernel, by decide +kernel⟩
structure Tx__law_free (dd : Nat) (P : Program) (w : World) (K : PySem.W.Frag) (mg : Str → Option Value) (base : Heap) : Prop where
  d__law_free : Has P w K mg base (2 + dd) "_law_free" st__law_free ["formula", "bound"] (sr__law_free dd)
theorem ok__law_free {P : Program} {w : World} {K : PySem.W.Frag} {mg : Str → Option Value} {base : Heap} (dd : Nat) (T : Tx__law_free dd P w K mg base) (hN : base.NoDigits) {f : Addr} {fd : FuncData} (F : Fun K "_law_free" "_law_free" st__law_free f fd) : FnG P w K mg base CX0 (2 + dd + 1) f fd ["formula", "bound"] (okFn K (sr__law_free (dd + 1))) := by
  refine okG_def (k := 2 + dd) (N := ["formula", "bound", "word", "found", "own", "name", "number"]) (g := b__law_free (sr__law_free dd)) F sc__law_free rfl fun cdv A outer s H E hgd hr => ?_
  have hu := hr.units
  have hu5 := units65 hr
  have hu1 := units1 hr
  exact (ess_cons (es_set (ps_set (i := 2) sc__law_free.nd rfl (Or.inl rfl) (ee_ixN (pv 0) ee_int (fun _ _ => rfl))) (by decide))
    (ess_cons (es_if (et_cmp (o_in hu5) (ee_rd (pv 2)) (ee_tup (ea_cons ee_str (ea_cons ee_str (ea_cons ee_str ea_nil)))) (by rfl)) (ess_one (es_ret (ee_lc (own := [("name", 5), ("number", 6)]) rfl sc__law_free.nd (ei_any (ee_ix (ee_ixN (pv 0) ee_int (fun _ _ => rfl)) ee_int (fun _ _ => rfl))) (blkOk_by (N := ["formula", "bound", "word", "found", "own", "name", "number"]) (sc := defScope st__law_free) (by decide +kernel)) (fun _ _ _ _ _ => (eg_tup rfl (egs_cons (eg_name (pg_name (i := 5) sc__law_free.nd rfl (Or.inl rfl)) (by decide)) (egs_cons (eg_name (pg_name (i := 6) sc__law_free.nd rfl (Or.inl rfl)) (by decide)) egs_nil)))) (fun _ _ _ _ _ => (ets_one (et_cmp (o_notin hu5) (ee_rd (pv 5)) (ee_rd (pv 1)) (by rfl)))) (fun _ _ _ _ _ => (ee_rd (pv 5)))))) ess_nil)
    (ess_cons (es_if (et_cmpN (r_eq hu) (pv 2) ee_str (nomark _)) (ess_one (es_ret (ee_callH T.d__law_free hgd hr (by omega) (by rfl) (ea_cons (ee_ixN (pv 0) ee_int (fun _ _ => rfl)) (ea_lend (pv 1) ea_nil))))) ess_nil)
    (ess_cons (es_if (et_cmp (o_in hu5) (ee_rd (pv 2)) (ee_tup (ea_cons ee_str (ea_cons ee_str ea_nil))) (by rfl)) (ess_one (es_ret (ee_callH T.d__law_free hgd hr (by omega) (by rfl) (ea_cons (ee_ixN (pv 0) ee_int (fun _ _ => rfl)) (ea_cons (ee_bin o_add (ee_rd (pv 1)) (ee_lst (ea_cons (ee_ixN (pv 0) ee_int (fun _ _ => rfl)) ea_nil))) ea_nil))))) ess_nil)
    (ess_cons (es_set (ps_set (i := 3) sc__law_free.nd rfl (Or.inl rfl) (ee_lst ea_nil)) (by decide))
    (ess_cons (es_for PassesOwn.never rfl (ei_any (ee_ixN (pv 0) ee_int (fun _ _ => rfl))) (eg_name (pg_name (i := 4) sc__law_free.nd rfl (Or.inl rfl)) (by decide)) (ess_one (es_set (ps_set (i := 3) sc__law_free.nd rfl (Or.inl rfl) (ee_bin o_add (ee_rd (pv 3)) (ee_callH T.d__law_free hgd hr (by omega) (by rfl) (ea_lend (pv 4) (ea_lend (pv 1) ea_nil))))) (by decide))))
    (ess_one (es_ret (ee_mv (pv 3))))))))))
theorem bd__law_free : ∀ (kV doc pm : Value) (an : Option Addr) (cdv ct : Value) (us : List Value), us.length = (["formula", "bound"] : List Str).length → bindArgs (PySem.W.fnOf "_law_free" "_law_free" (defArgs st__law_free) (defBody st__law_free) (defScope st__law_free) .none kV doc pm an cdv ct) ⟨us, []⟩ = pure ((["formula", "bound"] : List Str).zip us) := fun _ _ _ _ _ _ us hl => match us, hl with | [_, _], _ => rfl
theorem sc__law_is_right : FnScope ["sack", "formula", "is_named", "due", "before", "told", "name", "bound", "other", "both", "own"] ["sack", "formula", "is_named"] (defScope st__law_is_right) := ⟨rfl, rfl, rfl, by decide +kernel, rfl, by decide +kernel, by decide +kernel⟩
structure Tx__law_is_right (P : Program) (w : World) (K : PySem.W.Frag) (mg : Str → Option Value) (base : Heap) : Prop where
  d_free_names : Has P w K mg base 3 "free_names" st_free_names ["formula"] s_free_names
  d__law_pick : Has P w K mg base 3 "_law_pick" st__law_pick ["sack", "items"] s__law_pick
  d__law_free : Has P w K mg base 14 "_law_free" st__law_free ["formula", "bound"] s__law_free
  z_list : mg "list" = none
  z_repr : mg "repr" = none
  z_set : mg "set" = none
  z_sorted : mg "sorted" = none
  z_tuple : mg "tuple" = none
theorem ok__law_is_right {P : Program} {w : World} {K : PySem.W.Frag} {mg : Str → Option Value} {base : Heap} (T : Tx__law_is_right P w K mg base) (hN : base.NoDigits) {f : Addr} {fd : FuncData} (F : Fun K "_law_is_right" "_law_is_right" st__law_is_right f fd) : FnG P w K mg base CX0 15 f fd ["sack", "formula", "is_named"] (okFn K s__law_is_right) := by
  refine okG_def (k := 14) (N := ["sack", "formula", "is_named", "due", "before", "told", "name", "bound", "other", "both", "own"]) (g := b__law_is_right) F sc__law_is_right rfl fun cdv A outer s H E hgd hr => ?_
  have hu := hr.units
  have hu5 := units65 hr
  have hu1 := units1 hr
  exact (ess_cons (es_par (ps_par (i := 3) (j := 4) rfl sc__law_is_right.nd rfl rfl (by decide) rfl rfl (ea_cons (ee_callTy c_tuple (by rfl) T.z_tuple (by decide +kernel) (ea_cons (ee_sortsetS rfl (Nat.lt_of_succ_lt hu5) (by rfl) T.z_sorted (by decide +kernel) (by rfl) T.z_set (by decide +kernel) (ea_cons (ee_callH T.d__law_free hgd hr (by decide) (by rfl) (ea_lend (pv 1) (ea_cons (ee_lst ea_nil) ea_nil))) ea_nil)) ea_nil)) (ea_cons (ee_callBN (c_repr hgd hu hN) (by rfl) T.z_repr (by decide +kernel) (pv 1)) ea_nil)) (by rfl)) (by decide) (by decide))
    (ess_cons (es_set (ps_set (i := 5) sc__law_is_right.nd rfl (Or.inl rfl) (ee_if (et_val (ee_rd (pv 2))) (ee_callHK0 T.d_free_names hgd hr (by decide) (by rfl) kw_free_names_0_formula (by decide) (ek_cons (ee_rd (pv 1)) ek_nil)) (ee_callH T.d_free_names hgd hr (by decide) (by rfl) (ea_lend (pv 1) ea_nil)))) (by decide))
    (ess_cons (es_if (et_cmp (r_ne hu).used (ee_callB (c_repr hgd hu hN).used (by rfl) T.z_repr (by decide +kernel) (ea_cons (ee_lst (ea_cons (ee_rd (pv 5)) (ea_cons (ee_callH T.d_free_names hgd hr (by decide) (by rfl) (ea_lend (pv 1) ea_nil)) ea_nil))) ea_nil)) (ee_callB (c_repr hgd hu hN).used (by rfl) T.z_repr (by decide +kernel) (ea_cons (ee_lst (ea_cons (ee_rd (pv 3)) (ea_cons (ee_rd (pv 3)) ea_nil))) ea_nil)) (nomark _)) (ess_one (es_ret ee_bool)) ess_nil)
    (ess_cons (es_set (ps_set (i := 6) sc__law_is_right.nd rfl (Or.inr rfl) (ee_callH T.d__law_pick hgd hr (by decide) (by rfl) (ea_lend (pv 0) (ea_cons (ee_bin o_add (ee_lst (ea_cons ee_str (ea_cons ee_str (ea_cons ee_str ea_nil)))) (ee_callTy (c_list rfl) (by rfl) T.z_list (by decide +kernel) (ea_cons (ee_rd (pv 3)) ea_nil))) ea_nil)))) (by decide))
    (ess_cons (es_set (ps_set (i := 7) sc__law_is_right.nd rfl (Or.inl rfl) (ee_callH T.d_free_names hgd hr (by decide) (by rfl) (ea_cons (ee_tup (ea_cons (ee_callH T.d__law_pick hgd hr (by decide) (by rfl) (ea_lend (pv 0) (ea_cons (ee_lst (ea_cons ee_str (ea_cons ee_str ea_nil))) ea_nil))) (ea_cons (ee_rd (pv 6)) (ea_cons (ee_rd (pv 1)) ea_nil)))) ea_nil))) (by decide))
    (ess_cons (es_set (ps_set (i := 8) sc__law_is_right.nd rfl (Or.inl rfl) (ee_tup (ea_cons ee_str (ea_cons (ee_tup (ea_cons (ee_tup (ea_cons (ee_tup (ea_cons ee_str (ea_cons (ee_tup (ea_cons ee_int (ea_cons ee_int ea_nil))) ea_nil))) (ea_cons (ee_tup (ea_cons ee_str (ea_cons (ee_tup (ea_cons (ee_una u_neg ee_int) (ea_cons ee_int ea_nil))) ea_nil))) ea_nil))) (ea_cons (ee_tup (ea_cons ee_int (ea_cons ee_int ea_nil))) ea_nil))) ea_nil)))) (by decide))
    (ess_cons (es_set (ps_set (i := 9) sc__law_is_right.nd rfl (Or.inl rfl) (ee_callH T.d_free_names hgd hr (by decide) (by rfl) (ea_cons (ee_tup (ea_cons (ee_callH T.d__law_pick hgd hr (by decide) (by rfl) (ea_lend (pv 0) (ea_cons (ee_lst (ea_cons ee_str (ea_cons ee_str ea_nil))) ea_nil))) (ea_cons (ee_tup (ea_cons (ee_rd (pv 1)) (ea_cons (ee_rd (pv 8)) ea_nil))) ea_nil))) ea_nil))) (by decide))
    (ess_cons (es_if (et_cmp (r_ne hu).used (ee_callBN (c_repr hgd hu hN) (by rfl) T.z_repr (by decide +kernel) (pv 7)) (ee_callB (c_repr hgd hu hN).used (by rfl) T.z_repr (by decide +kernel) (ea_cons (ee_callTy c_tuple (by rfl) T.z_tuple (by decide +kernel) (ea_cons (ee_lc (own := [("own", 10)]) rfl sc__law_is_right.nd (ei_any (ee_rd (pv 3))) (blkOk_by (N := ["sack", "formula", "is_named", "due", "before", "told", "name", "bound", "other", "both", "own"]) (sc := defScope st__law_is_right) (by decide +kernel)) (fun _ _ _ _ _ => (eg_name (pg_name (i := 10) sc__law_is_right.nd rfl (Or.inl rfl)) (by decide))) (fun _ _ _ _ _ => (ets_one (et_cmpN (r_ne hu) (pv 10) (ee_rd (pv 6)) (nomark _)))) (fun _ _ _ _ _ => (ee_rd (pv 10)))) ea_nil)) ea_nil)) (nomark _)) (ess_one (es_ret ee_bool)) ess_nil)
    (ess_cons (es_if (et_cmp (r_ne hu).used (ee_callB (c_repr hgd hu hN).used (by rfl) T.z_repr (by decide +kernel) (ea_cons (ee_callH T.d_free_names hgd hr (by decide) (by rfl) (ea_cons (ee_tup (ea_cons ee_str (ea_cons (ee_rd (pv 1)) ea_nil))) ea_nil)) ea_nil)) (ee_callBN (c_repr hgd hu hN) (by rfl) T.z_repr (by decide +kernel) (pv 3)) (nomark _)) (ess_one (es_ret ee_bool)) ess_nil)
    (ess_one (es_ret (ee_and (ee_cmp (r_eq hu).used (ee_callBN (c_repr hgd hu hN) (by rfl) T.z_repr (by decide +kernel) (pv 9)) (ee_callB (c_repr hgd hu hN).used (by rfl) T.z_repr (by decide +kernel) (ea_cons (ee_callTy c_tuple (by rfl) T.z_tuple (by decide +kernel) (ea_cons (ee_sortsetS rfl (Nat.lt_of_succ_lt hu5) (by rfl) T.z_sorted (by decide +kernel) (by rfl) T.z_set (by decide +kernel) (ea_cons (ee_bin o_add (ee_callTy (c_list rfl) (by rfl) T.z_list (by decide +kernel) (ea_cons (ee_rd (pv 3)) ea_nil)) (ee_lst (ea_cons ee_str (ea_cons ee_str ea_nil)))) ea_nil)) ea_nil)) ea_nil)) (nomark _)) (ee_one (ee_cmp (r_eq hu).used (ee_callBN (c_repr hgd hu hN) (by rfl) T.z_repr (by decide +kernel) (pv 1)) (ee_rd (pv 4)) (nomark _)))))))))))))))
theorem bd__law_is_right : ∀ (kV doc pm : Value) (an : Option Addr) (cdv ct : Value) (us : List Value), us.length = (["sack", "formula", "is_named"] : List Str).length → bindArgs (PySem.W.fnOf "_law_is_right" "_law_is_right" (defArgs st__law_is_right) (defBody st__law_is_right) (defScope st__law_is_right) .none kV doc pm an cdv ct) ⟨us, []⟩ = pure ((["sack", "formula", "is_named"] : List Str).zip us) := fun _ _ _ _ _ _ us hl => match us, hl with | [_, _, _], _ => rfl
theorem sc_law : FnScope ["script", "sack", "turn", "names", "formula"] ["script"] (defScope st_law) := ⟨rfl, rfl, rfl, by decide +kernel, rfl, by decide +kernel, by decide +kernel⟩
structure Tx_law (P : Program) (w : World) (K : PySem.W.Frag) (mg : Str → Option Value) (base : Heap) : Prop where
  d_free_names : Has P w K mg base 3 "free_names" st_free_names ["formula"] s_free_names
  d__law_sack : Has P w K mg base 2 "_law_sack" st__law_sack ["script"] s__law_sack
  d__law_draw : Has P w K mg base 2 "_law_draw" st__law_draw ["sack", "many"] s__law_draw
  d__law_formula : Has P w K mg base 17 "_law_formula" st__law_formula ["sack", "names", "deep"] s__law_formula
  d__law_names : Has P w K mg base 4 "_law_names" st__law_names ["sack"] s__law_names
  d__law_is_right : Has P w K mg base 15 "_law_is_right" st__law_is_right ["sack", "formula", "is_named"] s__law_is_right
  z_range : mg "range" = none
  z_repr : mg "repr" = none
theorem ok_law {P : Program} {w : World} {K : PySem.W.Frag} {mg : Str → Option Value} {base : Heap} (T : Tx_law P w K mg base) (hN : base.NoDigits) {f : Addr} {fd : FuncData} (F : Fun K "law" "law" st_law f fd) : FnG P w K mg base CX0 18 f fd ["script"] (okFn K s_law) := by
  refine okG_def (k := 17) (N := ["script", "sack", "turn", "names", "formula"]) (g := b_law) F sc_law rfl fun cdv A outer s H E hgd hr => ?_
  have hu := hr.units
  have hu5 := units65 hr
  have hu1 := units1 hr
  exact (ess_cons (es_set (ps_set (i := 1) sc_law.nd rfl (Or.inl rfl) (ee_callH T.d__law_sack hgd hr (by decide) (by rfl) (ea_lend (pv 0) ea_nil))) (by decide))
    (ess_cons (es_for PassesOwn.never rfl (ei_rng1 (by rfl) T.z_range (ea_cons ee_int ea_nil)) (eg_name (pg_name (i := 2) sc_law.nd rfl (Or.inl rfl)) (by decide)) (ess_cons (es_set (ps_set (i := 3) sc_law.nd rfl (Or.inl rfl) (ee_callH T.d__law_names hgd hr (by decide) (by rfl) (ea_lend (pv 1) ea_nil))) (by decide))
    (ess_cons (es_set (ps_set (i := 4) sc_law.nd rfl (Or.inl rfl) (ee_callH T.d__law_formula hgd hr (by decide) (by rfl) (ea_late (pv 1) (ea_lend (pv 3) (ea_cons (ee_bin o_add ee_int (ee_callH T.d__law_draw hgd hr (by decide) (by rfl) (ea_lend (pv 1) (ea_cons ee_int ea_nil)))) ea_nil))))) (by decide))
    (ess_cons (es_if (et_cmp o_gt (ee_rd (pv 2)) ee_int (nomark _)) (ess_one (es_set (ps_set (i := 4) sc_law.nd rfl (Or.inl rfl) (ee_tup (ea_cons ee_str (ea_cons (ee_tup (ea_cons (ee_rd (pv 4)) (ea_cons (ee_tup (ea_cons ee_str (ea_cons (ee_ixN (pv 3) ee_int (fun _ _ => rfl)) (ea_cons (ee_tup (ea_cons ee_str (ea_cons (ee_tup (ea_cons (ee_rd (pv 4)) (ea_cons (ee_tup (ea_cons ee_str (ea_cons (ee_rd (pv 4)) ea_nil))) ea_nil))) ea_nil))) ea_nil)))) ea_nil))) ea_nil)))) (by decide))) ess_nil)
    (ess_one (es_if (et_not (et_val (ee_callH T.d__law_is_right hgd hr (by decide) (by rfl) (ea_lend (pv 1) (ea_lend (pv 4) (ea_cons (ee_cmpN (r_eq hu) (pv 2) ee_int (nomark _)) ea_nil)))))) (ess_one (es_ret ee_bool)) ess_nil))))))
    (ess_one (es_ret (ee_cmp (r_eq hu).used (ee_callB (c_repr hgd hu hN).used (by rfl) T.z_repr (by decide +kernel) (ea_cons (ee_lst (ea_cons (ee_callH T.d_free_names hgd hr (by decide) (by rfl) (ea_cons (ee_tup (ea_cons ee_str (ea_cons (ee_tup ea_nil) ea_nil))) ea_nil)) (ea_cons (ee_callH T.d_free_names hgd hr (by decide) (by rfl) (ea_cons (ee_tup (ea_cons ee_str (ea_cons (ee_tup ea_nil) ea_nil))) ea_nil)) (ea_cons (ee_callH T.d_free_names hgd hr (by decide) (by rfl) (ea_cons (ee_tup (ea_cons ee_str (ea_cons (ee_tup (ea_cons (ee_tup ea_nil) (ea_cons (ee_tup (ea_cons ee_int (ea_cons ee_int ea_nil))) ea_nil))) ea_nil))) ea_nil)) ea_nil)))) ea_nil)) (ee_callB (c_repr hgd hu hN).used (by rfl) T.z_repr (by decide +kernel) (ea_cons (ee_bin o_smul (ee_lst (ea_cons (ee_tup ea_nil) ea_nil)) ee_int) ea_nil)) (nomark _))))))
theorem bd_law : ∀ (kV doc pm : Value) (an : Option Addr) (cdv ct : Value) (us : List Value), us.length = (["script"] : List Str).length → bindArgs (PySem.W.fnOf "law" "law" (defArgs st_law) (defBody st_law) (defScope st_law) .none kV doc pm an cdv ct) ⟨us, []⟩ = pure ((["script"] : List Str).zip us) := fun _ _ _ _ _ _ us hl => match us, hl with | [_], _ => rfl
structure Top (K : PySem.W.Frag) (mg : Str → Option Value) : Prop where
  e_parts_of : Def K mg "parts_of" st_parts_of
  e_free_names : Def K mg "free_names" st_free_names
  e__law_sack : Def K mg "_law_sack" st__law_sack
  e__law_draw : Def K mg "_law_draw" st__law_draw
  e__law_pick : Def K mg "_law_pick" st__law_pick
  e__law_gcd : Def K mg "_law_gcd" st__law_gcd
  e__law_ratio : Def K mg "_law_ratio" st__law_ratio
  e__law_fraction : Def K mg "_law_fraction" st__law_fraction
  e__law_sum : Def K mg "_law_sum" st__law_sum
  e__law_tree : Def K mg "_law_tree" st__law_tree
  e__law_nodes : Def K mg "_law_nodes" st__law_nodes
  e__law_formula : Def K mg "_law_formula" st__law_formula
  e__law_mixed : Def K mg "_law_mixed" st__law_mixed
  e__law_names : Def K mg "_law_names" st__law_names
  e__law_free : Def K mg "_law_free" st__law_free
  e__law_is_right : Def K mg "_law_is_right" st__law_is_right
  e_law : Def K mg "law" st_law
  z_abs : mg "abs" = none
  z_int : mg "int" = none
  z_len : mg "len" = none
  z_list : mg "list" = none
  z_range : mg "range" = none
  z_repr : mg "repr" = none
  z_set : mg "set" = none
  z_sorted : mg "sorted" = none
  z_sum : mg "sum" = none
  z_tuple : mg "tuple" = none
  c_COMPARISONS : GlobK K mg "COMPARISONS" k_COMPARISONS
  c_JOINS : GlobK K mg "JOINS" k_JOINS
  c_QUANTIFIERS : GlobK K mg "QUANTIFIERS" k_QUANTIFIERS
theorem has_parts_of {P : Program} {w : World} {K : PySem.W.Frag} {mg : Str → Option Value} {base : Heap} (T : Top K mg) (hN : base.NoDigits) : Has P w K mg base 2 "parts_of" st_parts_of ["formula"] s_parts_of :=
  T.e_parts_of.has bd_parts_of fun F => ok_parts_of ⟨T.c_COMPARISONS, T.c_JOINS⟩ hN F
theorem has_free_names {P : Program} {w : World} {K : PySem.W.Frag} {mg : Str → Option Value} {base : Heap} (T : Top K mg) (hN : base.NoDigits) : Has P w K mg base 3 "free_names" st_free_names ["formula"] s_free_names :=
  T.e_free_names.has bd_free_names fun F => ok_free_names ⟨has_parts_of (P := P) (w := w) (base := base) T hN, T.z_list, T.z_sorted, T.z_tuple, T.c_COMPARISONS, T.c_QUANTIFIERS⟩ hN F
theorem has__law_sack {P : Program} {w : World} {K : PySem.W.Frag} {mg : Str → Option Value} {base : Heap} (T : Top K mg) (hN : base.NoDigits) : Has P w K mg base 2 "_law_sack" st__law_sack ["script"] s__law_sack :=
  T.e__law_sack.has bd__law_sack fun F => ok__law_sack ⟨T.z_abs, T.z_int, T.z_len⟩ hN F
theorem has__law_draw {P : Program} {w : World} {K : PySem.W.Frag} {mg : Str → Option Value} {base : Heap} (T : Top K mg) (hN : base.NoDigits) : Has P w K mg base 2 "_law_draw" st__law_draw ["sack", "many"] s__law_draw :=
  T.e__law_draw.has bd__law_draw fun F => ok__law_draw ⟨T.z_int⟩ hN F
theorem has__law_pick {P : Program} {w : World} {K : PySem.W.Frag} {mg : Str → Option Value} {base : Heap} (T : Top K mg) (hN : base.NoDigits) : Has P w K mg base 3 "_law_pick" st__law_pick ["sack", "items"] s__law_pick :=
  T.e__law_pick.has bd__law_pick fun F => ok__law_pick ⟨has__law_draw (P := P) (w := w) (base := base) T hN, T.z_len⟩ hN F
theorem has__law_gcd {P : Program} {w : World} {K : PySem.W.Frag} {mg : Str → Option Value} {base : Heap} (T : Top K mg) (hN : base.NoDigits) : Has P w K mg base 2 "_law_gcd" st__law_gcd ["a", "b"] s__law_gcd :=
  T.e__law_gcd.has bd__law_gcd fun F => ok__law_gcd ⟨T.z_abs, T.z_int⟩ hN F
theorem has__law_ratio {P : Program} {w : World} {K : PySem.W.Frag} {mg : Str → Option Value} {base : Heap} (T : Top K mg) (hN : base.NoDigits) : Has P w K mg base 3 "_law_ratio" st__law_ratio ["a", "b"] s__law_ratio :=
  T.e__law_ratio.has bd__law_ratio fun F => ok__law_ratio ⟨has__law_gcd (P := P) (w := w) (base := base) T hN⟩ hN F
theorem has__law_fraction {P : Program} {w : World} {K : PySem.W.Frag} {mg : Str → Option Value} {base : Heap} (T : Top K mg) (hN : base.NoDigits) : Has P w K mg base 4 "_law_fraction" st__law_fraction ["sack", "is_any"] s__law_fraction :=
  T.e__law_fraction.has bd__law_fraction fun F => ok__law_fraction ⟨has__law_draw (P := P) (w := w) (base := base) T hN, has__law_pick (P := P) (w := w) (base := base) T hN, has__law_ratio (P := P) (w := w) (base := base) T hN, T.z_int⟩ hN F
theorem has__law_sum {P : Program} {w : World} {K : PySem.W.Frag} {mg : Str → Option Value} {base : Heap} (T : Top K mg) (hN : base.NoDigits) : Has P w K mg base 5 "_law_sum" st__law_sum ["sack", "names"] s__law_sum :=
  T.e__law_sum.has bd__law_sum fun F => ok__law_sum ⟨has__law_draw (P := P) (w := w) (base := base) T hN, has__law_fraction (P := P) (w := w) (base := base) T hN, T.z_sorted, T.z_tuple⟩ hN F
theorem hasg__law_tree {P : Program} {w : World} {K : PySem.W.Frag} {mg : Str → Option Value} {base : Heap} (T : Top K mg) (hN : base.NoDigits) : ∀ dd : Nat, Has P w K mg base (6 + dd) "_law_tree" st__law_tree ["sack", "names", "deep"] (sr__law_tree dd)
  | 0 => T.e__law_tree.has bd__law_tree fun F => fnG_none
  | dd + 1 => T.e__law_tree.has bd__law_tree fun F => ok__law_tree dd ⟨has__law_draw (P := P) (w := w) (base := base) T hN, has__law_pick (P := P) (w := w) (base := base) T hN, has__law_sum (P := P) (w := w) (base := base) T hN, (hasg__law_tree T hN dd), T.z_range, T.z_tuple⟩ hN F
theorem has__law_tree {P : Program} {w : World} {K : PySem.W.Frag} {mg : Str → Option Value} {base : Heap} (T : Top K mg) (hN : base.NoDigits) : Has P w K mg base 16 "_law_tree" st__law_tree ["sack", "names", "deep"] s__law_tree := (hasg__law_tree T hN 10)
theorem hasg__law_nodes {P : Program} {w : World} {K : PySem.W.Frag} {mg : Str → Option Value} {base : Heap} (T : Top K mg) (hN : base.NoDigits) : ∀ dd : Nat, Has P w K mg base (2 + dd) "_law_nodes" st__law_nodes ["formula"] (sr__law_nodes dd)
  | 0 => T.e__law_nodes.has bd__law_nodes fun F => fnG_none
  | dd + 1 => T.e__law_nodes.has bd__law_nodes fun F => ok__law_nodes dd ⟨(hasg__law_nodes T hN dd), T.z_sum⟩ hN F
theorem has__law_nodes {P : Program} {w : World} {K : PySem.W.Frag} {mg : Str → Option Value} {base : Heap} (T : Top K mg) (hN : base.NoDigits) : Has P w K mg base 14 "_law_nodes" st__law_nodes ["formula"] s__law_nodes := (hasg__law_nodes T hN 12)
theorem has__law_formula {P : Program} {w : World} {K : PySem.W.Frag} {mg : Str → Option Value} {base : Heap} (T : Top K mg) (hN : base.NoDigits) : Has P w K mg base 17 "_law_formula" st__law_formula ["sack", "names", "deep"] s__law_formula :=
  T.e__law_formula.has bd__law_formula fun F => ok__law_formula ⟨has__law_tree (P := P) (w := w) (base := base) T hN, has__law_nodes (P := P) (w := w) (base := base) T hN⟩ hN F
theorem has__law_mixed {P : Program} {w : World} {K : PySem.W.Frag} {mg : Str → Option Value} {base : Heap} (T : Top K mg) (hN : base.NoDigits) : Has P w K mg base 3 "_law_mixed" st__law_mixed ["sack", "items"] s__law_mixed :=
  T.e__law_mixed.has bd__law_mixed fun F => ok__law_mixed ⟨has__law_draw (P := P) (w := w) (base := base) T hN, T.z_len, T.z_list⟩ hN F
theorem has__law_names {P : Program} {w : World} {K : PySem.W.Frag} {mg : Str → Option Value} {base : Heap} (T : Top K mg) (hN : base.NoDigits) : Has P w K mg base 4 "_law_names" st__law_names ["sack"] s__law_names :=
  T.e__law_names.has bd__law_names fun F => ok__law_names ⟨has__law_mixed (P := P) (w := w) (base := base) T hN⟩ hN F
theorem hasg__law_free {P : Program} {w : World} {K : PySem.W.Frag} {mg : Str → Option Value} {base : Heap} (T : Top K mg) (hN : base.NoDigits) : ∀ dd : Nat, Has P w K mg base (2 + dd) "_law_free" st__law_free ["formula", "bound"] (sr__law_free dd)
  | 0 => T.e__law_free.has bd__law_free fun F => fnG_none
  | dd + 1 => T.e__law_free.has bd__law_free fun F => ok__law_free dd ⟨(hasg__law_free T hN dd)⟩ hN F
theorem has__law_free {P : Program} {w : World} {K : PySem.W.Frag} {mg : Str → Option Value} {base : Heap} (T : Top K mg) (hN : base.NoDigits) : Has P w K mg base 14 "_law_free" st__law_free ["formula", "bound"] s__law_free := (hasg__law_free T hN 12)
theorem has__law_is_right {P : Program} {w : World} {K : PySem.W.Frag} {mg : Str → Option Value} {base : Heap} (T : Top K mg) (hN : base.NoDigits) : Has P w K mg base 15 "_law_is_right" st__law_is_right ["sack", "formula", "is_named"] s__law_is_right :=
  T.e__law_is_right.has bd__law_is_right fun F => ok__law_is_right ⟨has_free_names (P := P) (w := w) (base := base) T hN, has__law_pick (P := P) (w := w) (base := base) T hN, has__law_free (P := P) (w := w) (base := base) T hN, T.z_list, T.z_repr, T.z_set, T.z_sorted, T.z_tuple⟩ hN F
theorem has_law {P : Program} {w : World} {K : PySem.W.Frag} {mg : Str → Option Value} {base : Heap} (T : Top K mg) (hN : base.NoDigits) : Has P w K mg base 18 "law" st_law ["script"] s_law :=
  T.e_law.has bd_law fun F => ok_law ⟨has_free_names (P := P) (w := w) (base := base) T hN, has__law_sack (P := P) (w := w) (base := base) T hN, has__law_draw (P := P) (w := w) (base := base) T hN, has__law_formula (P := P) (w := w) (base := base) T hN, has__law_names (P := P) (w := w) (base := base) T hN, has__law_is_right (P := P) (w := w) (base := base) T hN, T.z_range, T.z_repr⟩ hN F
end GH
namespace GH
open PySem L2 RZ
theorem all_mk {l : PySem.W.OpenLaw} {w : World} {K : PySem.W.Frag} {h : Heap} {mg : Str → Option Value} {fa : Addr} (X : K.In h) (G : h.Ns mainGlobals mg) (hfa : mg "law" = some (.ref fa))
    {f_parts_of : Addr} {od_parts_of an_parts_of : Option Addr} {sl_parts_of : Array (Option Value)} {oc_parts_of kV_parts_of dc_parts_of pm_parts_of cd_parts_of ct_parts_of : Value}
    (a_parts_of : PySem.W.nsIn K mainGlobals "parts_of" = some (some (.ref f_parts_of))) (l_parts_of : K.lookup f_parts_of = some ⟨oc_parts_of, od_parts_of, .func (PySem.W.fnOf "parts_of" "parts_of" (defArgs st_parts_of) (defBody st_parts_of) (defScope st_parts_of) .none kV_parts_of dc_parts_of pm_parts_of an_parts_of cd_parts_of ct_parts_of), sl_parts_of⟩) (c_parts_of : PySem.W.codeIn K cd_parts_of "parts_of" = true) (k_parts_of : PySem.W.keepIn K (.ref f_parts_of) = true)
    {f_free_names : Addr} {od_free_names an_free_names : Option Addr} {sl_free_names : Array (Option Value)} {oc_free_names kV_free_names dc_free_names pm_free_names cd_free_names ct_free_names : Value}
    (a_free_names : PySem.W.nsIn K mainGlobals "free_names" = some (some (.ref f_free_names))) (l_free_names : K.lookup f_free_names = some ⟨oc_free_names, od_free_names, .func (PySem.W.fnOf "free_names" "free_names" (defArgs st_free_names) (defBody st_free_names) (defScope st_free_names) .none kV_free_names dc_free_names pm_free_names an_free_names cd_free_names ct_free_names), sl_free_names⟩) (c_free_names : PySem.W.codeIn K cd_free_names "free_names" = true) (k_free_names : PySem.W.keepIn K (.ref f_free_names) = true)
    {f__law_sack : Addr} {od__law_sack an__law_sack : Option Addr} {sl__law_sack : Array (Option Value)} {oc__law_sack kV__law_sack dc__law_sack pm__law_sack cd__law_sack ct__law_sack : Value}
    (a__law_sack : PySem.W.nsIn K mainGlobals "_law_sack" = some (some (.ref f__law_sack))) (l__law_sack : K.lookup f__law_sack = some ⟨oc__law_sack, od__law_sack, .func (PySem.W.fnOf "_law_sack" "_law_sack" (defArgs st__law_sack) (defBody st__law_sack) (defScope st__law_sack) .none kV__law_sack dc__law_sack pm__law_sack an__law_sack cd__law_sack ct__law_sack), sl__law_sack⟩) (c__law_sack : PySem.W.codeIn K cd__law_sack "_law_sack" = true) (k__law_sack : PySem.W.keepIn K (.ref f__law_sack) = true)
    {f__law_draw : Addr} {od__law_draw an__law_draw : Option Addr} {sl__law_draw : Array (Option Value)} {oc__law_draw kV__law_draw dc__law_draw pm__law_draw cd__law_draw ct__law_draw : Value}
    (a__law_draw : PySem.W.nsIn K mainGlobals "_law_draw" = some (some (.ref f__law_draw))) (l__law_draw : K.lookup f__law_draw = some ⟨oc__law_draw, od__law_draw, .func (PySem.W.fnOf "_law_draw" "_law_draw" (defArgs st__law_draw) (defBody st__law_draw) (defScope st__law_draw) .none kV__law_draw dc__law_draw pm__law_draw an__law_draw cd__law_draw ct__law_draw), sl__law_draw⟩) (c__law_draw : PySem.W.codeIn K cd__law_draw "_law_draw" = true) (k__law_draw : PySem.W.keepIn K (.ref f__law_draw) = true)
    {f__law_pick : Addr} {od__law_pick an__law_pick : Option Addr} {sl__law_pick : Array (Option Value)} {oc__law_pick kV__law_pick dc__law_pick pm__law_pick cd__law_pick ct__law_pick : Value}
    (a__law_pick : PySem.W.nsIn K mainGlobals "_law_pick" = some (some (.ref f__law_pick))) (l__law_pick : K.lookup f__law_pick = some ⟨oc__law_pick, od__law_pick, .func (PySem.W.fnOf "_law_pick" "_law_pick" (defArgs st__law_pick) (defBody st__law_pick) (defScope st__law_pick) .none kV__law_pick dc__law_pick pm__law_pick an__law_pick cd__law_pick ct__law_pick), sl__law_pick⟩) (c__law_pick : PySem.W.codeIn K cd__law_pick "_law_pick" = true) (k__law_pick : PySem.W.keepIn K (.ref f__law_pick) = true)
    {f__law_gcd : Addr} {od__law_gcd an__law_gcd : Option Addr} {sl__law_gcd : Array (Option Value)} {oc__law_gcd kV__law_gcd dc__law_gcd pm__law_gcd cd__law_gcd ct__law_gcd : Value}
    (a__law_gcd : PySem.W.nsIn K mainGlobals "_law_gcd" = some (some (.ref f__law_gcd))) (l__law_gcd : K.lookup f__law_gcd = some ⟨oc__law_gcd, od__law_gcd, .func (PySem.W.fnOf "_law_gcd" "_law_gcd" (defArgs st__law_gcd) (defBody st__law_gcd) (defScope st__law_gcd) .none kV__law_gcd dc__law_gcd pm__law_gcd an__law_gcd cd__law_gcd ct__law_gcd), sl__law_gcd⟩) (c__law_gcd : PySem.W.codeIn K cd__law_gcd "_law_gcd" = true) (k__law_gcd : PySem.W.keepIn K (.ref f__law_gcd) = true)
    {f__law_ratio : Addr} {od__law_ratio an__law_ratio : Option Addr} {sl__law_ratio : Array (Option Value)} {oc__law_ratio kV__law_ratio dc__law_ratio pm__law_ratio cd__law_ratio ct__law_ratio : Value}
    (a__law_ratio : PySem.W.nsIn K mainGlobals "_law_ratio" = some (some (.ref f__law_ratio))) (l__law_ratio : K.lookup f__law_ratio = some ⟨oc__law_ratio, od__law_ratio, .func (PySem.W.fnOf "_law_ratio" "_law_ratio" (defArgs st__law_ratio) (defBody st__law_ratio) (defScope st__law_ratio) .none kV__law_ratio dc__law_ratio pm__law_ratio an__law_ratio cd__law_ratio ct__law_ratio), sl__law_ratio⟩) (c__law_ratio : PySem.W.codeIn K cd__law_ratio "_law_ratio" = true) (k__law_ratio : PySem.W.keepIn K (.ref f__law_ratio) = true)
    {f__law_fraction : Addr} {od__law_fraction an__law_fraction : Option Addr} {sl__law_fraction : Array (Option Value)} {oc__law_fraction kV__law_fraction dc__law_fraction pm__law_fraction cd__law_fraction ct__law_fraction : Value}
    (a__law_fraction : PySem.W.nsIn K mainGlobals "_law_fraction" = some (some (.ref f__law_fraction))) (l__law_fraction : K.lookup f__law_fraction = some ⟨oc__law_fraction, od__law_fraction, .func (PySem.W.fnOf "_law_fraction" "_law_fraction" (defArgs st__law_fraction) (defBody st__law_fraction) (defScope st__law_fraction) .none kV__law_fraction dc__law_fraction pm__law_fraction an__law_fraction cd__law_fraction ct__law_fraction), sl__law_fraction⟩) (c__law_fraction : PySem.W.codeIn K cd__law_fraction "_law_fraction" = true) (k__law_fraction : PySem.W.keepIn K (.ref f__law_fraction) = true)
    {f__law_sum : Addr} {od__law_sum an__law_sum : Option Addr} {sl__law_sum : Array (Option Value)} {oc__law_sum kV__law_sum dc__law_sum pm__law_sum cd__law_sum ct__law_sum : Value}
    (a__law_sum : PySem.W.nsIn K mainGlobals "_law_sum" = some (some (.ref f__law_sum))) (l__law_sum : K.lookup f__law_sum = some ⟨oc__law_sum, od__law_sum, .func (PySem.W.fnOf "_law_sum" "_law_sum" (defArgs st__law_sum) (defBody st__law_sum) (defScope st__law_sum) .none kV__law_sum dc__law_sum pm__law_sum an__law_sum cd__law_sum ct__law_sum), sl__law_sum⟩) (c__law_sum : PySem.W.codeIn K cd__law_sum "_law_sum" = true) (k__law_sum : PySem.W.keepIn K (.ref f__law_sum) = true)
    {f__law_tree : Addr} {od__law_tree an__law_tree : Option Addr} {sl__law_tree : Array (Option Value)} {oc__law_tree kV__law_tree dc__law_tree pm__law_tree cd__law_tree ct__law_tree : Value}
    (a__law_tree : PySem.W.nsIn K mainGlobals "_law_tree" = some (some (.ref f__law_tree))) (l__law_tree : K.lookup f__law_tree = some ⟨oc__law_tree, od__law_tree, .func (PySem.W.fnOf "_law_tree" "_law_tree" (defArgs st__law_tree) (defBody st__law_tree) (defScope st__law_tree) .none kV__law_tree dc__law_tree pm__law_tree an__law_tree cd__law_tree ct__law_tree), sl__law_tree⟩) (c__law_tree : PySem.W.codeIn K cd__law_tree "_law_tree" = true) (k__law_tree : PySem.W.keepIn K (.ref f__law_tree) = true)
    {f__law_nodes : Addr} {od__law_nodes an__law_nodes : Option Addr} {sl__law_nodes : Array (Option Value)} {oc__law_nodes kV__law_nodes dc__law_nodes pm__law_nodes cd__law_nodes ct__law_nodes : Value}
    (a__law_nodes : PySem.W.nsIn K mainGlobals "_law_nodes" = some (some (.ref f__law_nodes))) (l__law_nodes : K.lookup f__law_nodes = some ⟨oc__law_nodes, od__law_nodes, .func (PySem.W.fnOf "_law_nodes" "_law_nodes" (defArgs st__law_nodes) (defBody st__law_nodes) (defScope st__law_nodes) .none kV__law_nodes dc__law_nodes pm__law_nodes an__law_nodes cd__law_nodes ct__law_nodes), sl__law_nodes⟩) (c__law_nodes : PySem.W.codeIn K cd__law_nodes "_law_nodes" = true) (k__law_nodes : PySem.W.keepIn K (.ref f__law_nodes) = true)
    {f__law_formula : Addr} {od__law_formula an__law_formula : Option Addr} {sl__law_formula : Array (Option Value)} {oc__law_formula kV__law_formula dc__law_formula pm__law_formula cd__law_formula ct__law_formula : Value}
    (a__law_formula : PySem.W.nsIn K mainGlobals "_law_formula" = some (some (.ref f__law_formula))) (l__law_formula : K.lookup f__law_formula = some ⟨oc__law_formula, od__law_formula, .func (PySem.W.fnOf "_law_formula" "_law_formula" (defArgs st__law_formula) (defBody st__law_formula) (defScope st__law_formula) .none kV__law_formula dc__law_formula pm__law_formula an__law_formula cd__law_formula ct__law_formula), sl__law_formula⟩) (c__law_formula : PySem.W.codeIn K cd__law_formula "_law_formula" = true) (k__law_formula : PySem.W.keepIn K (.ref f__law_formula) = true)
    {f__law_mixed : Addr} {od__law_mixed an__law_mixed : Option Addr} {sl__law_mixed : Array (Option Value)} {oc__law_mixed kV__law_mixed dc__law_mixed pm__law_mixed cd__law_mixed ct__law_mixed : Value}
    (a__law_mixed : PySem.W.nsIn K mainGlobals "_law_mixed" = some (some (.ref f__law_mixed))) (l__law_mixed : K.lookup f__law_mixed = some ⟨oc__law_mixed, od__law_mixed, .func (PySem.W.fnOf "_law_mixed" "_law_mixed" (defArgs st__law_mixed) (defBody st__law_mixed) (defScope st__law_mixed) .none kV__law_mixed dc__law_mixed pm__law_mixed an__law_mixed cd__law_mixed ct__law_mixed), sl__law_mixed⟩) (c__law_mixed : PySem.W.codeIn K cd__law_mixed "_law_mixed" = true) (k__law_mixed : PySem.W.keepIn K (.ref f__law_mixed) = true)
    {f__law_names : Addr} {od__law_names an__law_names : Option Addr} {sl__law_names : Array (Option Value)} {oc__law_names kV__law_names dc__law_names pm__law_names cd__law_names ct__law_names : Value}
    (a__law_names : PySem.W.nsIn K mainGlobals "_law_names" = some (some (.ref f__law_names))) (l__law_names : K.lookup f__law_names = some ⟨oc__law_names, od__law_names, .func (PySem.W.fnOf "_law_names" "_law_names" (defArgs st__law_names) (defBody st__law_names) (defScope st__law_names) .none kV__law_names dc__law_names pm__law_names an__law_names cd__law_names ct__law_names), sl__law_names⟩) (c__law_names : PySem.W.codeIn K cd__law_names "_law_names" = true) (k__law_names : PySem.W.keepIn K (.ref f__law_names) = true)
    {f__law_free : Addr} {od__law_free an__law_free : Option Addr} {sl__law_free : Array (Option Value)} {oc__law_free kV__law_free dc__law_free pm__law_free cd__law_free ct__law_free : Value}
    (a__law_free : PySem.W.nsIn K mainGlobals "_law_free" = some (some (.ref f__law_free))) (l__law_free : K.lookup f__law_free = some ⟨oc__law_free, od__law_free, .func (PySem.W.fnOf "_law_free" "_law_free" (defArgs st__law_free) (defBody st__law_free) (defScope st__law_free) .none kV__law_free dc__law_free pm__law_free an__law_free cd__law_free ct__law_free), sl__law_free⟩) (c__law_free : PySem.W.codeIn K cd__law_free "_law_free" = true) (k__law_free : PySem.W.keepIn K (.ref f__law_free) = true)
    {f__law_is_right : Addr} {od__law_is_right an__law_is_right : Option Addr} {sl__law_is_right : Array (Option Value)} {oc__law_is_right kV__law_is_right dc__law_is_right pm__law_is_right cd__law_is_right ct__law_is_right : Value}
    (a__law_is_right : PySem.W.nsIn K mainGlobals "_law_is_right" = some (some (.ref f__law_is_right))) (l__law_is_right : K.lookup f__law_is_right = some ⟨oc__law_is_right, od__law_is_right, .func (PySem.W.fnOf "_law_is_right" "_law_is_right" (defArgs st__law_is_right) (defBody st__law_is_right) (defScope st__law_is_right) .none kV__law_is_right dc__law_is_right pm__law_is_right an__law_is_right cd__law_is_right ct__law_is_right), sl__law_is_right⟩) (c__law_is_right : PySem.W.codeIn K cd__law_is_right "_law_is_right" = true) (k__law_is_right : PySem.W.keepIn K (.ref f__law_is_right) = true)
    {f_law : Addr} {od_law an_law : Option Addr} {sl_law : Array (Option Value)} {oc_law kV_law dc_law pm_law cd_law ct_law : Value}
    (a_law : PySem.W.nsIn K mainGlobals "law" = some (some (.ref f_law))) (l_law : K.lookup f_law = some ⟨oc_law, od_law, .func (PySem.W.fnOf "law" "law" (defArgs st_law) (defBody st_law) (defScope st_law) .none kV_law dc_law pm_law an_law cd_law ct_law), sl_law⟩) (c_law : PySem.W.codeIn K cd_law "law" = true) (k_law : PySem.W.keepIn K (.ref f_law) = true)
    (z_abs : PySem.W.nsIn K mainGlobals "abs" = some none)
    (z_int : PySem.W.nsIn K mainGlobals "int" = some none)
    (z_len : PySem.W.nsIn K mainGlobals "len" = some none)
    (z_list : PySem.W.nsIn K mainGlobals "list" = some none)
    (z_range : PySem.W.nsIn K mainGlobals "range" = some none)
    (z_repr : PySem.W.nsIn K mainGlobals "repr" = some none)
    (z_set : PySem.W.nsIn K mainGlobals "set" = some none)
    (z_sorted : PySem.W.nsIn K mainGlobals "sorted" = some none)
    (z_sum : PySem.W.nsIn K mainGlobals "sum" = some none)
    (z_tuple : PySem.W.nsIn K mainGlobals "tuple" = some none)
    {w_COMPARISONS : Addr} {dd_COMPARISONS : Option Addr} {n_COMPARISONS : Nat} {sl_COMPARISONS : Array (Option Value)} {tk_COMPARISONS_0 tk_COMPARISONS_1 tk_COMPARISONS_2 : Tok} (g_COMPARISONS : PySem.W.nsIn K mainGlobals "COMPARISONS" = some (some (.ref w_COMPARISONS))) (v_COMPARISONS : K.lookup w_COMPARISONS = some ⟨.type "tuple", dd_COMPARISONS, .seq #[(.str "ge" tk_COMPARISONS_0), (.str "gt" tk_COMPARISONS_1), (.str "eq" tk_COMPARISONS_2)] n_COMPARISONS, sl_COMPARISONS⟩)
    {w_JOINS : Addr} {dd_JOINS : Option Addr} {n_JOINS : Nat} {sl_JOINS : Array (Option Value)} {tk_JOINS_0 tk_JOINS_1 : Tok} (g_JOINS : PySem.W.nsIn K mainGlobals "JOINS" = some (some (.ref w_JOINS))) (v_JOINS : K.lookup w_JOINS = some ⟨.type "tuple", dd_JOINS, .seq #[(.str "and" tk_JOINS_0), (.str "or" tk_JOINS_1)] n_JOINS, sl_JOINS⟩)
    {w_QUANTIFIERS : Addr} {dd_QUANTIFIERS : Option Addr} {n_QUANTIFIERS : Nat} {sl_QUANTIFIERS : Array (Option Value)} {tk_QUANTIFIERS_0 tk_QUANTIFIERS_1 : Tok} (g_QUANTIFIERS : PySem.W.nsIn K mainGlobals "QUANTIFIERS" = some (some (.ref w_QUANTIFIERS))) (v_QUANTIFIERS : K.lookup w_QUANTIFIERS = some ⟨.type "tuple", dd_QUANTIFIERS, .seq #[(.str "each" tk_QUANTIFIERS_0), (.str "some" tk_QUANTIFIERS_1)] n_QUANTIFIERS, sl_QUANTIFIERS⟩)
    : ∃ fd : FuncData, (∀ (s : Shared) (v : Value), BindsTo s fd ⟨[v], []⟩ [("script", v)]) ∧ ∀ base : Heap, K.In base → base.Ns mainGlobals mg → base.NoDigits → FnG l.prog w K mg base CX0 18 fa fd ["script"] (okFn K s_law) := by
  have e := hfa.symm.trans (PySem.W.mg_of X G a_law)
  cases e
  have T : Top K mg := { e_parts_of := .of X G a_parts_of l_parts_of c_parts_of k_parts_of, e_free_names := .of X G a_free_names l_free_names c_free_names k_free_names, e__law_sack := .of X G a__law_sack l__law_sack c__law_sack k__law_sack, e__law_draw := .of X G a__law_draw l__law_draw c__law_draw k__law_draw, e__law_pick := .of X G a__law_pick l__law_pick c__law_pick k__law_pick, e__law_gcd := .of X G a__law_gcd l__law_gcd c__law_gcd k__law_gcd, e__law_ratio := .of X G a__law_ratio l__law_ratio c__law_ratio k__law_ratio, e__law_fraction := .of X G a__law_fraction l__law_fraction c__law_fraction k__law_fraction, e__law_sum := .of X G a__law_sum l__law_sum c__law_sum k__law_sum, e__law_tree := .of X G a__law_tree l__law_tree c__law_tree k__law_tree, e__law_nodes := .of X G a__law_nodes l__law_nodes c__law_nodes k__law_nodes, e__law_formula := .of X G a__law_formula l__law_formula c__law_formula k__law_formula, e__law_mixed := .of X G a__law_mixed l__law_mixed c__law_mixed k__law_mixed, e__law_names := .of X G a__law_names l__law_names c__law_names k__law_names, e__law_free := .of X G a__law_free l__law_free c__law_free k__law_free, e__law_is_right := .of X G a__law_is_right l__law_is_right c__law_is_right k__law_is_right, e_law := .of X G a_law l_law c_law k_law, z_abs := PySem.W.mg_none_of X G z_abs, z_int := PySem.W.mg_none_of X G z_int, z_len := PySem.W.mg_none_of X G z_len, z_list := PySem.W.mg_none_of X G z_list, z_range := PySem.W.mg_none_of X G z_range, z_repr := PySem.W.mg_none_of X G z_repr, z_set := PySem.W.mg_none_of X G z_set, z_sorted := PySem.W.mg_none_of X G z_sorted, z_sum := PySem.W.mg_none_of X G z_sum, z_tuple := PySem.W.mg_none_of X G z_tuple, c_COMPARISONS := .tup (PySem.W.mg_of X G g_COMPARISONS) v_COMPARISONS (show 3 ≤ sizeLine by decide) (xs := [V.str "ge", V.str "gt", V.str "eq"]) (.cons ⟨_, rfl⟩ (.cons ⟨_, rfl⟩ (.cons ⟨_, rfl⟩ (.nil)))) (fun _ => .cons (.str _) (.cons (.str _) (.cons (.str _) (.nil)))), c_JOINS := .tup (PySem.W.mg_of X G g_JOINS) v_JOINS (show 2 ≤ sizeLine by decide) (xs := [V.str "and", V.str "or"]) (.cons ⟨_, rfl⟩ (.cons ⟨_, rfl⟩ (.nil))) (fun _ => .cons (.str _) (.cons (.str _) (.nil))), c_QUANTIFIERS := .tup (PySem.W.mg_of X G g_QUANTIFIERS) v_QUANTIFIERS (show 2 ≤ sizeLine by decide) (xs := [V.str "each", V.str "some"]) (.cons ⟨_, rfl⟩ (.cons ⟨_, rfl⟩ (.nil))) (fun _ => .cons (.str _) (.cons (.str _) (.nil))) }
  exact ⟨_, fun s v => .of_eq rfl, fun base _ _ hN => ok_law ⟨has_free_names T hN, has__law_sack T hN, has__law_draw T hN, has__law_formula T hN, has__law_names T hN, has__law_is_right T hN, T.z_range, T.z_repr⟩ hN (fun_mk l_law c_law k_law)⟩
end GH
open PySem PySem.W PyProof.Rows
set_option maxRecDepth 100000 in
set_option maxHeartbeats 0 in
theorem PySem.Challenge.cw_answerlines_k44_names_that_are_free_holds : PySem.Challenge.rw_answerlines_k44_names_that_are_free.Holds := by
  w_on; o_law; k_head; (case hw => w_witness2)
  k_fill
  refine GH.walkG (l := PySem.Challenge.rw_answerlines_k44_names_that_are_free) (n := 63) (k := 18) (sem := GH.s_law) (x := "script") rfl (by decide) rfl ⟨rfl, by decide, by decide⟩ (fun w h Y => PySem.W.kIn_of Y) ?F ?S
  case F =>
    intro w mg fa h KX G hmg
    refine' GH.all_mk KX G hmg ?a_parts_of ?l_parts_of ?c_parts_of ?k_parts_of ?a_free_names ?l_free_names ?c_free_names ?k_free_names ?a__law_sack ?l__law_sack ?c__law_sack ?k__law_sack ?a__law_draw ?l__law_draw ?c__law_draw ?k__law_draw ?a__law_pick ?l__law_pick ?c__law_pick ?k__law_pick ?a__law_gcd ?l__law_gcd ?c__law_gcd ?k__law_gcd ?a__law_ratio ?l__law_ratio ?c__law_ratio ?k__law_ratio ?a__law_fraction ?l__law_fraction ?c__law_fraction ?k__law_fraction ?a__law_sum ?l__law_sum ?c__law_sum ?k__law_sum ?a__law_tree ?l__law_tree ?c__law_tree ?k__law_tree ?a__law_nodes ?l__law_nodes ?c__law_nodes ?k__law_nodes ?a__law_formula ?l__law_formula ?c__law_formula ?k__law_formula ?a__law_mixed ?l__law_mixed ?c__law_mixed ?k__law_mixed ?a__law_names ?l__law_names ?c__law_names ?k__law_names ?a__law_free ?l__law_free ?c__law_free ?k__law_free ?a__law_is_right ?l__law_is_right ?c__law_is_right ?k__law_is_right ?a_law ?l_law ?c_law ?k_law ?z_abs ?z_int ?z_len ?z_list ?z_range ?z_repr ?z_set ?z_sorted ?z_sum ?z_tuple ?g_COMPARISONS ?v_COMPARISONS ?g_JOINS ?v_JOINS ?g_QUANTIFIERS ?v_QUANTIFIERS
    (case a_parts_of => k_is)
    (case l_parts_of => k_is)
    (case c_parts_of => k_is)
    (case k_parts_of => k_is)
    (case a_free_names => k_is)
    (case l_free_names => k_is)
    (case c_free_names => k_is)
    (case k_free_names => k_is)
    (case a__law_sack => k_is)
    (case l__law_sack => k_is)
    (case c__law_sack => k_is)
    (case k__law_sack => k_is)
    (case a__law_draw => k_is)
    (case l__law_draw => k_is)
    (case c__law_draw => k_is)
    (case k__law_draw => k_is)
    (case a__law_pick => k_is)
    (case l__law_pick => k_is)
    (case c__law_pick => k_is)
    (case k__law_pick => k_is)
    (case a__law_gcd => k_is)
    (case l__law_gcd => k_is)
    (case c__law_gcd => k_is)
    (case k__law_gcd => k_is)
    (case a__law_ratio => k_is)
    (case l__law_ratio => k_is)
    (case c__law_ratio => k_is)
    (case k__law_ratio => k_is)
    (case a__law_fraction => k_is)
    (case l__law_fraction => k_is)
    (case c__law_fraction => k_is)
    (case k__law_fraction => k_is)
    (case a__law_sum => k_is)
    (case l__law_sum => k_is)
    (case c__law_sum => k_is)
    (case k__law_sum => k_is)
    (case a__law_tree => k_is)
    (case l__law_tree => k_is)
    (case c__law_tree => k_is)
    (case k__law_tree => k_is)
    (case a__law_nodes => k_is)
    (case l__law_nodes => k_is)
    (case c__law_nodes => k_is)
    (case k__law_nodes => k_is)
    (case a__law_formula => k_is)
    (case l__law_formula => k_is)
    (case c__law_formula => k_is)
    (case k__law_formula => k_is)
    (case a__law_mixed => k_is)
    (case l__law_mixed => k_is)
    (case c__law_mixed => k_is)
    (case k__law_mixed => k_is)
    (case a__law_names => k_is)
    (case l__law_names => k_is)
    (case c__law_names => k_is)
    (case k__law_names => k_is)
    (case a__law_free => k_is)
    (case l__law_free => k_is)
    (case c__law_free => k_is)
    (case k__law_free => k_is)
    (case a__law_is_right => k_is)
    (case l__law_is_right => k_is)
    (case c__law_is_right => k_is)
    (case k__law_is_right => k_is)
    (case a_law => k_is)
    (case l_law => k_is)
    (case c_law => k_is)
    (case k_law => k_is)
    (case z_abs => k_is)
    (case z_int => k_is)
    (case z_len => k_is)
    (case z_list => k_is)
    (case z_range => k_is)
    (case z_repr => k_is)
    (case z_set => k_is)
    (case z_sorted => k_is)
    (case z_sum => k_is)
    (case z_tuple => k_is)
    (case g_COMPARISONS => k_is)
    (case v_COMPARISONS => k_is)
    (case g_JOINS => k_is)
    (case v_JOINS => k_is)
    (case g_QUANTIFIERS => k_is)
    (case v_QUANTIFIERS => k_is)
  case S => exact fun ns hn hb => GH.law_true ns hn hb
