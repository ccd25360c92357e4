import PyProof.Rows.All
import Wide.All
import OpenK.AllK
import Wide.FinOn
import KE.KStateDown
import Lean
import HandS.ForMost
import HandS.ForExc
import HandS.Wide
import HandS.CallSlots
import HandS.Defaults
import HandS.Style
import HandS.IsInst
import HandS.Deep
import HandS.TupAny
import HandS.Dict
import HandS.More
import HandS.Iter
import HandS.Comp
import HandS.WordsExc
import HandS.ExcCtx
import HandS.HotCalls
import PyProof.P3Eq
import HandS.Head0
import HandS.Head1
import HandS.Head2
import HandS.HeadEnd
import HandS.HeadHook1
import HandS.HeadHook2
import KE.SortData
import PyProof.ZipIter
import HandS.Text
import HandS.ExcIs
import HandS.SetFor
import HandS.Strs
import HandS.Zip
import HandS.TryOnly
import HandS.Small
import KE.KEqDict
import KE.GoesMore
import HandS.SortKw
import HandS.TupSets
import KE.DataMinMax
import HandS.ListItems
import KE.KDictZip
import HandS.MapObj
import KE.KTupSum
import PySem.Challenge.RW_twoknives_k38_whole_books_told_otherwise
set_option Elab.async false
set_option linter.all false
set_option maxRecDepth 100000
set_option maxHeartbeats 0
namespace T2
open L2 PySem PySem.Spec PyProof.Rows

abbrev D := PyData
abbrev AS := Addr → Prop
abbrev St := L2.St

/-! ### ownership -/
inductive Ty where
  | bot | fz | ow | pk (i : Nat) | mv (i : Nat) (t : Ty) | ol (t : Ty) | tp (ts : List Ty) | xh

/-- a key as a datum -/
def kD : Key → D
  | .inl i => .int i
  | .inr x => .str x
mutual
def Fz (K : PySem.W.Frag) (F : Hp) : D → V → Prop
  | .none, v => v = .non
  | .bool b, v => v = .bl b
  | .int i, v => v = .int i
  | .str x, v => v = .str x
  | .list ds, v => ∃ a vs, v = .ref a ∧ SqL K F a vs ∧ FzL K F ds vs
  | .tuple ds, v => ∃ a vs, v = .ref a ∧ SqT K F a vs ∧ FzL K F ds vs
  | .dict kvs, v => ∃ a xs, v = .ref a ∧ Rd F a (.dK xs) ∧ FzD K F kvs xs
def FzL (K : PySem.W.Frag) (F : Hp) : List D → List V → Prop
  | [], vs => vs = []
  | d :: ds, vs => ∃ v r, vs = v :: r ∧ Fz K F d v ∧ FzL K F ds r
/-- a dict's items: keys that are ints or texts -/
def FzD (K : PySem.W.Frag) (F : Hp) : List (D × D) → List (Key × V) → Prop
  | [], xs => xs = []
  | (k, d) :: r, xs => ∃ key v xr, xs = (key, v) :: xr ∧ k = kD key ∧ Fz K F d v ∧ FzD K F r xr
end

/-- the same, or the same as a known thing -/
def Le (o u : HO) : Prop := u = o ∨ (Mut (some o) ∧ ∃ ob, u = .frz ob o)
theorem Le.trans {o u w : HO} (a : Le o u) (b : Le u w) : Le o w := by
  rcases a with rfl | ⟨m, ob, rfl⟩
  · exact b
  · rcases b with rfl | ⟨m', _⟩
    · exact .inr ⟨m, ob, rfl⟩
    · exact False.elim m'
def Sub (F F' : Hp) : Prop := ∀ a o, F a = some o → ∃ u, F' a = some u ∧ Le o u
theorem Sub.refl (F : Hp) : Sub F F := fun _ _ h => ⟨_, h, .inl rfl⟩
theorem Sub.same {F F' : Hp} (h : ∀ a o, F a = some o → F' a = some o) : Sub F F' := fun a o e => ⟨_, h a o e, .inl rfl⟩
theorem Sub.trans {F G H : Hp} (a : Sub F G) (b : Sub G H) : Sub F H := fun c o h => by
  obtain ⟨u, e, l⟩ := a c o h
  obtain ⟨w, e', l'⟩ := b c u e
  exact ⟨w, e', l.trans l'⟩
theorem Sub.ne {F F' : Hp} (s : Sub F F') {a : Addr} {o : HO} (h : F a = some o) : F' a ≠ none := by
  obtain ⟨u, e, _⟩ := s a o h
  rw [e]; simp
theorem Sub.rd {F F' : Hp} {a : Addr} {u : HO} (s : Sub F F') (h : Rd F a u) : Rd F' a u := by
  rcases h with h | ⟨o, h⟩
  · obtain ⟨w, e, rfl | ⟨_, ob, rfl⟩⟩ := s _ _ h
    · exact .inl e
    · exact .inr ⟨ob, e⟩
  · obtain ⟨w, e, rfl | ⟨m, _⟩⟩ := s _ _ h
    · exact .inr ⟨o, e⟩
    · exact False.elim m
theorem Sub.sql {K : PySem.W.Frag} {F F' : Hp} {a : Addr} {xs : List V} (s : Sub F F') (h : SqL K F a xs) : SqL K F' a xs := by
  rcases h with h | h
  · exact .inl (s.rd h)
  · exact .inr h
theorem Sub.sqt {K : PySem.W.Frag} {F F' : Hp} {a : Addr} {xs : List V} (s : Sub F F') (h : SqT K F a xs) : SqT K F' a xs := by
  rcases h with h | h
  · exact .inl (s.rd h)
  · exact .inr h
mutual
theorem Fz.mono {K : PySem.W.Frag} {F F' : Hp} (s : Sub F F') : ∀ {d : D} {v : V}, Fz K F d v → Fz K F' d v
  | .none, _, h => h
  | .bool _, _, h => h
  | .int _, _, h => h
  | .str _, _, h => h
  | .list _, _, h => by
    simp only [Fz] at h ⊢
    obtain ⟨a, vs, e, hs, hl⟩ := h
    exact ⟨a, vs, e, s.sql hs, FzL.mono s hl⟩
  | .tuple _, _, h => by
    simp only [Fz] at h ⊢
    obtain ⟨a, vs, e, hs, hl⟩ := h
    exact ⟨a, vs, e, s.sqt hs, FzL.mono s hl⟩
  | .dict _, _, h => by
    simp only [Fz] at h ⊢
    obtain ⟨a, xs, e, hr, hl⟩ := h
    exact ⟨a, xs, e, s.rd hr, FzD.mono s hl⟩
theorem FzL.mono {K : PySem.W.Frag} {F F' : Hp} (s : Sub F F') : ∀ {ds : List D} {vs : List V}, FzL K F ds vs → FzL K F' ds vs
  | [], _, h => h
  | _ :: _, _, h => by
    simp only [FzL] at h ⊢
    obtain ⟨v, r, e, h1, h2⟩ := h
    exact ⟨v, r, e, Fz.mono s h1, FzL.mono s h2⟩
theorem FzD.mono {K : PySem.W.Frag} {F F' : Hp} (s : Sub F F') : ∀ {ds : List (D × D)} {xs : List (Key × V)}, FzD K F ds xs → FzD K F' ds xs
  | [], _, h => h
  | (k, d) :: _, _, h => by
    simp only [FzD] at h ⊢
    obtain ⟨key, v, r, e, e2, h1, h2⟩ := h
    exact ⟨key, v, r, e, e2, Fz.mono s h1, FzD.mono s h2⟩
end
/-! no dict within -/
mutual
def noD : D → Bool
  | .dict _ => false
  | .list xs => noDs xs
  | .tuple xs => noDs xs
  | .none => true
  | .bool _ => true
  | .int _ => true
  | .str _ => true
def noDs : List D → Bool
  | [] => true
  | x :: xs => noD x && noDs xs
end
mutual
theorem noD_lay : ∀ d : D, PyData.canLay0 d = true → noD d = true
  | .none, _ => rfl
  | .bool _, _ => rfl
  | .int _, _ => rfl
  | .str _, _ => rfl
  | .list xs, h => by rw [PyData.canLay0] at h; rw [noD]; exact noDs_lay xs h
  | .tuple xs, h => by rw [PyData.canLay0] at h; rw [noD]; exact noDs_lay xs h
  | .dict _, h => by rw [PyData.canLay0] at h; cases h
theorem noDs_lay : ∀ ds : List D, PyData.canLayAll0 ds = true → noDs ds = true
  | [], _ => rfl
  | d :: ds, h => by
    rw [PyData.canLayAll0, Bool.and_eq_true] at h
    rw [noDs, noD_lay d h.1, noDs_lay ds h.2]
    rfl
end
mutual
theorem Fz.dp {K : PySem.W.Frag} {F : Hp} : ∀ {d : D} {v : V}, noD d = true → Fz K F d v → Dp K F v d
  | .none, _, _, h => by simp only [Fz] at h; subst h; exact .non
  | .bool _, _, _, h => by simp only [Fz] at h; subst h; exact .bl _
  | .int _, _, _, h => by simp only [Fz] at h; subst h; exact .int _
  | .str _, _, _, h => by simp only [Fz] at h; subst h; exact .str _
  | .list _, _, c, h => by
    simp only [Fz] at h
    obtain ⟨a, vs, rfl, hs, hl⟩ := h
    exact .lst hs (FzL.dp (by rwa [noD] at c) hl)
  | .tuple _, _, c, h => by
    simp only [Fz] at h
    obtain ⟨a, vs, rfl, hs, hl⟩ := h
    exact .tup hs (FzL.dp (by rwa [noD] at c) hl)
  | .dict _, _, c, _ => by rw [noD] at c; cases c
theorem FzL.dp {K : PySem.W.Frag} {F : Hp} : ∀ {ds : List D} {vs : List V}, noDs ds = true → FzL K F ds vs → DpAll K F vs ds
  | [], _, _, h => by simp only [FzL] at h; subst h; exact .nil
  | _ :: _, _, c, h => by
    simp only [FzL] at h
    obtain ⟨v, r, rfl, h1, h2⟩ := h
    rw [noDs, Bool.and_eq_true] at c
    exact .cons (Fz.dp c.1 h1) (FzL.dp c.2 h2)
end
theorem FzL.length {K : PySem.W.Frag} {F : Hp} : ∀ {ds : List D} {vs : List V}, FzL K F ds vs → ds.length = vs.length
  | [], _, h => by simp only [FzL] at h; subst h; rfl
  | _ :: _, _, h => by
    simp only [FzL] at h
    obtain ⟨v, r, rfl, h1, h2⟩ := h
    rw [List.length_cons, List.length_cons, FzL.length h2]
theorem FzL.append {K : PySem.W.Frag} {F : Hp} : ∀ {ds es : List D} {vs ws : List V}, FzL K F ds vs → FzL K F es ws → FzL K F (ds ++ es) (vs ++ ws)
  | [], _, _, _, h, h' => by simp only [FzL] at h; subst h; exact h'
  | _ :: _, _, _, _, h, h' => by
    simp only [FzL] at h
    obtain ⟨v, r, rfl, h1, h2⟩ := h
    exact ⟨v, _, rfl, h1, FzL.append h2 h'⟩
theorem FzL.get {K : PySem.W.Frag} {F : Hp} : ∀ {ds : List D} {vs : List V} {i : Nat} {d : D}, FzL K F ds vs → ds[i]? = some d → ∃ v, vs[i]? = some v ∧ Fz K F d v
  | [], _, _, _, _, e => by simp at e
  | _ :: _, _, 0, _, h, e => by
    simp only [FzL] at h
    obtain ⟨v, r, rfl, h1, h2⟩ := h
    simp at e; subst e
    exact ⟨v, rfl, h1⟩
  | _ :: _, _, i + 1, _, h, e => by
    simp only [FzL] at h
    obtain ⟨v, r, rfl, h1, h2⟩ := h
    obtain ⟨v', e', h'⟩ := FzL.get (i := i) h2 (by simpa using e)
    exact ⟨v', by simpa using e', h'⟩
theorem FzL.getV {K : PySem.W.Frag} {F : Hp} {ds : List D} {vs : List V} {i : Nat} {v : V} (h : FzL K F ds vs) (e : vs[i]? = some v) : ∃ d, ds[i]? = some d ∧ Fz K F d v := by
  have hl := h.length
  have hi : i < ds.length := by rw [hl]; exact (List.getElem?_eq_some_iff.mp e).1
  obtain ⟨w, e2, f⟩ := h.get (List.getElem?_eq_getElem hi)
  rw [e] at e2; cases e2
  exact ⟨_, List.getElem?_eq_getElem hi, f⟩
theorem FzL.take {K : PySem.W.Frag} {F : Hp} : ∀ {ds : List D} {vs : List V} (n : Nat), FzL K F ds vs → FzL K F (ds.take n) (vs.take n)
  | _, _, 0, _ => by simp [FzL]
  | [], _, _ + 1, h => by simp only [FzL] at h; subst h; simp [FzL]
  | _ :: _, _, n + 1, h => by
    simp only [FzL] at h
    obtain ⟨v, r, rfl, h1, h2⟩ := h
    exact ⟨v, _, rfl, h1, FzL.take n h2⟩
theorem FzL.drop {K : PySem.W.Frag} {F : Hp} : ∀ {ds : List D} {vs : List V} (n : Nat), FzL K F ds vs → FzL K F (ds.drop n) (vs.drop n)
  | _, _, 0, h => h
  | [], _, _ + 1, h => by simp only [FzL] at h; subst h; simp [FzL]
  | _ :: _, _, n + 1, h => by
    simp only [FzL] at h
    obtain ⟨v, r, rfl, h1, h2⟩ := h
    exact FzL.drop n h2
theorem FzL.set {K : PySem.W.Frag} {F : Hp} {d : D} {v : V} (hd : Fz K F d v) : ∀ {ds : List D} {vs : List V} (n : Nat), FzL K F ds vs → FzL K F (ds.set n d) (vs.set n v)
  | [], _, _, h => by simp only [FzL] at h; subst h; simp [FzL]
  | _ :: _, _, 0, h => by
    simp only [FzL] at h
    obtain ⟨v, r, rfl, h1, h2⟩ := h
    exact ⟨_, _, rfl, hd, h2⟩
  | _ :: _, _, n + 1, h => by
    simp only [FzL] at h
    obtain ⟨v, r, rfl, h1, h2⟩ := h
    exact ⟨_, _, rfl, h1, FzL.set hd n h2⟩

/-- a list's items, each under R, with their footprints -/
inductive Each (R : V → D → List Addr → Prop) : List V → List D → List Addr → Prop
  | nil : Each R [] [] []
  | cons {v d as vs ds bs} : R v d as → Each R vs ds bs → Each R (v :: vs) (d :: ds) (as ++ bs)

mutual
/-- v bears d, owned as t tells; as: the objects that are owned -/
def Rp (K : PySem.W.Frag) (F H : Hp) : Ty → V → D → List Addr → Prop
  | .bot, _, _, as => as = []
  | .pk _, _, _, as => as = []
  | .mv _ t, v, d, as => Rp K F H t v d as
  | .fz, v, d, as => Fz K F d v ∧ as = []
  | .ow, v, .list ds, as => ∃ a vs, v = .ref a ∧ H a = some (.lst vs) ∧ FzL K F ds vs ∧ as = [a]
  | .ow, v, .dict kvs, as => ∃ a xs, v = .ref a ∧ H a = some (.dK xs) ∧ FzD K F kvs xs ∧ as = [a]
  | .ow, v, d, as => Fz K F d v ∧ as = []
  | .ol t, v, d, as => ∃ a vs ds bs, v = .ref a ∧ d = .list ds ∧ H a = some (.lst vs) ∧ Each (Rp K F H t) vs ds bs ∧ as = a :: bs
  | .tp ts, v, d, as => ∃ a vs ds, v = .ref a ∧ d = .tuple ds ∧ SqT K F a vs ∧ RpT K F H ts vs ds as
  | .xh, v, d, as => ∃ a : Nat, v = .ref a ∧ d = .int a ∧ as = []
def RpT (K : PySem.W.Frag) (F H : Hp) : List Ty → List V → List D → List Addr → Prop
  | [], vs, ds, as => vs = [] ∧ ds = [] ∧ as = []
  | t :: ts, vs, ds, as => ∃ v r d e bs cs, vs = v :: r ∧ ds = d :: e ∧ Rp K F H t v d bs ∧ RpT K F H ts r e cs ∧ as = bs ++ cs
end

theorem Each.mono {R R' : V → D → List Addr → Prop} {vs ds as} (h : Each R vs ds as) : (∀ v d bs, (∀ a ∈ bs, a ∈ as) → R v d bs → R' v d bs) → Each R' vs ds as := by
  induction h with
  | nil => intro _; exact .nil
  | cons h1 _ ih =>
    intro f
    exact .cons (f _ _ _ (fun a ha => List.mem_append_left _ ha) h1) (ih fun v d bs hb => f v d bs fun a ha => List.mem_append_right _ (hb a ha))
theorem Each.length {R : V → D → List Addr → Prop} {vs ds as} (h : Each R vs ds as) : vs.length = ds.length := by
  induction h with
  | nil => rfl
  | cons _ _ ih => simp [ih]

mutual
theorem Rp.mono {K : PySem.W.Frag} {F F' H H' : Hp} (s : Sub F F') : ∀ (t : Ty) {v : V} {d : D} {as : List Addr}, (∀ a ∈ as, H' a = H a) → Rp K F H t v d as → Rp K F' H' t v d as
  | .bot, _, _, _, _, h => h
  | .pk _, _, _, _, _, h => h
  | .mv _ t, _, _, _, k, h => by
    simp only [Rp] at h ⊢
    exact Rp.mono s t k h
  | .fz, _, _, _, _, h => by
    simp only [Rp] at h ⊢
    exact ⟨h.1.mono s, h.2⟩
  | .ow, v, d, as, k, h => by
    cases d with
    | list ds =>
      simp only [Rp] at h ⊢
      obtain ⟨a, vs, e, e1, h1, e2⟩ := h
      exact ⟨a, vs, e, by rw [k a (by rw [e2]; simp)]; exact e1, h1.mono s, e2⟩
    | dict kvs =>
      simp only [Rp] at h ⊢
      obtain ⟨a, vs, e, e1, h1, e2⟩ := h
      exact ⟨a, vs, e, by rw [k a (by rw [e2]; simp)]; exact e1, h1.mono s, e2⟩
    | _ =>
      simp only [Rp] at h ⊢
      exact ⟨h.1.mono s, h.2⟩
  | .ol t, v, d, as, k, h => by
    simp only [Rp] at h ⊢
    obtain ⟨a, vs, ds, bs, e, e', e1, h1, e2⟩ := h
    subst e2
    exact ⟨a, vs, ds, bs, e, e', by rw [k a (by simp)]; exact e1, h1.mono fun v d cs hc r => Rp.mono s t (fun b hb => k b (List.mem_cons_of_mem _ (hc b hb))) r, rfl⟩
  | .tp ts, v, d, as, k, h => by
    simp only [Rp] at h ⊢
    obtain ⟨a, vs, ds, e, e', e1, h1⟩ := h
    exact ⟨a, vs, ds, e, e', s.sqt e1, RpT.mono s ts k h1⟩
  | .xh, _, _, _, _, h => by
    simp only [Rp] at h ⊢
    exact h
theorem RpT.mono {K : PySem.W.Frag} {F F' H H' : Hp} (s : Sub F F') : ∀ (ts : List Ty) {vs : List V} {ds : List D} {as : List Addr}, (∀ a ∈ as, H' a = H a) → RpT K F H ts vs ds as → RpT K F' H' ts vs ds as
  | [], _, _, _, _, h => h
  | t :: ts, _, _, _, k, h => by
    simp only [RpT] at h ⊢
    obtain ⟨v, r, d, e, bs, cs, e1, e2, h1, h2, rfl⟩ := h
    exact ⟨v, r, d, e, bs, cs, e1, e2, Rp.mono s t (fun a ha => k a (List.mem_append_left _ ha)) h1, RpT.mono s ts (fun a ha => k a (List.mem_append_right _ ha)) h2, rfl⟩
end

mutual
theorem Rp.there {K : PySem.W.Frag} {F H : Hp} : ∀ (t : Ty) {v : V} {d : D} {as : List Addr}, Rp K F H t v d as → ∀ a ∈ as, H a ≠ none
  | .bot, _, _, _, h, a, ha => by simp only [Rp] at h; subst h; simp at ha
  | .pk _, _, _, _, h, a, ha => by simp only [Rp] at h; subst h; simp at ha
  | .mv _ t, _, _, _, h, a, ha => by simp only [Rp] at h; exact Rp.there t h a ha
  | .fz, _, _, _, h, a, ha => by simp only [Rp] at h; rw [h.2] at ha; simp at ha
  | .ow, v, d, as, h, b, hb => by
    cases d with
    | list ds =>
      simp only [Rp] at h
      obtain ⟨a, vs, e, e1, h1, e2⟩ := h
      subst e2
      obtain rfl : b = a := by simpa using hb
      rw [e1]; simp
    | dict kvs =>
      simp only [Rp] at h
      obtain ⟨a, vs, e, e1, h1, e2⟩ := h
      subst e2
      obtain rfl : b = a := by simpa using hb
      rw [e1]; simp
    | _ => simp only [Rp] at h; rw [h.2] at hb; simp at hb
  | .ol t, v, d, as, h, b, hb => by
    simp only [Rp] at h
    obtain ⟨a, vs, ds, bs, e, e', e1, h1, e2⟩ := h
    subst e2
    rcases List.mem_cons.mp hb with rfl | hb
    · rw [e1]; simp
    · have : ∀ {vs ds bs}, Each (Rp K F H t) vs ds bs → ∀ b ∈ bs, H b ≠ none := by
        intro vs ds bs h
        induction h with
        | nil => intro b hb; simp at hb
        | cons q _ ih =>
          intro b hb
          rcases List.mem_append.mp hb with z | z
          · exact Rp.there t q b z
          · exact ih b z
      exact this h1 b hb
  | .tp ts, v, d, as, h, b, hb => by
    simp only [Rp] at h
    obtain ⟨a, vs, ds, e, e', e1, h1⟩ := h
    exact RpT.there ts h1 b hb
  | .xh, _, _, _, h, b, hb => by
    simp only [Rp] at h
    obtain ⟨_, _, _, e⟩ := h
    rw [e] at hb; simp at hb
theorem RpT.there {K : PySem.W.Frag} {F H : Hp} : ∀ (ts : List Ty) {vs : List V} {ds : List D} {as : List Addr}, RpT K F H ts vs ds as → ∀ a ∈ as, H a ≠ none
  | [], _, _, _, h, a, ha => by simp only [RpT] at h; rw [h.2.2] at ha; simp at ha
  | t :: ts, _, _, _, h, b, hb => by
    simp only [RpT] at h
    obtain ⟨v, r, d, e, bs, cs, e1, e2, h1, h2, rfl⟩ := h
    rcases List.mem_append.mp hb with z | z
    · exact Rp.there t h1 b z
    · exact RpT.there ts h2 b z
end

/-! ### slots -/
def RpO (K : PySem.W.Frag) (F H : Hp) (t : Ty) (o : Option V) (d : D) (as : List Addr) : Prop := match t with
  | .bot => as = []
  | t => ∃ v, o = some v ∧ Rp K F H t v d as
inductive RpS (K : PySem.W.Frag) (F H : Hp) : List Ty → St → List D → List Addr → Prop
  | nil : RpS K F H [] [] [] []
  | cons {t o d as Γ σ ρ bs} : RpO K F H t o d as → RpS K F H Γ σ ρ bs → RpS K F H (t :: Γ) (o :: σ) (d :: ρ) (as ++ bs)

theorem RpO.mono {K : PySem.W.Frag} {F F' H H' : Hp} (s : Sub F F') {t : Ty} {o : Option V} {d : D} {as : List Addr} (k : ∀ a ∈ as, H' a = H a) (h : RpO K F H t o d as) : RpO K F' H' t o d as := by
  cases t <;> first
    | exact h
    | (obtain ⟨v, e, h⟩ := h; exact ⟨v, e, Rp.mono s _ k h⟩)
theorem RpO.there {K : PySem.W.Frag} {F H : Hp} {t : Ty} {o : Option V} {d : D} {as : List Addr} (h : RpO K F H t o d as) : ∀ a ∈ as, H a ≠ none := by
  cases t <;> first
    | (intro a ha; have h' : as = [] := h; rw [h'] at ha; simp at ha)
    | (obtain ⟨v, e, h⟩ := h; exact Rp.there _ h)
theorem RpS.mono {K : PySem.W.Frag} {F F' H H' : Hp} (s : Sub F F') {Γ : List Ty} {σ : St} {ρ : List D} {as : List Addr} (h : RpS K F H Γ σ ρ as) : (∀ a ∈ as, H' a = H a) → RpS K F' H' Γ σ ρ as := by
  induction h with
  | nil => intro _; exact .nil
  | cons h1 _ ih => intro k; exact .cons (h1.mono s fun a ha => k a (List.mem_append_left _ ha)) (ih fun a ha => k a (List.mem_append_right _ ha))
theorem RpS.there {K : PySem.W.Frag} {F H : Hp} {Γ : List Ty} {σ : St} {ρ : List D} {as : List Addr} (h : RpS K F H Γ σ ρ as) : ∀ a ∈ as, H a ≠ none := by
  induction h with
  | nil => intro a ha; simp at ha
  | cons h1 _ ih =>
    intro a ha
    rcases List.mem_append.mp ha with z | z
    · exact h1.there a z
    · exact ih a z
theorem RpS.len {K : PySem.W.Frag} {F H : Hp} {Γ : List Ty} {σ : St} {ρ : List D} {as : List Addr} (h : RpS K F H Γ σ ρ as) : Γ.length = σ.length ∧ Γ.length = ρ.length := by
  induction h with
  | nil => exact ⟨rfl, rfl⟩
  | cons _ _ ih => simp only [List.length_cons]; omega

/-- one slot taken out, and what may come in its place -/
theorem RpS.focus {K : PySem.W.Frag} {F H : Hp} {Γ : List Ty} {σ : St} {ρ : List D} {as : List Addr} (h : RpS K F H Γ σ ρ as) : ∀ {i : Nat} {t : Ty}, Γ[i]? = some t →
    ∃ o d bs rest, σ[i]? = some o ∧ ρ[i]? = some d ∧ RpO K F H t o d bs ∧ as.Perm (bs ++ rest) ∧
      ∀ (F' H' : Hp) (t' : Ty) (o' : Option V) (d' : D) (bs' : List Addr), Sub F F' → (∀ a ∈ rest, H' a = H a) → RpO K F' H' t' o' d' bs' →
        ∃ as', RpS K F' H' (Γ.set i t') (σ.set i o') (ρ.set i d') as' ∧ as'.Perm (bs' ++ rest) := by
  induction h with
  | nil => intro i t e; simp at e
  | @cons t0 o d as Γ σ ρ bs h1 h2 ih =>
    intro i t e
    cases i with
    | zero =>
      simp at e; subst e
      refine ⟨o, d, as, bs, rfl, rfl, h1, .refl _, fun F' H' t' o' d' bs' s k h' => ⟨bs' ++ bs, .cons h' (h2.mono s k), .refl _⟩⟩
    | succ i =>
      obtain ⟨o2, d2, cs, rest, e1, e2, h3, p, f⟩ := ih (i := i) (t := t) (by simpa using e)
      refine ⟨o2, d2, cs, as ++ rest, by simpa using e1, by simpa using e2, h3, ?_, fun F' H' t' o' d' bs' s k h' => ?_⟩
      · refine (List.Perm.append_left as p).trans ?_
        rw [← List.append_assoc, ← List.append_assoc]
        exact List.Perm.append_right rest List.perm_append_comm
      · obtain ⟨as', r, p'⟩ := f F' H' t' o' d' bs' s (fun a ha => k a (List.mem_append_right _ ha)) h'
        refine ⟨as ++ as', .cons (h1.mono s fun a ha => k a (List.mem_append_left _ ha)) r, ?_⟩
        refine (List.Perm.append_left as p').trans ?_
        rw [← List.append_assoc, ← List.append_assoc]
        exact List.Perm.append_right rest List.perm_append_comm

/-- all stands well: F is frozen, S is others', bs is held, the slots are as Γ tells -/
structure Wd (K : PySem.W.Frag) (F H : Hp) (S : AS) (Γ : List Ty) (σ : St) (ρ : List D) (bs : List Addr) : Prop where
  sub : Sub F H
  out : ∀ a, S a → F a = none ∧ H a ≠ none
  ex : ∃ as, RpS K F H Γ σ ρ as ∧ (bs ++ as).Nodup ∧ ∀ a ∈ bs ++ as, F a = none ∧ ¬ S a ∧ H a ≠ none
/-- what a step may do -/
structure Gr (S : AS) (F H F' H' : Hp) : Prop where
  fz : Sub F F'
  eq : ∀ a, S a → H' a = H a
theorem Gr.refl {S : AS} {F H : Hp} : Gr S F H F H := ⟨.refl _, fun _ _ => rfl⟩
theorem Gr.trans {S S' : AS} {F H F1 H1 F2 H2 : Hp} (a : Gr S F H F1 H1) (b : Gr S' F1 H1 F2 H2) (hs : ∀ x, S x → S' x) : Gr S F H F2 H2 :=
  ⟨a.fz.trans b.fz, fun x hx => (b.eq x (hs x hx)).trans (a.eq x hx)⟩

section
variable {K : PySem.W.Frag} {F H : Hp} {S : AS} {Γ : List Ty} {σ : St} {ρ : List D} {bs cs : List Addr}
theorem Wd.len (w : Wd K F H S Γ σ ρ bs) : Γ.length = σ.length ∧ Γ.length = ρ.length := let ⟨_, h, _⟩ := w.ex; h.len
theorem Wd.perm (w : Wd K F H S Γ σ ρ bs) (p : bs.Perm cs) : Wd K F H S Γ σ ρ cs := by
  obtain ⟨as, h, nd, f⟩ := w.ex
  exact ⟨w.sub, w.out, as, h, (p.append_right as).nodup_iff.mp nd, fun a ha => f a ((p.append_right as).mem_iff.mpr ha)⟩
/-- some of what is held is dropped -/
theorem Wd.drop (w : Wd K F H S Γ σ ρ (bs ++ cs)) : Wd K F H S Γ σ ρ cs := by
  obtain ⟨as, h, nd, f⟩ := w.ex
  rw [List.append_assoc] at nd f
  exact ⟨w.sub, w.out, as, h, (List.nodup_append.mp nd).2.1, fun a ha => f a (List.mem_append_right _ ha)⟩
theorem Wd.drop0 (w : Wd K F H S Γ σ ρ bs) : Wd K F H S Γ σ ρ [] := by
  have w' : Wd K F H S Γ σ ρ (bs ++ []) := by rw [List.append_nil]; exact w
  exact w'.drop
/-- held things put among the others' -/
theorem Wd.lend (w : Wd K F H S Γ σ ρ (bs ++ cs)) : Wd K F H (fun a => S a ∨ a ∈ bs) Γ σ ρ cs := by
  obtain ⟨as, h, nd, f⟩ := w.ex
  rw [List.append_assoc] at nd f
  obtain ⟨n1, n2, n3⟩ := List.nodup_append.mp nd
  refine ⟨w.sub, fun a ha => ?_, as, h, n2, fun a ha => ?_⟩
  · rcases ha with z | z
    · exact w.out a z
    · obtain ⟨q1, _, q3⟩ := f a (List.mem_append_left _ z)
      exact ⟨q1, q3⟩
  · obtain ⟨q1, q2, q3⟩ := f a (List.mem_append_right _ ha)
    exact ⟨q1, fun z => z.elim q2 fun z => n3 a z a ha rfl, q3⟩
theorem Wd.lend0 (w : Wd K F H S Γ σ ρ bs) : Wd K F H (fun a => S a ∨ a ∈ bs) Γ σ ρ [] := by
  have w' : Wd K F H S Γ σ ρ (bs ++ []) := by rw [List.append_nil]; exact w
  exact w'.lend
/-- .. and taken back -/
theorem Wd.back (w : Wd K F H (fun a => S a ∨ a ∈ bs) Γ σ ρ cs) (nd : bs.Nodup) (ns : ∀ a ∈ bs, ¬ S a) : Wd K F H S Γ σ ρ (bs ++ cs) := by
  obtain ⟨as, h, n, f⟩ := w.ex
  refine ⟨w.sub, fun a ha => w.out a (.inl ha), as, h, ?_, fun a ha => ?_⟩
  · rw [List.append_assoc]
    refine List.nodup_append.mpr ⟨nd, n, fun a ha b hb e => ?_⟩
    subst e
    exact (f a hb).2.1 (.inr ha)
  · rw [List.append_assoc] at ha
    rcases List.mem_append.mp ha with z | z
    · exact ⟨(w.out a (.inr z)).1, ns a z, (w.out a (.inr z)).2⟩
    · obtain ⟨q1, q2, q3⟩ := f a z
      exact ⟨q1, fun z => q2 (.inl z), q3⟩
theorem Wd.held (w : Wd K F H S Γ σ ρ bs) : bs.Nodup ∧ ∀ a ∈ bs, ¬ S a := by
  obtain ⟨as, h, nd, f⟩ := w.ex
  exact ⟨(List.nodup_append.mp nd).1, fun a ha => (f a (List.mem_append_left _ ha)).2.1⟩
theorem Wd.heldF (w : Wd K F H S Γ σ ρ bs) : ∀ a ∈ bs, F a = none := by
  obtain ⟨as, h, nd, f⟩ := w.ex
  exact fun a ha => (f a (List.mem_append_left _ ha)).1
/-- a new object, owned -/
theorem Wd.alloc {p : Addr} {o : HO} (w : Wd K F H S Γ σ ρ bs) (np : H p = none) : Wd K F (upd H p o) S Γ σ ρ (p :: bs) := by
  obtain ⟨as, h, nd, f⟩ := w.ex
  have ne : ∀ a, H a ≠ none → a ≠ p := fun a ha e => ha (e ▸ np)
  have fp : F p = none := by
    cases q : F p with
    | none => rfl
    | some u => exact absurd np (w.sub.ne q)
  have pn : p ∉ bs ++ as := fun hm => (f p hm).2.2 np
  refine ⟨fun a u e => by rw [upd_ne (ne a (w.sub.ne e))]; exact w.sub _ _ e, fun a ha => ?_, as, h.mono (.refl _) fun a ha => upd_ne (ne a (h.there a ha)), ?_, fun a ha => ?_⟩
  · obtain ⟨q1, q2⟩ := w.out a ha
    exact ⟨q1, by rw [upd_ne (ne a q2)]; exact q2⟩
  · exact List.nodup_cons.mpr ⟨pn, nd⟩
  · rcases List.mem_cons.mp ha with rfl | hm
    · exact ⟨fp, fun z => (w.out _ z).2 np, by rw [upd_same]; simp⟩
    · obtain ⟨q1, q2, q3⟩ := f a hm
      exact ⟨q1, q2, by rw [upd_ne (ne a q3)]; exact q3⟩
/-- a new object, frozen -/
theorem Wd.allocF {p : Addr} {o : HO} (w : Wd K F H S Γ σ ρ bs) (np : H p = none) : Wd K (upd F p o) (upd H p o) S Γ σ ρ bs ∧ Sub F (upd F p o) := by
  obtain ⟨as, h, nd, f⟩ := w.ex
  have ne : ∀ a, H a ≠ none → a ≠ p := fun a ha e => ha (e ▸ np)
  have fne : ∀ a u, F a = some u → a ≠ p := fun a u e => ne a (w.sub.ne e)
  have s : Sub F (upd F p o) := .same fun a u e => by rw [upd_ne (fne a u e)]; exact e
  refine ⟨⟨fun a u e => ?_, fun a ha => ?_, as, h.mono s fun a ha => upd_ne (ne a (h.there a ha)), nd, fun a ha => ?_⟩, s⟩
  · by_cases q : a = p
    · subst q; rw [upd_same] at e ⊢; exact ⟨u, e, .inl rfl⟩
    · rw [upd_ne q] at e ⊢; exact w.sub _ _ e
  · obtain ⟨q1, q2⟩ := w.out a ha
    rw [upd_ne (ne a q2), upd_ne (ne a q2)]
    exact ⟨q1, q2⟩
  · obtain ⟨q1, q2, q3⟩ := f a ha
    rw [upd_ne (ne a q3), upd_ne (ne a q3)]
    exact ⟨q1, q2, q3⟩
/-- what is held is frozen -/
theorem Wd.freeze {p : Addr} (w : Wd K F H S Γ σ ρ (p :: bs)) : Wd K (fun b => if b = p then H p else F b) H S Γ σ ρ bs ∧ Sub F (fun b => if b = p then H p else F b) := by
  obtain ⟨as, h, nd, f⟩ := w.ex
  obtain ⟨p1, p2, p3⟩ := f p (by simp)
  have ne : ∀ a ∈ bs ++ as, a ≠ p := fun a ha e => by
    subst e
    exact (List.nodup_cons.mp nd).1 ha
  have s : Sub F (fun b => if b = p then H p else F b) := .same fun a u e => by
    have q : a ≠ p := fun z => by rw [z, p1] at e; cases e
    simp only [if_neg q]; exact e
  refine ⟨⟨fun a u e => ?_, fun a ha => ?_, as, h.mono s fun a ha => rfl, (List.nodup_cons.mp nd).2, fun a ha => ?_⟩, s⟩
  · by_cases q : a = p
    · subst q; simp only [if_true] at e; exact ⟨u, e, .inl rfl⟩
    · simp only [if_neg q] at e; exact w.sub _ _ e
  · have q : a ≠ p := fun z => p2 (z ▸ ha)
    simp only [if_neg q]
    exact w.out a ha
  · simp only [if_neg (ne a ha)]
    exact f a (List.mem_cons_of_mem _ ha)
end
end T2

namespace T2
open L2 PySem PySem.Spec PyProof.Rows

/-! ### what is told of a step: plain meanings -/
structure Exc where
  name : Str
  num : Option Int := none
abbrev DE := Exc → List D → Prop
abbrev TD := List D → (D → List D → Prop) → DE → Prop
abbrev TB := List D → (Bool → List D → Prop) → DE → Prop
abbrev TL := List D → (List D → List D → Prop) → DE → Prop

def RpV (K : PySem.W.Frag) (F H : Hp) (σ : St) (τ : Ty) (v : V) (d : D) (as : List Addr) : Prop := match τ with
  | .pk i => σ[i]? = some (some v) ∧ as = []
  | .mv i t => σ[i]? = some (some v) ∧ Rp K F H t v d as
  | t => Rp K F H t v d as
theorem RpV.mono {K : PySem.W.Frag} {F F' H H' : Hp} (s : Sub F F') {σ : St} {t : Ty} {v : V} {d : D} {as : List Addr} (k : ∀ a ∈ as, H' a = H a) (h : RpV K F H σ t v d as) : RpV K F' H' σ t v d as := by
  cases t <;> first
    | exact h
    | exact ⟨h.1, Rp.mono s _ k h.2⟩
    | exact Rp.mono s _ k h
def XRel (mg : Str → Option Value) (H : Hp) (x : Exc) (cls : Value) (dx : Option Addr) : Prop :=
  mg x.name = some cls ∧ match x.num with
    | none => dx = none
    | some n => ∃ d, dx = some d ∧ H d = some (.xd [("number", .int n)])

theorem PE.imp {X : Cx} {e : Expr} {t t' : TE} (p : PE X e t) (h : ∀ σ H Q, t' σ H Q → t σ H Q) : PE X e t' := ⟨fun pins s σ H Q I q => p.run pins s σ H Q I (h σ H Q q)⟩
theorem PT.imp {X : Cx} {e : Expr} {t t' : TT} (p : PT X e t) (h : ∀ σ H Q, t' σ H Q → t σ H Q) : PT X e t' := ⟨fun pins s σ H Q I q => p.run pins s σ H Q I (h σ H Q q)⟩
theorem PW.imp {X : Cx} {e : Expr} {t t' : TT} (p : PW X e t) (h : ∀ σ H Q, t' σ H Q → t σ H Q) : PW X e t' := ⟨fun wh pins s σ H Q I q => p.run wh pins s σ H Q I (h σ H Q q)⟩
theorem PA.imp {X : Cx} {es : List Expr} {t t' : TA} (p : PA X es t) (h : ∀ σ H Q, t' σ H Q → t σ H Q) : PA X es t' := ⟨fun pos pins s σ H Q I q => p.run pos pins s σ H Q I (h σ H Q q)⟩
theorem PS.imp {X : Cx} {st : Stmt} {t t' : TS} (p : PS X st t) (h : ∀ D σ H, t' D σ H → t D σ H) : PS X st t' := ⟨fun pins s σ H D I q => p.run pins s σ H D I (h D σ H q)⟩
theorem PSs.imp {X : Cx} {st : List Stmt} {t t' : TS} (p : PSs X st t) (h : ∀ D σ H, t' D σ H → t D σ H) : PSs X st t' := ⟨fun pins s σ H D I q => p.run pins s σ H D I (h D σ H q)⟩

/-- the readings -/
def lft {α : Type} (X : Cx) (W : WX) (Γx Γ : List Ty) (t : List D → (α → List D → Prop) → DE → Prop) (σ : St) (H : Hp) (post : Hp → Hp → AS → α → List D → Prop) : Prop :=
  ∃ F S ρ Qd Ed, Wd X.K F H S Γ σ ρ [] ∧ t ρ Qd Ed ∧ (∀ d ρ', Qd d ρ' → post F H S d ρ') ∧
    (∀ x ρ', Ed x ρ' → ∀ F' H' cls dx, Gr S F H F' H' → XRel X.mg H' x cls dx → Wd X.K F' H' S Γx σ ρ' [] → W cls dx σ H')
def liftE (X : Cx) (W : WX) (Γx Γ Γ' : List Ty) (τ : Ty) (t : TD) : TE := fun σ H Q => lft X W Γx Γ t σ H fun F H S d ρ' =>
  ∀ F' H' v bs, Gr S F H F' H' → RpV X.K F' H' σ τ v d bs → Wd X.K F' H' S Γ' σ ρ' bs → Q v H'
def liftT (X : Cx) (W : WX) (Γx Γ Γ' : List Ty) (t : TB) : TT := fun σ H Q => lft X W Γx Γ t σ H fun F H S b ρ' =>
  ∀ F' H', Gr S F H F' H' → Wd X.K F' H' S Γ' σ ρ' [] → Q b H'
structure EOk (X : Cx) (W : WX) (Γx Γ : List Ty) (e : Expr) (Γ' : List Ty) (τ : Ty) (t : TD) : Prop where
  pe : PE X e (liftE X W Γx Γ Γ' τ t)
structure TOk (X : Cx) (W : WX) (Γx Γ : List Ty) (e : Expr) (Γ' : List Ty) (t : TB) : Prop where
  pt : PT X e (liftT X W Γx Γ Γ' t)

theorem Wd.shrink {K : PySem.W.Frag} {F H : Hp} {S S' : AS} {Γ : List Ty} {σ : St} {ρ : List D} {bs : List Addr} (w : Wd K F H S' Γ σ ρ bs) (h : ∀ a, S a → S' a) : Wd K F H S Γ σ ρ bs := by
  obtain ⟨as, r, nd, f⟩ := w.ex
  exact ⟨w.sub, fun a ha => w.out a (h a ha), as, r, nd, fun a ha => ⟨(f a ha).1, fun z => (f a ha).2.1 (h a z), (f a ha).2.2⟩⟩
theorem Gr.shrink {F H F' H' : Hp} {S S' : AS} (g : Gr S' F H F' H') (h : ∀ a, S a → S' a) : Gr S F H F' H' := ⟨g.fz, fun a ha => g.eq a (h a ha)⟩

/-- a shallow view of what can be read: a list's or tuple's items are frozen -/
def Vw (K : PySem.W.Frag) (F H : Hp) (d : D) (v : V) : Prop := match d with
  | .list ds => ∃ a vs, v = .ref a ∧ SqL K H a vs ∧ FzL K F ds vs
  | .dict kvs => ∃ a xs, v = .ref a ∧ Rd H a (.dK xs) ∧ FzD K F kvs xs
  | d => Fz K F d v
theorem Fz.vw {K : PySem.W.Frag} {F H : Hp} (s : Sub F H) {d : D} {v : V} (h : Fz K F d v) : Vw K F H d v := by
  cases d with
  | list ds =>
    simp only [Fz] at h
    obtain ⟨a, vs, e, h1, h2⟩ := h
    exact ⟨a, vs, e, s.sql h1, h2⟩
  | dict kvs =>
    simp only [Fz] at h
    obtain ⟨a, xs, e, h1, h2⟩ := h
    exact ⟨a, xs, e, s.rd h1, h2⟩
  | _ => exact h
theorem Vw.dp {K : PySem.W.Frag} {F H : Hp} (s : Sub F H) {d : D} {v : V} (c : noD d = true) (h : Vw K F H d v) : Dp K H v d := by
  cases d with
  | list ds =>
    obtain ⟨a, vs, rfl, h1, h2⟩ := h
    exact .lst h1 (FzL.dp (by rwa [noD] at c) (h2.mono s))
  | dict kvs => rw [noD] at c; cases c
  | _ => exact Fz.dp c (Fz.mono s h)
theorem Rp.vw {K : PySem.W.Frag} {F H : Hp} (s : Sub F H) {d : D} {v : V} {as : List Addr} (h : Rp K F H .ow v d as) : Vw K F H d v := by
  cases d with
  | list ds =>
    simp only [Rp] at h
    obtain ⟨a, vs, e, h1, h2, _⟩ := h
    exact ⟨a, vs, e, .inl (.inl h1), h2⟩
  | dict kvs =>
    simp only [Rp] at h
    obtain ⟨a, xs, e, h1, h2, _⟩ := h
    exact ⟨a, xs, e, .inl h1, h2⟩
  | _ => simp only [Rp] at h; exact h.1
theorem Rp.vwf {K : PySem.W.Frag} {F H : Hp} (s : Sub F H) {d : D} {v : V} {as : List Addr} (h : Rp K F H .fz v d as) : Vw K F H d v := by
  simp only [Rp] at h
  exact h.1.vw s

def see (τ : Ty) (ρ : List D) (d : D) : D := match τ with
  | .pk i => ρ.getD i .none
  | _ => d
def opd (Γ : List Ty) (τ : Ty) : Bool := match τ with
  | .fz => true
  | .ow => true
  | .pk i => match Γ[i]? with
    | some .fz => true
    | some .ow => true
    | _ => false
  | _ => false
theorem Wd.view {K : PySem.W.Frag} {F H : Hp} {S : AS} {Γ : List Ty} {σ : St} {ρ : List D} {bs cs : List Addr} {τ : Ty} {v : V} {d : D} (w : Wd K F H S Γ σ ρ cs) (ho : opd Γ τ = true) (h : RpV K F H σ τ v d bs) :
    Vw K F H (see τ ρ d) v := by
  cases τ with
  | fz => exact Rp.vwf w.sub h
  | ow => exact Rp.vw w.sub h
  | pk i =>
    obtain ⟨as, r, _, _⟩ := w.ex
    simp only [opd] at ho
    cases q : Γ[i]? with
    | none => rw [q] at ho; cases ho
    | some t =>
      rw [q] at ho
      obtain ⟨o, d', b', rest, e1, e2, e3, _⟩ := r.focus q
      have ed : ρ.getD i .none = d' := by rw [List.getD_eq_getElem?_getD, e2]; rfl
      rw [h.1] at e1; cases e1
      show Vw K F H (ρ.getD i .none) v
      rw [ed]
      cases t with
      | fz => obtain ⟨v', e, e3⟩ := e3; cases e; exact Rp.vwf w.sub e3
      | ow => obtain ⟨v', e, e3⟩ := e3; cases e; exact Rp.vw w.sub e3
      | _ => cases ho
  | _ => cases ho

/-! ### leaves -/
section
variable {X : Cx} {W : WX} {Γx Γ Γ1 Γ2 Γ' : List Ty} {a b e : Expr} {τ τa τb : Ty} {ta tb t : TD} {pos : Pos}
def tK (d : D) : TD := fun ρ Q _ => Q d ρ
theorem e_const {te : TE} {v : V} {d : D} (h : PE X e (tC v)) (hd : ∀ K F, Fz K F d v) : EOk X W Γx Γ e Γ .fz (tK d) := by
  refine ⟨PE.imp h fun σ H Q ⟨F, S, ρ, Qd, Ed, w, q, p, _⟩ => ?_⟩
  exact p d ρ q F H v [] .refl ⟨hd _ _, rfl⟩ w
theorem e_int {i : Int} {j} : EOk X W Γx Γ (.Constant (.int i) j pos) Γ .fz (tK (.int i)) := e_const (te := tC (.int i)) pe_int fun _ _ => rfl
theorem e_bl {i : Bool} {j} : EOk X W Γx Γ (.Constant (.bool i) j pos) Γ .fz (tK (.bool i)) := e_const (te := tC (.bl i)) pe_bl fun _ _ => rfl
theorem e_str {i : Str} {j} : EOk X W Γx Γ (.Constant (.str i) j pos) Γ .fz (tK (.str i)) := e_const (te := tC (.str i)) pe_str fun _ _ => rfl
theorem e_non {j} : EOk X W Γx Γ (.Constant .none j pos) Γ .fz (tK .none) := e_const (te := tC .non) pe_non fun _ _ => rfl
theorem e_gint {x : Str} {i : Int} (hg : Gl X x) (hm : ∃ t, X.mg x = some (.int i t)) (hd : (x == ("__debug__" : Str)) = false := by decide) : EOk X W Γx Γ (.Name x pos) Γ .fz (tK (.int i)) := by
  obtain ⟨t, hm⟩ := hm
  exact e_const (te := tC (.int i)) (pe_glob (v := .int i) hg hm ⟨t, rfl⟩ hd) fun _ _ => rfl
theorem e_gstr {x : Str} {i : Str} (hg : Gl X x) (hm : ∃ t, X.mg x = some (.str i t)) (hd : (x == ("__debug__" : Str)) = false := by decide) : EOk X W Γx Γ (.Name x pos) Γ .fz (tK (.str i)) := by
  obtain ⟨t, hm⟩ := hm
  exact e_const (te := tC (.str i)) (pe_glob (v := .str i) hg hm ⟨t, rfl⟩ hd) fun _ _ => rfl

def rd (ρ : List D) (i : Nat) : D := ρ.getD i .none
def tVar (i : Nat) : TD := fun ρ Q _ => Q (rd ρ i) ρ
theorem e_var (i : Nat) {x : Str} (hN : X.N[i]? = some x := by rfl) (hv : Vis X.env.scope x := by first | exact Or.inl rfl | exact Or.inr (Or.inl rfl) | exact Or.inr (Or.inr rfl)) (ht : Γ[i]? = some .fz := by rfl)
    (hd : (x == ("__debug__" : Str)) = false := by decide) (hcd : (x == ("__classdict__" : Str)) = false := by decide) : EOk X W Γx Γ (.Name x pos) Γ .fz (tVar i) := by
  refine ⟨PE.imp (pe_var hN hv hd hcd) fun σ H Q ⟨F, S, ρ, Qd, Ed, w, q, p, _⟩ => ?_⟩
  obtain ⟨as, r, _, _⟩ := w.ex
  obtain ⟨o, d', b', rest, e1, e2, e3, _⟩ := r.focus ht
  obtain ⟨v, rfl, e3⟩ := e3
  have ed : rd ρ i = d' := by unfold rd; rw [List.getD_eq_getElem?_getD, e2]; rfl
  simp only [Rp] at e3
  exact ⟨v, e1, p _ ρ q F H v [] .refl ⟨by rw [ed]; exact e3.1, rfl⟩ w⟩
/-- a place: an owned variable that is looked at -/
def tPk (i : Nat) : TD := fun ρ Q _ => Q .none ρ
theorem e_pk (i : Nat) {x : Str} (hN : X.N[i]? = some x := by rfl) (hv : Vis X.env.scope x := by first | exact Or.inl rfl | exact Or.inr (Or.inl rfl) | exact Or.inr (Or.inr rfl)) (ht : opd Γ (.pk i) = true := by rfl)
    (hd : (x == ("__debug__" : Str)) = false := by decide) (hcd : (x == ("__classdict__" : Str)) = false := by decide) : EOk X W Γx Γ (.Name x pos) Γ (.pk i) (tPk i) := by
  refine ⟨PE.imp (pe_var hN hv hd hcd) fun σ H Q ⟨F, S, ρ, Qd, Ed, w, q, p, _⟩ => ?_⟩
  obtain ⟨as, r, _, _⟩ := w.ex
  cases qt : Γ[i]? with
  | none => simp [opd, qt] at ht
  | some t =>
    obtain ⟨o, d', b', rest, e1, e2, e3, _⟩ := r.focus qt
    have : ∃ v, o = some v := by
      cases t with
      | fz => exact ⟨_, e3.choose_spec.1⟩
      | ow => exact ⟨_, e3.choose_spec.1⟩
      | _ => simp [opd, qt] at ht
    obtain ⟨v, rfl⟩ := this
    exact ⟨v, e1, p .none ρ q F H v [] .refl ⟨e1, rfl⟩ w⟩

/-- taken out of its slot -/
theorem Wd.take {K : PySem.W.Frag} {F H : Hp} {S : AS} {σ : St} {ρ : List D} {bs : List Addr} {i : Nat} {t : Ty} (w : Wd K F H S Γ σ ρ bs) (ht : Γ[i]? = some t) (hb : t ≠ .bot) :
    ∃ v cs, σ[i]? = some (some v) ∧ Rp K F H t v (rd ρ i) cs ∧ Wd K F H S (Γ.set i .bot) σ ρ (cs ++ bs) := by
  obtain ⟨as, r, nd, f⟩ := w.ex
  obtain ⟨o, d', cs, rest, e1, e2, e3, pm, g⟩ := r.focus ht
  have : ∃ v, o = some v ∧ Rp K F H t v d' cs := by
    cases t <;> first
      | exact absurd rfl hb
      | exact e3
  obtain ⟨v, rfl, hr⟩ := this
  have ed : rd ρ i = d' := by unfold rd; rw [List.getD_eq_getElem?_getD, e2]; rfl
  obtain ⟨as', r', pm'⟩ := g F H .bot (some v) d' [] (.refl _) (fun _ _ => rfl) rfl
  have s1 : σ.set i (some v) = σ := by
    apply List.ext_getElem?
    intro j
    rw [List.getElem?_set]
    split
    · rename_i h; subst h
      split
      · exact e1.symm
      · rename_i h2
        rw [List.getElem?_eq_none (Nat.le_of_not_lt h2)]
    · rfl
  have s2 : ρ.set i d' = ρ := by
    apply List.ext_getElem?
    intro j
    rw [List.getElem?_set]
    split
    · rename_i h; subst h
      split
      · exact e2.symm
      · rename_i h2
        rw [List.getElem?_eq_none (Nat.le_of_not_lt h2)]
    · rfl
  rw [s1, s2] at r'
  have pm2 : (bs ++ as).Perm (cs ++ bs ++ as') := by
    refine (List.Perm.append_left bs pm).trans ?_
    refine List.Perm.trans ?_ (List.Perm.append_left (cs ++ bs) pm'.symm)
    simp only [List.nil_append]
    rw [← List.append_assoc]
    exact List.Perm.append_right rest List.perm_append_comm
  refine ⟨v, cs, e1, by rw [ed]; exact hr, w.sub, w.out, as', r', pm2.nodup_iff.mp nd, fun a ha => f a (pm2.mem_iff.mpr ha)⟩
/-- put into a slot that the frame may already hold (the slot's value stays) -/
theorem Wd.put {K : PySem.W.Frag} {F H : Hp} {S : AS} {σ : St} {ρ : List D} {bs cs : List Addr} {i : Nat} {t t0 : Ty} {v : V} {d : D} (w : Wd K F H S Γ σ ρ (cs ++ bs)) (ht : Γ[i]? = some t0) (h : Rp K F H t v d cs) :
    Wd K F H S (Γ.set i t) (σ.set i (some v)) (ρ.set i d) bs := by
  obtain ⟨as, r, nd, f⟩ := w.ex
  obtain ⟨o, d', ds, rest, e1, e2, e3, pm, g⟩ := r.focus ht
  have hn : RpO K F H t (some v) d cs ∨ t = .bot := by
    cases t <;> first
      | exact .inr rfl
      | exact .inl ⟨v, rfl, h⟩
  have key : ∃ as', RpS K F H (Γ.set i t) (σ.set i (some v)) (ρ.set i d) as' ∧ as'.Perm (cs ++ rest) := by
    rcases hn with hn | hn
    · exact g F H t (some v) d cs (.refl _) (fun _ _ => rfl) hn
    · subst hn
      have hc : cs = [] := by simp only [Rp] at h; exact h
      subst hc
      exact g F H .bot (some v) d [] (.refl _) (fun _ _ => rfl) rfl
  obtain ⟨as', r', pm'⟩ := key
  refine ⟨w.sub, w.out, as', r', ?_, fun a ha => ?_⟩
  · have p1 : (cs ++ bs ++ as).Perm (ds ++ (bs ++ as')) := by
      refine (List.Perm.append_left _ pm).trans ?_
      refine List.Perm.trans ?_ (List.Perm.append_left ds (List.Perm.append_left bs pm'.symm))
      calc (cs ++ bs ++ (ds ++ rest)).Perm (ds ++ (cs ++ bs) ++ rest) := by
            rw [← List.append_assoc]; exact List.Perm.append_right rest List.perm_append_comm
        _ |>.Perm (ds ++ (bs ++ cs) ++ rest) := List.Perm.append_right rest (List.Perm.append_left ds List.perm_append_comm)
        _ |>.Perm (ds ++ (bs ++ (cs ++ rest))) := by simp only [List.append_assoc]; exact .refl _
    exact (List.nodup_append.mp (p1.nodup_iff.mp nd)).2.1
  · refine f a ?_
    rcases List.mem_append.mp ha with z | z
    · exact List.mem_append_left _ (List.mem_append_right _ z)
    · have z' := pm'.mem_iff.mp z
      rcases List.mem_append.mp z' with z' | z'
      · exact List.mem_append_left _ (List.mem_append_left _ z')
      · exact List.mem_append_right _ (pm.mem_iff.mpr (List.mem_append_right _ z'))
/-- a moved variable -/
theorem e_mv (i : Nat) {x : Str} {t : Ty} (hN : X.N[i]? = some x := by rfl) (hv : Vis X.env.scope x := by first | exact Or.inl rfl | exact Or.inr (Or.inl rfl) | exact Or.inr (Or.inr rfl)) (ht : Γ[i]? = some t := by rfl) (hb : t ≠ .bot := by intro h; cases h)
    (hd : (x == ("__debug__" : Str)) = false := by decide) (hcd : (x == ("__classdict__" : Str)) = false := by decide) : EOk X W Γx Γ (.Name x pos) (Γ.set i .bot) (.mv i t) (tVar i) := by
  refine ⟨PE.imp (pe_var hN hv hd hcd) fun σ H Q ⟨F, S, ρ, Qd, Ed, w, q, p, _⟩ => ?_⟩
  obtain ⟨v, cs, e1, hr, w'⟩ := w.take ht hb
  rw [List.append_nil] at w'
  exact ⟨v, e1, p _ ρ q F H v cs .refl ⟨e1, hr⟩ w'⟩

/-! ### coercions -/
theorem e_unmv {i : Nat} (h : EOk X W Γx Γ e Γ' (.mv i τ) t) (hp : ∀ j u, τ ≠ .pk j ∧ τ ≠ .mv j u := by intro _ _; constructor <;> intro h <;> cases h) : EOk X W Γx Γ e Γ' τ t := by
  refine ⟨PE.imp h.pe fun σ H Q ⟨F, S, ρ, Qd, Ed, w, q, p, px⟩ => ⟨F, S, ρ, Qd, Ed, w, q, fun d ρ' hq F' H' v bs g r w' => p d ρ' hq F' H' v bs g ?_ w', px⟩⟩
  have r2 : Rp X.K F' H' τ v d bs := r.2
  cases τ <;> first
    | exact r2
    | exact absurd rfl (hp _ .bot).1
    | exact absurd rfl (hp 0 _).1
    | exact absurd rfl (hp _ _).2
theorem Wd.frz {K : PySem.W.Frag} {F H : Hp} {S : AS} {σ : St} {ρ : List D} {v : V} {d : D} {bs cs : List Addr} (w : Wd K F H S Γ σ ρ (cs ++ bs)) (h : Rp K F H .ow v d cs) : ∃ F', Sub F F' ∧ Wd K F' H S Γ σ ρ bs ∧ Fz K F' d v := by
  cases d with
  | list ds =>
    simp only [Rp] at h
    obtain ⟨a, vs, rfl, h1, h2, rfl⟩ := h
    obtain ⟨w', s⟩ := Wd.freeze (p := a) (bs := bs) w
    refine ⟨_, s, w', ?_⟩
    simp only [Fz]
    exact ⟨a, vs, rfl, .inl (.inl (by simp only [if_pos rfl]; exact h1)), h2.mono s⟩
  | dict kvs =>
    simp only [Rp] at h
    obtain ⟨a, vs, rfl, h1, h2, rfl⟩ := h
    obtain ⟨w', s⟩ := Wd.freeze (p := a) (bs := bs) w
    refine ⟨_, s, w', ?_⟩
    simp only [Fz]
    exact ⟨a, vs, rfl, .inl (by simp only [if_pos rfl]; exact h1), h2.mono s⟩
  | _ =>
    simp only [Rp] at h
    obtain ⟨h, rfl⟩ := h
    exact ⟨F, .refl _, w, h⟩
theorem e_frz (h : EOk X W Γx Γ e Γ' .ow t) : EOk X W Γx Γ e Γ' .fz t := by
  refine ⟨PE.imp h.pe fun σ H Q ⟨F, S, ρ, Qd, Ed, w, q, p, px⟩ => ⟨F, S, ρ, Qd, Ed, w, q, fun d ρ' hq F' H' v bs g r w' => ?_, px⟩⟩
  obtain ⟨F2, s, w2, z⟩ := Wd.frz (cs := bs) (bs := []) (by rw [List.append_nil]; exact w') r
  exact p d ρ' hq F2 H' v [] ⟨g.fz.trans s, g.eq⟩ ⟨z, rfl⟩ w2
/-- a frozen scalar is owned as well: where no list can be -/
def scal (d : D) : Prop := match d with
  | .list _ => False
  | .dict _ => False
  | _ => True

/-! ### two operands -/
def OpD (X : Cx) (f : Value → Value → Sem Value) (τ : Ty) (o : D → D → (D → Prop) → Prop) : Prop := ∃ r, OpR X f r ∧
  ∀ (F H : Hp) (S : AS) (Γ : List Ty) (σ : St) (ρ : List D) (bs : List Addr) (x y : D) (v u : V) (q : D → Prop) (Q : VK), Wd X.K F H S Γ σ ρ bs → Vw X.K F H x v → Vw X.K F H y u → o x y q →
    (∀ d, q d → ∀ F' H' z cs, Gr (fun a => S a ∨ a ∈ bs) F H F' H' → RpV X.K F' H' σ τ z d cs → Wd X.K F' H' S Γ σ ρ (cs ++ bs) → Q z H') → r v u H Q
def tBin (o : D → D → (D → Prop) → Prop) (τa τb : Ty) (ta tb : TD) : TD := fun ρ Q E => ta ρ (fun a ρ1 => tb ρ1 (fun b ρ2 => o (see τa ρ2 a) (see τb ρ2 b) fun d => Q d ρ2) E) E
/-- both operands, then what is done with them -/
theorem bin_post {F H : Hp} {S : AS} {σ : St} {R : V → V → Hp → Prop} {ρ : List D} {post : D → D → List D → Prop} {Ed : DE} (w : Wd X.K F H S Γ σ ρ [])
    (q : ta ρ (fun a ρ1 => tb ρ1 (fun b ρ2 => post a b ρ2) Ed) Ed)
    (px : ∀ x ρ', Ed x ρ' → ∀ F' H' cls dx, Gr S F H F' H' → XRel X.mg H' x cls dx → Wd X.K F' H' S Γx σ ρ' [] → W cls dx σ H')
    (va : opd Γ2 τa = true) (vb : opd Γ2 τb = true)
    (fin : ∀ a b ρ2, post a b ρ2 → ∀ F' H' v u bs cs, Gr S F H F' H' → Vw X.K F' H' (see τa ρ2 a) v → Vw X.K F' H' (see τb ρ2 b) u → Wd X.K F' H' S Γ2 σ ρ2 (bs ++ cs) → R v u H') :
    liftE X W Γx Γ Γ1 τa ta σ H fun v H1 => liftE X W Γx Γ1 Γ2 τb tb σ H1 fun u H2 => R v u H2 := by
  refine ⟨F, S, ρ, _, Ed, w, q, fun a ρ1 q1 F1 H1 v bs g1 r1 w1 => ?_, px⟩
  obtain ⟨nd, ns⟩ := w1.held
  refine ⟨F1, fun a => S a ∨ a ∈ bs, ρ1, _, Ed, w1.lend0, q1, fun b ρ2 q2 F2 H2 u cs g2 r2 w2 => ?_, fun x ρ' hx F' H' cls dx g hr w' => px x ρ' hx F' H' cls dx (g1.trans g fun _ => .inl) hr (w'.shrink fun _ => .inl)⟩
  have w3 := w2.back nd ns
  have r1' := RpV.mono g2.fz (fun a ha => g2.eq a (.inr ha)) r1
  exact fin a b ρ2 q2 F2 H2 v u bs cs (g1.trans g2 fun _ => .inl) (w3.view va r1') (w3.view vb r2) w3
theorem e_bin {op : Operator} {o : D → D → (D → Prop) → Prop} (ho : OpD X (binaryOp op) τ o) (ha : EOk X W Γx Γ a Γ1 τa ta) (hb : EOk X W Γx Γ1 b Γ2 τb tb) (va : opd Γ2 τa = true := by rfl) (vb : opd Γ2 τb = true := by rfl) :
    EOk X W Γx Γ (.BinOp a op b pos) Γ2 τ (tBin o τa τb ta tb) := by
  obtain ⟨r, hr, hf⟩ := ho
  refine ⟨PE.imp (pe_op hr ha.pe hb.pe) fun σ H Q ⟨F, S, ρ, Qd, Ed, w, q, p, px⟩ => ?_⟩
  refine bin_post (post := fun a b ρ2 => o (see τa ρ2 a) (see τb ρ2 b) fun d => Qd d ρ2) w q px va vb fun a b ρ2 h F' H' v u bs cs g x1 x2 w' => ?_
  refine hf F' H' S Γ2 σ ρ2 (bs ++ cs) _ _ v u _ Q w' x1 x2 h fun d hd F2 H2 z ds g2 rz w2 => ?_
  refine p d ρ2 hd F2 H2 z ds (g.trans g2 fun _ => .inl) rz ?_
  have w3 : Wd X.K F2 H2 S Γ2 σ ρ2 ((bs ++ cs) ++ ds) := w2.perm List.perm_append_comm
  exact w3.drop
end
end T2

namespace T2
open L2 PySem PySem.Spec PyProof.Rows

section
variable {K : PySem.W.Frag} {F H : Hp} {S : AS} {Γ : List Ty} {σ : St} {ρ : List D} {bs : List Addr}
theorem Wd.ne {p : Addr} (w : Wd K F H S Γ σ ρ bs) (np : H p = none) : ∀ a, (S a ∨ a ∈ bs) → a ≠ p := fun a ha e => by
  subst e
  obtain ⟨as, r, nd, f⟩ := w.ex
  rcases ha with z | z
  · exact (w.out a z).2 np
  · exact (f a (List.mem_append_left _ z)).2.2 np
theorem Wd.grN {p : Addr} {o : HO} (w : Wd K F H S Γ σ ρ bs) (np : H p = none) : Gr (fun a => S a ∨ a ∈ bs) F H F (upd H p o) := ⟨.refl _, fun a ha => upd_ne (w.ne np a ha)⟩
theorem Wd.grF {p : Addr} {o : HO} (w : Wd K F H S Γ σ ρ bs) (np : H p = none) : Gr (fun a => S a ∨ a ∈ bs) F H (upd F p o) (upd H p o) := ⟨(w.allocF np).2, fun a ha => upd_ne (w.ne np a ha)⟩

/-- what a result may be used for -/
abbrev Fin (K : PySem.W.Frag) (F H : Hp) (S : AS) (Γ : List Ty) (σ : St) (ρ : List D) (bs : List Addr) (τ : Ty) (q : D → Prop) (Q : VK) : Prop :=
  ∀ d, q d → ∀ F' H' z cs, Gr (fun a => S a ∨ a ∈ bs) F H F' H' → RpV K F' H' σ τ z d cs → Wd K F' H' S Γ σ ρ (cs ++ bs) → Q z H'
theorem Fin.fz {q : D → Prop} {Q : VK} (f : Fin K F H S Γ σ ρ bs .fz q Q) (w : Wd K F H S Γ σ ρ bs) {d : D} {v : V} (h : q d) (r : Fz K F d v) : Q v H := f d h F H v [] .refl ⟨r, rfl⟩ w
theorem Fin.sc {q : D → Prop} {Q : VK} (f : Fin K F H S Γ σ ρ bs .ow q Q) (w : Wd K F H S Γ σ ρ bs) {d : D} {v : V} (h : q d) (r : Fz K F d v) (n : scal d) : Q v H := by
  refine f d h F H v [] .refl ?_ w
  show Rp K F H .ow v d []
  cases d with
  | list ds => exact n.elim
  | dict ds => exact n.elim
  | _ => exact ⟨r, rfl⟩
theorem Fin.nl {q : D → Prop} {Q : VK} (f : Fin K F H S Γ σ ρ bs .ow q Q) (w : Wd K F H S Γ σ ρ bs) {ds : List D} {vs : List V} {p : Addr} (np : H p = none) (h : q (.list ds)) (r : FzL K F ds vs) : Q (.ref p) (upd H p (.lst vs)) := by
  refine f _ h F _ (.ref p) [p] (w.grN np) ?_ (w.alloc np)
  show Rp K F _ .ow _ (.list ds) _
  simp only [Rp]
  exact ⟨p, vs, rfl, upd_same, r, rfl⟩
theorem FzL.sub {F F' : Hp} {ds : List D} {vs : List V} (s : Sub F F') (h : FzL K F ds vs) : FzL K F' ds vs := h.mono s
theorem Fin.nt {q : D → Prop} {Q : VK} (f : Fin K F H S Γ σ ρ bs .ow q Q) (w : Wd K F H S Γ σ ρ bs) {ds : List D} {vs : List V} {p : Addr} (np : H p = none) (h : q (.tuple ds)) (r : FzL K F ds vs) : Q (.ref p) (upd H p (.tup vs)) := by
  obtain ⟨w', s⟩ := w.allocF (o := .tup vs) np
  refine f _ h _ _ (.ref p) [] (w.grF np) ?_ w'
  show Rp K (upd F p (.tup vs)) (upd H p (.tup vs)) .ow (.ref p) (.tuple ds) []
  simp only [Rp, Fz, and_true]
  exact ⟨p, vs, rfl, SqT.of upd_same, r.mono s⟩
theorem Fin.ntf {q : D → Prop} {Q : VK} (f : Fin K F H S Γ σ ρ bs .fz q Q) (w : Wd K F H S Γ σ ρ bs) {ds : List D} {vs : List V} {p : Addr} (np : H p = none) (h : q (.tuple ds)) (r : FzL K F ds vs) : Q (.ref p) (upd H p (.tup vs)) := by
  obtain ⟨w', s⟩ := w.allocF (o := .tup vs) np
  refine f _ h _ _ (.ref p) [] (w.grF np) ?_ w'
  show Rp K (upd F p (.tup vs)) (upd H p (.tup vs)) .fz (.ref p) (.tuple ds) []
  simp only [Rp, Fz, and_true]
  exact ⟨p, vs, rfl, SqT.of upd_same, r.mono s⟩
end

/-! ### what Vw tells by the kind of data -/
section
variable {K : PySem.W.Frag} {F H : Hp} {v : V}
theorem Vw.int {i : Int} (h : Vw K F H (.int i) v) : v = .int i := by simpa [Vw, Fz] using h
theorem Vw.bool {i : Bool} (h : Vw K F H (.bool i) v) : v = .bl i := by simpa [Vw, Fz] using h
theorem Vw.str {i : Str} (h : Vw K F H (.str i) v) : v = .str i := by simpa [Vw, Fz] using h
theorem Vw.none (h : Vw K F H .none v) : v = .non := by simpa [Vw, Fz] using h
theorem Vw.list {ds : List D} (h : Vw K F H (.list ds) v) : ∃ a vs, v = .ref a ∧ SqL K H a vs ∧ FzL K F ds vs := h
theorem Vw.tuple {ds : List D} (s : Sub F H) (h : Vw K F H (.tuple ds) v) : ∃ a vs, v = .ref a ∧ SqT K H a vs ∧ FzL K F ds vs := by
  simp only [Vw, Fz] at h
  obtain ⟨a, vs, e, h1, h2⟩ := h
  exact ⟨a, vs, e, s.sqt h1, h2⟩
end

/-! ### arithmetic -/
def Fit (i : Int) : Prop := i.natAbs < 10 ^ 100
theorem Fit.log {i : Int} (h : Fit i) : i.natAbs.log2 < 400 := PySem.Flt.log2_lt_of (by decide) (Nat.lt_of_lt_of_le h (by decide))
section
variable {X : Cx}
theorem list_mulW (l : Addr) (items : Array Value) (n : Nat) (sl : Array (Option Value)) (x : Int) (u : Tok) (hc0 : ¬(!Builtin.List.listFitsIndex x) = true) (hc1 : ¬items.size * x.toNat > (2 ^ 63 - 1) / 8) (hc2 : ¬Builtin.List.listTooLong (items.size * x.toNat) = true) :
    Meets (Builtin.«list.__mul__» ⟨[.ref l, .int x u], []⟩) (fun _ R s => s.heap.get? l = some { cls := .type "list", dict := none, data := .seq items n, slots := sl } ∧ R (.ok (.ret (Value.ref s.heap.objs.size))) { s with heap := s.heap.push { cls := Value.type "list", data := Data.seq (List.foldl (fun x1 x2 => x1 ++ x2) #[] (List.replicate (if items.isEmpty = true then 0 else x.toNat) items)) }, toks := s.toks }) :=
  .of_wp fun prog w A R s h => by
    obtain ⟨hp, g, d, tk, os⟩ := s; obtain ⟨hl, h⟩ := h
    have hsz := PySem.AutoListH.joined_fits hc2
    wp_walk using wpAny_loadPart' hl; refine wpAny_ite_false (decide_eq_false (Nat.not_lt.mpr hsz)) ?_; wp_walk; exact ⟨_, rfl, h⟩
theorem int_rmulW (a : Int) (t : Tok) (l : Addr) (items : Array Value) (n : Nat) (sl : Array (Option Value)) :
    Meets (Builtin.«int.__rmul__» ⟨[.int a t, .ref l], []⟩) (fun _ R s => s.heap.get? l = some { cls := .type "list", dict := none, data := .seq items n, slots := sl } ∧ R (.ok (.ret Value.notImplemented)) s) :=
  .of_wp fun prog w A R s h => by obtain ⟨hp, g, d, tk, os⟩ := s; obtain ⟨hl, h⟩ := h; wp_walk; exact ⟨_, rfl, h⟩
theorem list_extendW (l : Addr) (items : Array Value) (n : Nat) (b : Addr) (items2 : Array Value) (n2 : Nat) (sl2 : Array (Option Value)) (hc0 : ¬(!items.isEmpty && Builtin.List.listTooLong (items.size + items2.size)) = true) (hc1 : items.size ≤ sizeLine) (hs2 : items.size + items2.size ≤ sizeLine + 1 := by seq_fits) :
    Meets (Builtin.«list.extend» ⟨[.ref l, .ref b], []⟩) (fun _ R s => s.heap.get? l = some { cls := .type "list", dict := none, data := .seq items n, slots := #[] } ∧ s.heap.get? b = some { cls := .type "list", dict := none, data := .seq items2 n2, slots := sl2 } ∧ R (.ok (.ret Value.none)) { s with heap := s.heap.update l (Obj.mapSeq fun x => x ++ items2), toks := s.toks }) :=
  .of_wp fun prog w A R s h => by
    obtain ⟨hp, g, d, tk, os⟩ := s; obtain ⟨hl, hb, h⟩ := h; have f1 := AutoSeq1.idx_int; have f2 := AutoSeq1.sub_tuple_tuple; have f3 := AutoSeq1.sub_list_list; have f4 := AutoSeq1.sub_tuple_list; have f5 := AutoSeq1.sub_list_tuple;
    have hz' : (items ++ items2).size ≤ sizeLine + 1 := by rw [Array.size_append]; exact hs2
    wp_walk using (wpAny_updateSeq hl rfl (hz := hc1) (_hz' := hz')), wpAny_loadPart' hl, wpAny_loadPart' hb; exact ⟨_, rfl, h⟩
def rCatR (K : PySem.W.Frag) : R2 := fun x y H Q => ∃ l b xs zs, x = .ref l ∧ y = .ref b ∧ SqL K H l xs ∧ SqL K H b zs ∧ xs.length + zs.length ≤ sizeLine ∧ ∀ p, H p = none → Q (.ref p) (upd H p (.lst (xs ++ zs)))
theorem rdM {pins : List (Addr × Obj)} {σ : St} {H : Hp} {s : Shared} {l : Addr} {xs : List V} (I : Inv X pins σ H s) (h : SqL X.K H l xs) : xs.length ≤ sizeLine ∧ ∃ (its : List Value) (n : Nat) (sl : Array (Option Value)), Vals xs its ∧ xs.length = its.length ∧ s.heap.get? l = some { cls := .type "list", data := .seq its.toArray n, slots := sl } := by
  obtain ⟨its, r, ⟨o, n, e, hc, hd, hs⟩, z⟩ := I.list h
  obtain ⟨cls, dd, data, sl⟩ := o
  simp only at hc hd hs
  subst hc hd hs
  exact ⟨z, its, n, sl, r, r.length, e⟩
theorem op_catR : OpR X (binaryOp .Add) (rCatR X.K) := by
  intro pins s σ H x y v u Q I rx ry h
  obtain ⟨l, b, xs, zs, rfl, rfl, hH, hB, hz, q⟩ := h
  cases rx
  cases ry
  obtain ⟨z, its, n, sl, r, hl, e⟩ := rdM I hH
  obtain ⟨z2, its2, n2, sl2, r2, hl2, e2⟩ := rdM I hB
  have ea : its.toArray ++ its2.toArray = (its ++ its2).toArray := by simp
  refine concat_meets ⟨_, e, rfl⟩ ⟨_, e2, rfl⟩ noFill_list_add seq_list_add PySem.F.slot_list_add PySem.F.entry_list_add (PySem.F.args_list_add_2 _ _) (list_addW l b its.toArray its2.toArray n n2 none none sl sl2 (by rw [List.size_toArray, List.size_toArray]; omega)) ⟨e, e2, ?_⟩
  rw [ea]
  exact ⟨.ref _, _, I.lnew (t' := s.toks) (r.append r2) (by rw [List.length_append]; omega), rfl, q _ I.fresh⟩

def oAdd (a b : D) (q : D → Prop) : Prop := match a, b with
  | .int i, .int j => q (.int (i + j))
  | .str x, .str y => x.length + y.length ≤ sizeLine ∧ q (.str (x ++ y))
  | .list xs, .list ys => xs.length + ys.length ≤ sizeLine ∧ q (.list (xs ++ ys))
  | .tuple xs, .tuple ys => xs.length + ys.length ≤ sizeLine ∧ q (.tuple (xs ++ ys))
  | _, _ => False
theorem od_add : OpD X (binaryOp .Add) .ow oAdd := by
  refine ⟨_, ((op_add.or op_add_str).or op_catR).or op_catA, fun F H S Γ σ ρ bs x y v u q Q w hx hy h f => ?_⟩
  cases x <;> cases y <;> first
    | exact False.elim h
    | skip
  · cases hx.int; cases hy.int
    exact .inl (.inl (.inl ⟨_, _, rfl, rfl, Fin.sc f w h rfl trivial⟩))
  · cases hx.str; cases hy.str
    exact .inl (.inl (.inr ⟨_, _, rfl, rfl, h.1, Fin.sc f w h.2 rfl trivial⟩))
  · obtain ⟨a, vs, rfl, h1, h2⟩ := hx.list
    obtain ⟨b, us, rfl, h3, h4⟩ := hy.list
    refine .inl (.inr ⟨a, b, vs, us, rfl, rfl, h1, h3, by rw [← h2.length, ← h4.length]; exact h.1, fun p np => Fin.nl f w np h.2 (h2.append h4)⟩)
  · rename_i xs ys
    obtain ⟨a, vs, rfl, h1, h2⟩ := hx.tuple w.sub
    obtain ⟨b, us, rfl, h3, h4⟩ := hy.tuple w.sub
    obtain ⟨hz, h⟩ := h
    have l1 := h2.length
    have l2 := h4.length
    refine .inr ⟨a, b, vs, us, rfl, rfl, h1, h3, by rw [← l1, ← l2]; exact hz, fun z => ?_, fun _ z => ?_, fun _ _ p np => Fin.nt f w np h (h2.append h4)⟩
    · have e : xs = [] := List.eq_nil_of_length_eq_zero (by rw [l1, z]; rfl)
      subst e
      exact Fin.sc f w h hy trivial
    · have e : ys = [] := List.eq_nil_of_length_eq_zero (by rw [l2, z]; rfl)
      subst e
      rw [List.append_nil] at h
      exact Fin.sc f w h hx trivial
def oI2 (C : Int → Int → Prop) (g : Int → Int → D) (a b : D) (q : D → Prop) : Prop := match a, b with
  | .int i, .int j => C i j ∧ q (g i j)
  | _, _ => False
theorem od_int {f : Value → Value → Sem Value} {C C' : Int → Int → Prop} {g : Int → Int → Int} (h : OpR X f (rI C' fun i j => .int (g i j))) (hc : ∀ i j, C i j → C' i j) : OpD X f .fz (oI2 C fun i j => .int (g i j)) := by
  refine ⟨_, h, fun F H S Γ σ ρ bs x y v u q Q w hx hy h f => ?_⟩
  cases x <;> cases y <;> first
    | exact False.elim h
    | skip
  cases hx.int; cases hy.int
  exact ⟨_, _, rfl, rfl, hc _ _ h.1, Fin.fz f w h.2 rfl⟩
theorem od_int0 {f : Value → Value → Sem Value} {g : Int → Int → Int} (h : OpR X f (rI0 fun i j => .int (g i j))) : OpD X f .fz (oI2 (fun _ _ => True) fun i j => .int (g i j)) := by
  refine ⟨_, h, fun F H S Γ σ ρ bs x y v u q Q w hx hy h f => ?_⟩
  cases x <;> cases y <;> first
    | exact False.elim h
    | skip
  cases hx.int; cases hy.int
  exact ⟨_, _, rfl, rfl, Fin.fz f w h.2 rfl⟩
abbrev oSub := oI2 (fun _ _ => True) fun i j => .int (i - j)
abbrev oMulI := oI2 (fun i j => Fit i ∧ Fit j) fun i j => .int (i * j)
abbrev oMod := oI2 (fun _ j => 0 < j) fun i j => .int (i % j)
abbrev oDiv := oI2 (fun _ j => 0 < j ∧ Fit j) fun i j => .int (i / j)
abbrev oPow := oI2 (fun i j => 0 ≤ j ∧ j ≤ 1000 ∧ i.natAbs < 2 ^ 64) fun i j => .int (i ^ j.toNat)
theorem od_sub : OpD X (binaryOp .Sub) .fz oSub := od_int0 op_sub
theorem od_mulI : OpD X (binaryOp .Mult) .fz oMulI := od_int op_mulW fun i j h => by
  have h1 := h.1.log
  have h2 := h.2.log
  unfold CMulW
  omega
theorem od_mod : OpD X (binaryOp .Mod) .fz oMod := od_int op_mod fun i j h => h
theorem od_div : OpD X (binaryOp .FloorDiv) .fz oDiv := od_int op_fdivW fun i j h => ⟨h.1, by have := h.2.log; omega⟩
theorem od_pow : OpD X (binaryOp .Pow) .fz oPow := od_int op_pow fun i j h => ⟨h.1, by have := h.2.1; omega, h.2.2⟩
/-- a list times an int -/
def rRepR (K : PySem.W.Frag) : R2 := fun x y H Q => ∃ l k xs, x = .ref l ∧ y = .int k ∧ SqL K H l xs ∧ -(2 ^ 63) ≤ k ∧ k < 2 ^ 63 ∧ xs.length * k.toNat ≤ sizeLine ∧ ∀ p, H p = none → Q (.ref p) (upd H p (.lst (List.replicate k.toNat xs).flatten))
theorem op_repR : OpR X (binaryOp .Mult) (rRepR X.K) := by
  intro pins s σ H x y v u Q I rx ry h
  obtain ⟨l, k, xs, rfl, rfl, hH, h1, h2, hz, q⟩ := h
  cases rx
  obtain ⟨t, rfl⟩ := ry
  obtain ⟨z, its, n, sl, r, hl, e⟩ := rdM I hH
  have hlen : its.toArray.size * k.toNat ≤ sizeLine := by rw [List.size_toArray, ← hl]; exact hz
  have hcap : ¬ its.toArray.size * k.toNat > (2 ^ 63 - 1) / 8 := by
    have : (sizeLine : Nat) ≤ (2 ^ 63 - 1) / 8 := by decide
    omega
  have hfit : ¬ (!Builtin.List.listFitsIndex k) = true := by
    rw [fitsIndex_both h1 h2]
    exact Bool.false_ne_true
  have hlong : ¬ Builtin.List.listTooLong (its.toArray.size * k.toNat) = true := by
    rw [notLongL hlen]
    exact Bool.false_ne_true
  have hnew : List.foldl (fun x1 x2 => x1 ++ x2) #[] (List.replicate (if its.toArray.isEmpty = true then 0 else k.toNat) its.toArray) = (List.replicate k.toNat its).flatten.toArray := by
    have f0 : ∀ m : Nat, List.foldl (fun x1 x2 => x1 ++ x2) #[] (List.replicate m its.toArray) = (List.replicate m its).flatten.toArray := fun m => by
      have := foldl_rep its m []
      rw [List.nil_append] at this
      exact this
    rw [f0]
    cases its with
    | nil => simp
    | cons a r' => rw [if_neg (by simp)]
  refine wpAny_binaryOp_repeat_ref (T := "list") (U := "int") (by decide) ⟨_, e, rfl⟩ (fun s' => typeIs_int s' k t) noFill_list_mul F.fills_int_mul F.slot_int_rmul repeat_list F.slot_int_index.lookup
    (call_meets F.slot_int_rmul (typeIs_int s k t) F.entry_int_rmul (F.args_int_rmul_2 _ _) (int_rmulW k t l its.toArray n sl)
      ⟨e, rfl, ⟨_, e, rfl⟩, call_meets F.slot_list_mul ⟨_, e, rfl⟩ F.entry_list_mul (F.args_list_mul_2 _ _) (list_mulW l its.toArray n sl k t hfit hcap hlong) ⟨e, ?_⟩⟩)
  rw [hnew]
  exact ⟨.ref _, _, I.lnew (t' := s.toks) (r.rep k.toNat) (by rw [PyProof.Rows.lm_len_rep_flat, Nat.mul_comm]; exact hz), rfl, q _ I.fresh⟩
def oRep (a b : D) (q : D → Prop) : Prop := match a, b with
  | .list xs, .int k => k < 2 ^ 63 ∧ -(2 ^ 63) ≤ k ∧ xs.length * k.toNat ≤ sizeLine ∧ q (.list (List.replicate k.toNat xs).flatten)
  | _, _ => False
theorem FzL.rep {K : PySem.W.Frag} {F : Hp} {ds : List D} {vs : List V} (h : FzL K F ds vs) : ∀ k, FzL K F (List.replicate k ds).flatten (List.replicate k vs).flatten
  | 0 => by simp [FzL]
  | k + 1 => by
    simp only [List.replicate_succ, List.flatten_cons]
    exact h.append (FzL.rep h k)
theorem od_rep : OpD X (binaryOp .Mult) .ow oRep := by
  refine ⟨_, op_repR, fun F H S Γ σ ρ bs x y v u q Q w hx hy h f => ?_⟩
  cases x <;> cases y <;> first
    | exact False.elim h
    | skip
  obtain ⟨a, vs, rfl, h1, h2⟩ := hx.list
  cases hy.int
  obtain ⟨b1, b2, b3, h⟩ := h
  exact ⟨a, _, vs, rfl, rfl, h1, b2, b1, by rw [← h2.length]; exact b3, fun p np => Fin.nl f w np h (h2.rep _)⟩

/-! ### comparisons -/
def okEq (d : D) : Prop := SeqAt.shaped d = true
theorem lay_of {d : D} (h : okEq d) : noD d = true := by
  unfold okEq SeqAt.shaped at h
  exact noD_lay d (Bool.and_eq_true_iff.mp h).1
def oEq (a b : D) (q : D → Prop) : Prop := okEq a ∧ okEq b ∧ q (.bool (PyData.eqv a b))
def oNe (a b : D) (q : D → Prop) : Prop := okEq a ∧ okEq b ∧ q (.bool (!PyData.eqv a b))
theorem od_eq (hu : X.A.units + 64 < cLine) : OpD X (compareOp .Eq) .fz oEq :=
  ⟨_, op_eqD hu, fun F H S Γ σ ρ bs x y v u q Q w hx hy h f => ⟨x, y, hx.dp w.sub (lay_of h.1), hy.dp w.sub (lay_of h.2.1), h.1, h.2.1, Fin.fz f w h.2.2 rfl⟩⟩
theorem od_ne (hu : X.A.units + 64 < cLine) : OpD X (compareOp .NotEq) .fz oNe :=
  ⟨_, op_neD hu, fun F H S Γ σ ρ bs x y v u q Q w hx hy h f => ⟨x, y, hx.dp w.sub (lay_of h.1), hy.dp w.sub (lay_of h.2.1), h.1, h.2.1, Fin.fz f w h.2.2 rfl⟩⟩
def oC (p : Int → Int → Bool) (a b : D) (q : D → Prop) : Prop := match a, b with
  | .int i, .int j => q (.bool (p i j))
  | _, _ => False
theorem od_cmp {f : Value → Value → Sem Value} {p : Int → Int → Bool} (h : OpR X f (rI0 fun i j => .bl (p i j))) : OpD X f .fz (oC p) := by
  refine ⟨_, h, fun F H S Γ σ ρ bs x y v u q Q w hx hy h f => ?_⟩
  cases x <;> cases y <;> first
    | exact False.elim h
    | skip
  cases hx.int; cases hy.int
  exact ⟨_, _, rfl, rfl, Fin.fz f w h rfl⟩
abbrev oLt := oC fun i j => decide (i < j)
abbrev oLe := oC fun i j => decide (i ≤ j)
abbrev oGt := oC fun i j => decide (j < i)
abbrev oGe := oC fun i j => decide (j ≤ i)
theorem od_lt : OpD X (compareOp .Lt) .fz oLt := od_cmp op_lt
theorem od_le : OpD X (compareOp .LtE) .fz oLe := od_cmp op_le
theorem od_gt : OpD X (compareOp .Gt) .fz oGt := od_cmp op_gt
theorem od_ge : OpD X (compareOp .GtE) .fz oGe := od_cmp op_ge
/-- is None, is of truths -/
def isN (d : D) : Bool := match d with
  | .none => true
  | _ => false
theorem Fz.isN {K : PySem.W.Frag} {F : Hp} {d : D} {v : V} (h : Fz K F d v) : decide (v = .non) = isN d := by
  cases d with
  | none => simp only [Fz] at h; subst h; rfl
  | bool _ => simp only [Fz] at h; subst h; rfl
  | int _ => simp only [Fz] at h; subst h; rfl
  | str _ => simp only [Fz] at h; subst h; rfl
  | list _ => simp only [Fz] at h; obtain ⟨a, vs, rfl, _⟩ := h; rfl
  | tuple _ => simp only [Fz] at h; obtain ⟨a, vs, rfl, _⟩ := h; rfl
  | dict _ => simp only [Fz] at h; obtain ⟨a, xs, rfl, _⟩ := h; rfl
theorem Vw.isN {K : PySem.W.Frag} {F H : Hp} {d : D} {v : V} (h : Vw K F H d v) : decide (v = .non) = T2.isN d := by
  cases d with
  | list ds => obtain ⟨a, vs, rfl, _⟩ := h.list; rfl
  | dict ds => obtain ⟨a, xs, rfl, _⟩ := h; rfl
  | _ => exact Fz.isN (K := K) (F := F) h
def oIs (neg : Bool) (a b : D) (q : D → Prop) : Prop := match b with
  | .none => q (.bool (if neg then !isN a else isN a))
  | .bool j => match a with
    | .bool i => q (.bool (if neg then !decide (i = j) else decide (i = j)))
    | _ => False
  | _ => False
theorem od_is : OpD X (compareOp .Is) .fz (oIs false) := by
  refine ⟨_, op_isN.or op_isBl, fun F H S Γ σ ρ bs x y v u q Q w hx hy h f => ?_⟩
  cases y <;> first
    | exact False.elim h
    | skip
  · refine .inl ⟨hy.none, ?_⟩
    rw [hx.isN]
    exact Fin.fz f w h rfl
  · cases x <;> first
      | exact False.elim h
      | skip
    exact .inr ⟨_, _, hx.bool, hy.bool, Fin.fz f w h rfl⟩
theorem od_isnot : OpD X (compareOp .IsNot) .fz (oIs true) := by
  refine ⟨_, op_notN.or op_notBl, fun F H S Γ σ ρ bs x y v u q Q w hx hy h f => ?_⟩
  cases y <;> first
    | exact False.elim h
    | skip
  · refine .inl ⟨hy.none, ?_⟩
    rw [hx.isN]
    exact Fin.fz f w h rfl
  · cases x <;> first
      | exact False.elim h
      | skip
    exact .inr ⟨_, _, hx.bool, hy.bool, Fin.fz f w h rfl⟩
/-- a text in a text -/
def oInS (neg : Bool) (a b : D) (q : D → Prop) : Prop := match a, b with
  | .str i, .str j => q (.bool (if neg then !(!(Builtin.Str.occurrences j i 0 j.length 1).isEmpty) else !(Builtin.Str.occurrences j i 0 j.length 1).isEmpty))
  | _, _ => False
/-- flat things in a list or tuple -/
def flat (d : D) : Bool := match d with
  | .none => true
  | .bool _ => true
  | .int _ => true
  | .str _ => true
  | _ => false
theorem Fz.flat {K : PySem.W.Frag} {F : Hp} {d : D} {v : V} (h : Fz K F d v) (hf : flat d = true) : flatV v = true := by
  cases d with
  | none => simp only [Fz] at h; subst h; rfl
  | bool _ => simp only [Fz] at h; subst h; rfl
  | int _ => simp only [Fz] at h; subst h; rfl
  | str _ => simp only [Fz] at h; subst h; rfl
  | _ => cases hf
theorem Vw.flat {K : PySem.W.Frag} {F H : Hp} {d : D} {v : V} (h : Vw K F H d v) (hf : T2.flat d = true) : flatV v = true := by
  cases d with
  | list ds => cases hf
  | dict ds => cases hf
  | _ => exact Fz.flat h hf
end
end T2

namespace T2
open L2 PySem PySem.Spec PyProof.Rows

/-! ### dicts as data -/
def keyOf : D → Option Key
  | .int i => some (.inl i)
  | .str x => some (.inr x)
  | _ => none
theorem keyOf_kD (k : Key) : keyOf (kD k) = some k := by cases k <;> rfl
theorem kD_keyOf {d : D} {k : Key} (h : keyOf d = some k) : d = kD k := by
  cases d <;> simp [keyOf] at h <;> subst h <;> rfl
def dget (kvs : List (D × D)) (k : D) : Option D := (kvs.find? fun p => decide (keyOf p.1 = keyOf k)).map (·.2)
def dput (kvs : List (D × D)) (k v : D) : List (D × D) := if (kvs.any fun p => decide (keyOf p.1 = keyOf k)) = true then kvs.map (fun p => if keyOf p.1 = keyOf k then (p.1, v) else p) else kvs ++ [(k, v)]
def ddel (kvs : List (D × D)) (k : D) : List (D × D) := kvs.filter fun p => decide (keyOf p.1 ≠ keyOf k)
section
variable {K : PySem.W.Frag} {F : Hp}
theorem FzD.length : ∀ {kvs : List (D × D)} {xs : List (Key × V)}, FzD K F kvs xs → kvs.length = xs.length
  | [], _, h => by simp only [FzD] at h; subst h; rfl
  | (k, d) :: r, _, h => by
    simp only [FzD] at h
    obtain ⟨key, v, xr, rfl, _, _, h2⟩ := h
    simp [FzD.length h2]
theorem FzD.get (key : Key) : ∀ {kvs : List (D × D)} {xs : List (Key × V)}, FzD K F kvs xs → (dget kvs (kD key) = none ∧ valV xs key = none) ∨ ∃ d v, dget kvs (kD key) = some d ∧ valV xs key = some v ∧ Fz K F d v
  | [], _, h => by simp only [FzD] at h; subst h; exact .inl ⟨rfl, rfl⟩
  | (k, d) :: r, _, h => by
    simp only [FzD] at h
    obtain ⟨key', v, xr, rfl, rfl, h1, h2⟩ := h
    by_cases e : key' = key
    · subst e
      exact .inr ⟨d, v, by simp [dget], by simp [valV], h1⟩
    · have ih := FzD.get key h2
      have e1 : dget ((kD key', d) :: r) (kD key) = dget r (kD key) := by
        unfold dget
        rw [List.find?_cons_of_neg (by simp [keyOf_kD, e])]
      rw [e1, valV_neg e]
      exact ih
theorem FzD.getIs (key : Key) {kvs : List (D × D)} {xs : List (Key × V)} (h : FzD K F kvs xs) : (dget kvs (kD key)).isSome = (valV xs key).isSome := by
  rcases h.get key with ⟨z1, z2⟩ | ⟨d, v, z1, z2, _⟩ <;> rw [z1, z2] <;> rfl
theorem FzD.anyK (key : Key) : ∀ {kvs : List (D × D)} {xs : List (Key × V)}, FzD K F kvs xs → (kvs.any fun p => decide (keyOf p.1 = keyOf (kD key))) = xs.any fun p => decide (p.1 = key)
  | [], _, h => by simp only [FzD] at h; subst h; rfl
  | (k, d) :: r, _, h => by
    simp only [FzD] at h
    obtain ⟨key', v, xr, rfl, rfl, h1, h2⟩ := h
    rw [List.any_cons, List.any_cons, FzD.anyK key h2]
    congr 1
    simp [keyOf_kD]
theorem FzD.mapK (key : Key) {d : D} {v : V} (hd : Fz K F d v) : ∀ {kvs : List (D × D)} {xs : List (Key × V)}, FzD K F kvs xs → FzD K F (kvs.map fun p => if keyOf p.1 = keyOf (kD key) then (p.1, d) else p) (xs.map fun p => if p.1 = key then (p.1, v) else p)
  | [], _, h => by simp only [FzD] at h; subst h; simp [FzD]
  | (k, d') :: r, _, h => by
    simp only [FzD] at h
    obtain ⟨key', v', xr, rfl, rfl, h1, h2⟩ := h
    rw [List.map_cons, List.map_cons]
    have ih := FzD.mapK key hd h2
    by_cases e : key' = key
    · subst e
      rw [if_pos rfl, if_pos rfl]
      exact ⟨key', v, _, rfl, rfl, hd, ih⟩
    · rw [if_neg (by simpa [keyOf_kD] using e), if_neg e]
      exact ⟨key', v', _, rfl, rfl, h1, ih⟩
theorem FzD.app {d : D} {v : V} (key : Key) (hd : Fz K F d v) : ∀ {kvs : List (D × D)} {xs : List (Key × V)}, FzD K F kvs xs → FzD K F (kvs ++ [(kD key, d)]) (xs ++ [(key, v)])
  | [], _, h => by simp only [FzD] at h; subst h; exact ⟨key, v, _, rfl, rfl, hd, rfl⟩
  | (k, d') :: r, _, h => by
    simp only [FzD] at h
    obtain ⟨key', v', xr, rfl, rfl, h1, h2⟩ := h
    exact ⟨key', v', _, rfl, rfl, h1, FzD.app key hd h2⟩
theorem FzD.put (key : Key) {d : D} {v : V} (hd : Fz K F d v) {kvs : List (D × D)} {xs : List (Key × V)} (h : FzD K F kvs xs) : FzD K F (dput kvs (kD key) d) (putK xs key v) := by
  unfold dput putK
  rw [h.anyK key]
  split
  · exact h.mapK key hd
  · exact h.app key hd
theorem FzD.del (key : Key) : ∀ {kvs : List (D × D)} {xs : List (Key × V)}, FzD K F kvs xs → FzD K F (ddel kvs (kD key)) (dropK xs key)
  | [], _, h => by simp only [FzD] at h; subst h; simp [ddel, dropK, FzD]
  | (k, d') :: r, _, h => by
    simp only [FzD] at h
    obtain ⟨key', v', xr, rfl, rfl, h1, h2⟩ := h
    have ih := FzD.del key h2
    unfold ddel dropK at ih ⊢
    by_cases e : key' = key
    · subst e
      rw [List.filter_cons_of_neg (by simp), List.filter_cons_of_neg (by simp)]
      exact ih
    · rw [List.filter_cons_of_pos (by simpa [keyOf_kD] using e), List.filter_cons_of_pos (by simpa using e)]
      exact ⟨key', v', _, rfl, rfl, h1, ih⟩
end
theorem Fz.key {K : PySem.W.Frag} {F : Hp} {k : Key} {v : V} (h : Fz K F (kD k) v) : v = kV k := by cases k <;> simpa [kD, Fz, kV] using h
theorem Vw.key {K : PySem.W.Frag} {F H : Hp} {k : Key} {v : V} (h : Vw K F H (kD k) v) : v = kV k := by
  cases k with
  | inl i => exact h.int
  | inr x => exact h.str
section
variable {X : Cx}
/-! ### a key in a dict; d[k] -/
def rInDk (neg : Bool) : R2 := fun x y H Q => ∃ (a : Addr) (o : Option V), y = .ref a ∧ DGet H a x o ∧ Q (.bl (if neg then !o.isSome else o.isSome)) H
theorem op_inDk (hu : X.A.units + 1 < cLine) : OpR X (compareOp .In) (rInDk false) := by
  intro pins s σ H x y v u Q I rx ry ⟨a, o, ey, g, q⟩
  subst ey
  cases ry
  exact d_in hu I g rx fun s' I' => ⟨.bl o.isSome, H, I', rfl, q⟩
theorem op_notinDk (hu : X.A.units + 1 < cLine) : OpR X (compareOp .NotIn) (rInDk true) := by
  intro pins s σ H x y v u Q I rx ry ⟨a, o, ey, g, q⟩
  subst ey
  cases ry
  exact d_notIn hu I g rx fun s' I' => ⟨.bl (!o.isSome), H, I', rfl, q⟩
def rIxDk : R2 := fun x y H Q => ∃ (a : Addr) (v : V), x = .ref a ∧ DGet H a y (some v) ∧ Q v H
theorem ix_Dk (hu : X.A.units + 1 < cLine) : IxR X rIxDk := by
  intro value slice pins s σ H x y v u Q I rx ry ⟨a, z, ex, g, q⟩ hs
  subst ex
  obtain rfl : v = Value.ref a := rx
  exact tail_any (dict_typeIs I g) PySem.F.slot_dict_getitem.lookup (d_getItem hu I g ry fun w' s3 I3 rw' => ⟨z, H, I3, rw', q⟩) hs
end
end T2

namespace T2
open L2 PySem PySem.Spec PyProof.Rows

/-! ### in, not in -/
section
variable {X : Cx}
def oIn (neg : Bool) (a b : D) (q : D → Prop) : Prop := match b with
  | .str j => match a with
    | .str i => q (.bool (if neg then !(!(Builtin.Str.occurrences j i 0 j.length 1).isEmpty) else !(Builtin.Str.occurrences j i 0 j.length 1).isEmpty))
    | _ => False
  | .list ds => okEq a ∧ okEq (.list ds) ∧ q (.bool (if neg then !(ds.any fun e => PyData.eqv e a) else ds.any fun e => PyData.eqv e a))
  | .tuple ds => flat a = true ∧ ds.all flat = true ∧ q (.bool (if neg then !(ds.any fun e => PyData.eqv e a) else ds.any fun e => PyData.eqv e a))
  | .dict kvs => (keyOf a).isSome = true ∧ q (.bool (if neg then !(dget kvs a).isSome else (dget kvs a).isSome))
  | _ => False
theorem eqv_flat {K : PySem.W.Frag} {F F' : Hp} : ∀ {a b : D} {u v : V}, Fz K F a u → Fz K F' b v → flat a = true → flat b = true → eqV u v = PyData.eqv a b := by
  intro a b u v h h' fa fb
  cases a <;> cases b <;> first
    | (simp only [Fz] at h h'; subst h; subst h'; simp only [PyData.eqv, eqV]; done)
    | (exfalso; revert fa; simp [flat]; done)
    | (exfalso; revert fb; simp [flat]; done)
theorem any_flat {K : PySem.W.Frag} {F F' : Hp} {a : D} {u : V} (h : Fz K F a u) (fa : flat a = true) : ∀ {ds : List D} {vs : List V}, FzL K F' ds vs → ds.all flat = true → (vs.all flatV = true ∧ inV u vs = ds.any fun e => PyData.eqv e a)
  | [], _, h', _ => by simp only [FzL] at h'; subst h'; exact ⟨rfl, rfl⟩
  | d :: ds, _, h', f => by
    simp only [FzL] at h'
    obtain ⟨v, r, rfl, h1, h2⟩ := h'
    rw [List.all_cons, Bool.and_eq_true] at f
    obtain ⟨i1, i2⟩ := any_flat h fa h2 f.2
    refine ⟨by rw [List.all_cons, i1, h1.flat f.1]; rfl, ?_⟩
    rw [List.any_cons, ← i2, ← eqv_flat h1 h f.1 fa]
    rfl
theorem Vw.fzf {K : PySem.W.Frag} {F H : Hp} {d : D} {v : V} (h : Vw K F H d v) (hf : T2.flat d = true) : Fz K F d v := by
  cases d with
  | list ds => cases hf
  | dict ds => cases hf
  | _ => exact h
theorem od_in (hu : X.A.units + 65 < cLine) : OpD X (compareOp .In) .fz (oIn false) := by
  refine ⟨_, ((op_in_str.or (op_inD hu)).or op_in_seq).or (op_inDk (by omega)), fun F H S Γ σ ρ bs x y v u q Q w hx hy h f => ?_⟩
  cases y <;> first
    | exact False.elim h
    | skip
  · cases x <;> first
      | exact False.elim h
      | skip
    exact .inl (.inl (.inl ⟨_, _, hx.str, hy.str, Fin.fz f w h rfl⟩))
  · exact .inl (.inl (.inr ⟨x, _, hx.dp w.sub (lay_of h.1), hy.dp w.sub (lay_of h.2.1), h.1, h.2.1, Fin.fz f w h.2.2 rfl⟩))
  · obtain ⟨a, vs, rfl, h1, h2⟩ := hy.tuple w.sub
    obtain ⟨f1, f2, h⟩ := h
    obtain ⟨i1, i2⟩ := any_flat (hx.fzf f1) f1 h2 f2
    refine .inl (.inr ⟨a, vs, rfl, .inr h1, hx.flat f1, i1, ?_⟩)
    simp only [Bool.false_eq_true, if_false] at h ⊢
    rw [i2]
    exact Fin.fz f w h rfl
  · obtain ⟨c, xs, rfl, h1, h2⟩ := hy
    obtain ⟨hk, h⟩ := h
    obtain ⟨key, hkey⟩ := Option.isSome_iff_exists.mp hk
    have ex := kD_keyOf hkey
    subst ex
    have g : DGet H c (kV key) (valV xs key) := .inl ⟨xs, key, h1, rfl, rfl⟩
    have e := h2.getIs key
    refine .inr ⟨c, _, rfl, hx.key ▸ g, ?_⟩
    rw [← e]
    exact Fin.fz f w h rfl
theorem od_notin (hu : X.A.units + 65 < cLine) : OpD X (compareOp .NotIn) .fz (oIn true) := by
  refine ⟨_, ((op_notin_str.or (op_notInD hu)).or op_notIn_seq).or (op_notinDk (by omega)), fun F H S Γ σ ρ bs x y v u q Q w hx hy h f => ?_⟩
  cases y <;> first
    | exact False.elim h
    | skip
  · cases x <;> first
      | exact False.elim h
      | skip
    exact .inl (.inl (.inl ⟨_, _, hx.str, hy.str, Fin.fz f w h rfl⟩))
  · exact .inl (.inl (.inr ⟨x, _, hx.dp w.sub (lay_of h.1), hy.dp w.sub (lay_of h.2.1), h.1, h.2.1, Fin.fz f w h.2.2 rfl⟩))
  · obtain ⟨a, vs, rfl, h1, h2⟩ := hy.tuple w.sub
    obtain ⟨f1, f2, h⟩ := h
    obtain ⟨i1, i2⟩ := any_flat (hx.fzf f1) f1 h2 f2
    refine .inl (.inr ⟨a, vs, rfl, .inr h1, hx.flat f1, i1, ?_⟩)
    simp only [if_true] at h ⊢
    rw [i2]
    exact Fin.fz f w h rfl
  · obtain ⟨c, xs, rfl, h1, h2⟩ := hy
    obtain ⟨hk, h⟩ := h
    obtain ⟨key, hkey⟩ := Option.isSome_iff_exists.mp hk
    have ex := kD_keyOf hkey
    subst ex
    have g : DGet H c (kV key) (valV xs key) := .inl ⟨xs, key, h1, rfl, rfl⟩
    have e := h2.getIs key
    refine .inr ⟨c, _, rfl, hx.key ▸ g, ?_⟩
    rw [← e]
    exact Fin.fz f w h rfl
end

/-! ### comparisons as values and as tests -/
section
variable {X : Cx} {W : WX} {Γx Γ Γ1 Γ2 Γ3 Γ' : List Ty} {a b c e : Expr} {τ τa τb τc : Ty} {ta tb tc t : TD} {ca cb : TB} {pos : Pos} {op op' : CmpOp} {o o' : D → D → (D → Prop) → Prop} {rest : List Expr}
theorem e_cmp (ho : OpD X (compareOp op) τ o) (ha : EOk X W Γx Γ a Γ1 τa ta) (hb : EOk X W Γx Γ1 b Γ2 τb tb) (va : opd Γ2 τa = true := by rfl) (vb : opd Γ2 τb = true := by rfl) (hm : behindInMarks op b = false := by rfl) :
    EOk X W Γx Γ (.Compare a [op] [b] pos) Γ2 τ (tBin o τa τb ta tb) := by
  obtain ⟨r, hr, hf⟩ := ho
  refine ⟨PE.imp (pe_cmpR hr ha.pe hb.pe hm) fun σ H Q ⟨F, S, ρ, Qd, Ed, w, q, p, px⟩ => ?_⟩
  refine bin_post (post := fun a b ρ2 => o (see τa ρ2 a) (see τb ρ2 b) fun d => Qd d ρ2) w q px va vb fun a b ρ2 h F' H' v u bs cs g x1 x2 w' => ?_
  refine hf F' H' S Γ2 σ ρ2 (bs ++ cs) _ _ v u _ Q w' x1 x2 h fun d hd F2 H2 z ds g2 rz w2 => ?_
  exact p d ρ2 hd F2 H2 z ds (g.trans g2 fun _ => .inl) rz (w2.perm List.perm_append_comm).drop
def tTest (t : TD) : TB := fun ρ Q E => t ρ (fun d ρ' => match d with
  | .bool b => Q b ρ'
  | _ => False) E
theorem Fz.bl {K : PySem.W.Frag} {F : Hp} {k : Bool} {v : V} (h : Fz K F (.bool k) v) : v = .bl k := by simpa [Fz] using h
theorem t_cmp (ho : OpD X (compareOp op) .fz o) (ha : EOk X W Γx Γ a Γ1 τa ta) (hb : EOk X W Γx Γ1 b Γ2 τb tb) (va : opd Γ2 τa = true := by rfl) (vb : opd Γ2 τb = true := by rfl) (hm : behindInMarks op b = false := by rfl) :
    TOk X W Γx Γ (.Compare a [op] [b] pos) Γ2 (tTest (tBin o τa τb ta tb)) := by
  obtain ⟨r, hr, hf⟩ := ho
  refine ⟨PT.imp (pt_cmpR hr ha.pe hb.pe hm) fun σ H Q ⟨F, S, ρ, Qd, Ed, w, q, p, px⟩ => ?_⟩
  refine bin_post (post := fun a b ρ2 => o (see τa ρ2 a) (see τb ρ2 b) fun d => match d with
    | .bool b => Qd b ρ2
    | _ => False) w q px va vb fun a b ρ2 h F' H' v u bs cs g x1 x2 w' => ?_
  refine hf F' H' S Γ2 σ ρ2 (bs ++ cs) _ _ v u _ _ w' x1 x2 h fun d hd F2 H2 z ds g2 rz w2 => ?_
  cases d with
  | bool k => exact ⟨k, rz.1.bl, p k ρ2 hd F2 H2 (g.trans g2 fun _ => .inl) w2.drop0⟩
  | _ => exact hd.elim
theorem t_val (h : EOk X W Γx Γ e Γ' .fz t) (he : ∀ whole, isTrue e X.env whole = (do let v ← whole; standAt e.pos; holding [v] (truthy v)) := by intro _; rfl) : TOk X W Γx Γ e Γ' (tTest t) := by
  refine ⟨PT.imp (pt_val h.pe he) fun σ H Q ⟨F, S, ρ, Qd, Ed, w, q, p, px⟩ => ?_⟩
  refine ⟨F, S, ρ, _, Ed, w, q, fun d ρ' hd F' H' v bs g r w' => ?_, px⟩
  cases d with
  | bool k => exact ⟨k, r.1.bl, p k ρ' hd F' H' g w'.drop0⟩
  | _ => exact hd.elim
def cNot (t : TB) : TB := fun ρ Q E => t ρ (fun b ρ' => Q (!b) ρ') E
theorem t_not (h : TOk X W Γx Γ a Γ' ca) : TOk X W Γx Γ (.UnaryOp .Not a pos) Γ' (cNot ca) := by
  refine ⟨PT.imp (pt_not h.pt) fun σ H Q ⟨F, S, ρ, Qd, Ed, w, q, p, px⟩ => ?_⟩
  exact ⟨F, S, ρ, _, Ed, w, q, fun d ρ' hd F' H' g w' => p _ ρ' hd F' H' g w', px⟩
def tNotD (t : TD) : TD := fun ρ Q E => t ρ (fun d ρ' => match d with
  | .bool b => Q (.bool (!b)) ρ'
  | _ => False) E
theorem e_not (h : EOk X W Γx Γ a Γ' .fz t) : EOk X W Γx Γ (.UnaryOp .Not a pos) Γ' .fz (tNotD t) := by
  refine ⟨PE.imp (pe_not h.pe) fun σ H Q ⟨F, S, ρ, Qd, Ed, w, q, p, px⟩ => ?_⟩
  refine ⟨F, S, ρ, _, Ed, w, q, fun d ρ' hd F' H' v bs g r w' => ?_, px⟩
  cases d with
  | bool k => exact ⟨k, r.1.bl, p _ ρ' hd F' H' _ [] g ⟨rfl, rfl⟩ w'.drop0⟩
  | _ => exact hd.elim
structure WOk (X : Cx) (W : WX) (Γx Γ : List Ty) (e : Expr) (Γ' : List Ty) (t : TB) : Prop where
  pw : PW X e (liftT X W Γx Γ Γ' t)
theorem WOk.to (h : WOk X W Γx Γ e Γ' ca) : TOk X W Γx Γ e Γ' ca := ⟨h.pw.pt⟩
def cAnd (ta tb : TB) : TB := fun ρ Q E => ta ρ (fun c ρ1 => if c = true then tb ρ1 Q E else Q false ρ1) E
def cOr (ta tb : TB) : TB := fun ρ Q E => ta ρ (fun c ρ1 => if c = true then Q true ρ1 else tb ρ1 Q E) E
theorem w_and1 (h : TOk X W Γx Γ a Γ' ca) : WOk X W Γx Γ (.BoolOp .And [a] pos) Γ' ca := ⟨pw_and1 h.pt⟩
theorem w_or1 (h : TOk X W Γx Γ a Γ' ca) : WOk X W Γx Γ (.BoolOp .Or [a] pos) Γ' ca := ⟨pw_or1 h.pt⟩
theorem w_and (ha : TOk X W Γx Γ a Γ1 ca) (hb : WOk X W Γx Γ1 (.BoolOp .And (b :: rest) pos) Γ1 cb) : WOk X W Γx Γ (.BoolOp .And (a :: b :: rest) pos) Γ1 (cAnd ca cb) := by
  refine ⟨PW.imp (pw_and ha.pt hb.pw) fun σ H Q ⟨F, S, ρ, Qd, Ed, w, q, p, px⟩ => ?_⟩
  refine ⟨F, S, ρ, _, Ed, w, q, fun d ρ' hd F' H' g w' => ?_, px⟩
  cases d with
  | true => exact iteT ⟨F', S, ρ', Qd, Ed, w', by simpa using hd, fun b ρ2 h2 F2 H2 g2 w2 => p b ρ2 h2 F2 H2 (g.trans g2 fun _ h => h) w2, fun x ρ2 hx F2 H2 cls dx g2 hr w2 => px x ρ2 hx F2 H2 cls dx (g.trans g2 fun _ h => h) hr w2⟩
  | false => exact iteF (p false ρ' (by simpa using hd) F' H' g w')
theorem w_or (ha : TOk X W Γx Γ a Γ1 ca) (hb : WOk X W Γx Γ1 (.BoolOp .Or (b :: rest) pos) Γ1 cb) : WOk X W Γx Γ (.BoolOp .Or (a :: b :: rest) pos) Γ1 (cOr ca cb) := by
  refine ⟨PW.imp (pw_or ha.pt hb.pw) fun σ H Q ⟨F, S, ρ, Qd, Ed, w, q, p, px⟩ => ?_⟩
  refine ⟨F, S, ρ, _, Ed, w, q, fun d ρ' hd F' H' g w' => ?_, px⟩
  cases d with
  | true => exact iteT (p true ρ' (by simpa using hd) F' H' g w')
  | false => exact iteF ⟨F', S, ρ', Qd, Ed, w', by simpa using hd, fun b ρ2 h2 F2 H2 g2 w2 => p b ρ2 h2 F2 H2 (g.trans g2 fun _ h => h) w2, fun x ρ2 hx F2 H2 cls dx g2 hr w2 => px x ρ2 hx F2 H2 cls dx (g.trans g2 fun _ h => h) hr w2⟩
/-- and, or as values (truths) -/
theorem iteP {A B : Prop} (h : if true = true then A else B) : A := by
  rw [if_pos rfl] at h
  exact h
theorem iteN {A B : Prop} (h : if false = true then A else B) : B := by
  rw [if_neg Bool.false_ne_true] at h
  exact h
def tAndD (ta tb : TD) : TD := fun ρ Q E => ta ρ (fun d ρ1 => match d with
  | .bool k => if k = true then tb ρ1 Q E else Q (.bool false) ρ1
  | _ => False) E
def tOrD (ta tb : TD) : TD := fun ρ Q E => ta ρ (fun d ρ1 => match d with
  | .bool k => if k = true then Q (.bool true) ρ1 else tb ρ1 Q E
  | _ => False) E
theorem e_one {bo} (h : EOk X W Γx Γ a Γ' τ t) : EOk X W Γx Γ (.BoolOp bo [a] pos) Γ' τ t := ⟨pe_one h.pe⟩
theorem e_and (ha : EOk X W Γx Γ a Γ1 .fz ta) (hb : EOk X W Γx Γ1 (.BoolOp .And (b :: rest) pos) Γ1 .fz tb) : EOk X W Γx Γ (.BoolOp .And (a :: b :: rest) pos) Γ1 .fz (tAndD ta tb) := by
  refine ⟨PE.imp (pe_and ha.pe hb.pe) fun σ H Q ⟨F, S, ρ, Qd, Ed, w, q, p, px⟩ => ?_⟩
  refine ⟨F, S, ρ, _, Ed, w, q, fun d ρ' hd F' H' v bs g r w' => ?_, px⟩
  cases d with
  | bool k =>
    refine ⟨k, r.1.bl, ?_⟩
    have w' := w'.drop0
    cases k with
    | true => exact iteT ⟨F', S, ρ', Qd, Ed, w', iteP hd, fun b ρ2 h2 F2 H2 z cs g2 rz w2 => p b ρ2 h2 F2 H2 z cs (g.trans g2 fun _ h => h) rz w2, fun x ρ2 hx F2 H2 cls dx g2 hr w2 => px x ρ2 hx F2 H2 cls dx (g.trans g2 fun _ h => h) hr w2⟩
    | false => exact iteF (p _ ρ' (iteN hd) F' H' _ [] g ⟨rfl, rfl⟩ w')
  | _ => exact hd.elim
theorem e_or (ha : EOk X W Γx Γ a Γ1 .fz ta) (hb : EOk X W Γx Γ1 (.BoolOp .Or (b :: rest) pos) Γ1 .fz tb) : EOk X W Γx Γ (.BoolOp .Or (a :: b :: rest) pos) Γ1 .fz (tOrD ta tb) := by
  refine ⟨PE.imp (pe_or ha.pe hb.pe) fun σ H Q ⟨F, S, ρ, Qd, Ed, w, q, p, px⟩ => ?_⟩
  refine ⟨F, S, ρ, _, Ed, w, q, fun d ρ' hd F' H' v bs g r w' => ?_, px⟩
  cases d with
  | bool k =>
    refine ⟨k, r.1.bl, ?_⟩
    have w' := w'.drop0
    cases k with
    | false => exact iteF ⟨F', S, ρ', Qd, Ed, w', iteN hd, fun b ρ2 h2 F2 H2 z cs g2 rz w2 => p b ρ2 h2 F2 H2 z cs (g.trans g2 fun _ h => h) rz w2, fun x ρ2 hx F2 H2 cls dx g2 hr w2 => px x ρ2 hx F2 H2 cls dx (g.trans g2 fun _ h => h) hr w2⟩
    | true => exact iteT (p _ ρ' (iteP hd) F' H' _ [] g ⟨rfl, rfl⟩ w')
  | _ => exact hd.elim
/-- a if c else b -/
def tIfD (c : TB) (ta tb : TD) : TD := fun ρ Q E => c ρ (fun k ρ1 => if k = true then ta ρ1 Q E else tb ρ1 Q E) E
theorem e_if (hc : TOk X W Γx Γ c Γ1 ca) (ha : EOk X W Γx Γ1 a Γ2 τ ta) (hb : EOk X W Γx Γ1 b Γ2 τ tb) : EOk X W Γx Γ (.IfExp c a b pos) Γ2 τ (tIfD ca ta tb) := by
  refine ⟨PE.imp (pe_ifExp hc.pt ha.pe hb.pe) fun σ H Q ⟨F, S, ρ, Qd, Ed, w, q, p, px⟩ => ?_⟩
  refine ⟨F, S, ρ, _, Ed, w, q, fun d ρ' hd F' H' g w' => ?_, px⟩
  have fin : ∀ {t : TD}, t ρ' Qd Ed → liftE X W Γx Γ1 Γ2 τ t σ H' Q := fun {t} ht =>
    ⟨F', S, ρ', Qd, Ed, w', ht, fun b ρ2 h2 F2 H2 z cs g2 rz w2 => p b ρ2 h2 F2 H2 z cs (g.trans g2 fun _ h => h) rz w2, fun x ρ2 hx F2 H2 cls dx g2 hr w2 => px x ρ2 hx F2 H2 cls dx (g.trans g2 fun _ h => h) hr w2⟩
  cases d with
  | true => exact iteT (fin (by simpa using hd))
  | false => exact iteF (fin (by simpa using hd))
/-- a op1 b op2 c -/
def tChn (o o' : D → D → (D → Prop) → Prop) (τa τb τc : Ty) (ta tb tc : TD) : TD := fun ρ Q E => ta ρ (fun a ρ1 => tb ρ1 (fun b ρ2 => o (see τa ρ2 a) (see τb ρ2 b) fun z => match z with
  | .bool k => if k = true then tc ρ2 (fun c ρ3 => o' (see τb ρ3 b) (see τc ρ3 c) fun d => Q d ρ3) E else Q (.bool false) ρ2
  | _ => False) E) E
theorem chn_post {r r' : R2} (hf : ∀ (F H : Hp) (S : AS) (Γ : List Ty) (σ : St) (ρ : List D) (bs : List Addr) (x y : D) (v u : V) (q : D → Prop) (Q : VK), Wd X.K F H S Γ σ ρ bs → Vw X.K F H x v → Vw X.K F H y u → o x y q → Fin X.K F H S Γ σ ρ bs .fz q Q → r v u H Q)
    (hf' : ∀ (F H : Hp) (S : AS) (Γ : List Ty) (σ : St) (ρ : List D) (bs : List Addr) (x y : D) (v u : V) (q : D → Prop) (Q : VK), Wd X.K F H S Γ σ ρ bs → Vw X.K F H x v → Vw X.K F H y u → o' x y q → Fin X.K F H S Γ σ ρ bs .fz q Q → r' v u H Q)
    (va : opd Γ2 τa = true) (vb : opd Γ2 τb = true) (vb' : opd Γ2 τb = true) (vc : opd Γ2 τc = true)
    {σ : St} {H : Hp} {Q : VK} {P : D → List D → Prop} {Ed : DE} {F : Hp} {S : AS} {ρ : List D} (w : Wd X.K F H S Γ σ ρ []) (q : tChn o o' τa τb τc ta tb tc ρ P Ed)
    (px : ∀ x ρ', Ed x ρ' → ∀ F' H' cls dx, Gr S F H F' H' → XRel X.mg H' x cls dx → Wd X.K F' H' S Γx σ ρ' [] → W cls dx σ H')
    (p : ∀ d ρ', P d ρ' → ∀ F' H' v bs, Gr S F H F' H' → RpV X.K F' H' σ .fz v d bs → Wd X.K F' H' S Γ2 σ ρ' bs → Q v H') :
    tChain r r' (liftE X W Γx Γ Γ1 τa ta) (liftE X W Γx Γ1 Γ2 τb tb) (liftE X W Γx Γ2 Γ2 τc tc) σ H Q := by
  refine ⟨F, S, ρ, _, Ed, w, q, fun a ρ1 q1 F1 H1 v bs g1 r1 w1 => ?_, px⟩
  obtain ⟨nd, ns⟩ := w1.held
  refine ⟨F1, fun a => S a ∨ a ∈ bs, ρ1, _, Ed, w1.lend0, q1, fun b ρ2 q2 F2 H2 u cs g2 r2 w2 => ?_, fun x ρ' hx F' H' cls dx g hr w' => px x ρ' hx F' H' cls dx (g1.trans g fun _ => .inl) hr (w'.shrink fun _ => .inl)⟩
  have w3 := w2.back nd ns
  have r1' := RpV.mono g2.fz (fun a ha => g2.eq a (.inr ha)) r1
  have g12 : Gr S F H F2 H2 := g1.trans g2 fun _ => .inl
  refine hf F2 H2 S Γ2 σ ρ2 (bs ++ cs) _ _ v u _ _ w3 (w3.view va r1') (w3.view vb r2) q2 fun d hd F3 H3 z ds g3 rz w4 => ?_
  cases d with
  | bool k =>
    refine ⟨k, rz.1.bl, ?_⟩
    have e : ds = [] := rz.2
    subst e
    have w5 : Wd X.K F3 H3 S Γ2 σ ρ2 cs := Wd.drop (bs := bs) w4
    have g13 : Gr S F H F3 H3 := g12.trans g3 fun _ => .inl
    have r2' := RpV.mono g3.fz (fun a ha => g3.eq a (.inr (List.mem_append_right _ ha))) r2
    cases k with
    | false => exact iteF (p _ ρ2 (iteN hd) F3 H3 _ [] g13 ⟨rfl, rfl⟩ w5.drop0)
    | true =>
      obtain ⟨nd', ns'⟩ := w5.held
      refine iteT ⟨F3, fun a => S a ∨ a ∈ cs, ρ2, _, Ed, w5.lend0, iteP hd, fun c ρ3 q3 F4 H4 y es g4 r4 w6 => ?_, fun x ρ' hx F' H' cls dx g hr w' => px x ρ' hx F' H' cls dx (g13.trans g fun _ => .inl) hr (w'.shrink fun _ => .inl)⟩
      have w7 := w6.back nd' ns'
      have r2'' := RpV.mono g4.fz (fun a ha => g4.eq a (.inr ha)) r2'
      have g14 : Gr S F H F4 H4 := g13.trans g4 fun _ => .inl
      refine hf' F4 H4 S Γ2 σ ρ3 (cs ++ es) _ _ u y _ _ w7 (w7.view vb' r2'') (w7.view vc r4) q3 fun d hd F5 H5 z ds g5 rz w8 => ?_
      exact p d ρ3 hd F5 H5 z ds (g14.trans g5 fun _ => .inl) rz (w8.perm List.perm_append_comm).drop
  | _ => exact hd.elim
theorem e_chain (ho : OpD X (compareOp op) .fz o) (ho' : OpD X (compareOp op') .fz o') (ha : EOk X W Γx Γ a Γ1 τa ta) (hb : EOk X W Γx Γ1 b Γ2 τb tb) (hc : EOk X W Γx Γ2 c Γ2 τc tc) (va : opd Γ2 τa = true := by rfl) (vb : opd Γ2 τb = true := by rfl) (vc : opd Γ2 τc = true := by rfl)
    (hm : lastMarks [op, op'] [b, c] = false := by with_unfolding_all rfl) : EOk X W Γx Γ (.Compare a [op, op'] [b, c] pos) Γ2 .fz (tChn o o' τa τb τc ta tb tc) := by
  obtain ⟨r, hr, hf⟩ := ho
  obtain ⟨r', hr', hf'⟩ := ho'
  exact ⟨PE.imp (pe_chain hr hr' ha.pe hb.pe hc.pe hm) fun σ H Q ⟨F, S, ρ, Qd, Ed, w, q, p, px⟩ => chn_post hf hf' va vb vb vc w q px p⟩
theorem t_chain (ho : OpD X (compareOp op) .fz o) (ho' : OpD X (compareOp op') .fz o') (ha : EOk X W Γx Γ a Γ1 τa ta) (hb : EOk X W Γx Γ1 b Γ2 τb tb) (hc : EOk X W Γx Γ2 c Γ2 τc tc) (va : opd Γ2 τa = true := by rfl) (vb : opd Γ2 τb = true := by rfl) (vc : opd Γ2 τc = true := by rfl)
    (hm : lastMarks [op, op'] [b, c] = false := by with_unfolding_all rfl) : TOk X W Γx Γ (.Compare a [op, op'] [b, c] pos) Γ2 (tTest (tChn o o' τa τb τc ta tb tc)) := by
  obtain ⟨r, hr, hf⟩ := ho
  obtain ⟨r', hr', hf'⟩ := ho'
  refine ⟨PT.imp (pt_chain hr hr' ha.pe hb.pe hc.pe hm) fun σ H Q ⟨F, S, ρ, Qd, Ed, w, q, p, px⟩ => chn_post hf hf' va vb vb vc w q px fun d ρ' hd F' H' v bs g r w' => ?_⟩
  cases d with
  | bool k => exact ⟨k, r.1.bl, p k ρ' hd F' H' g w'.drop0⟩
  | _ => exact hd.elim
end
end T2

namespace T2
open L2 PySem PySem.Spec PyProof.Rows

/-! ### argument lists -/
def RpVs (K : PySem.W.Frag) (F H : Hp) (σ : St) : List Ty → List V → List D → List Addr → Prop
  | [], vs, ds, as => vs = [] ∧ ds = [] ∧ as = []
  | t :: ts, vs, ds, as => ∃ v r d e bs cs, vs = v :: r ∧ ds = d :: e ∧ RpV K F H σ t v d bs ∧ RpVs K F H σ ts r e cs ∧ as = bs ++ cs
theorem RpVs.mono {K : PySem.W.Frag} {F F' H H' : Hp} (s : Sub F F') {σ : St} : ∀ (ts : List Ty) {vs : List V} {ds : List D} {as : List Addr}, (∀ a ∈ as, H' a = H a) → RpVs K F H σ ts vs ds as → RpVs K F' H' σ ts vs ds as
  | [], _, _, _, _, h => h
  | t :: ts, _, _, _, k, h => by
    obtain ⟨v, r, d, e, bs, cs, e1, e2, h1, h2, rfl⟩ := h
    exact ⟨v, r, d, e, bs, cs, e1, e2, RpV.mono s (fun a ha => k a (List.mem_append_left _ ha)) h1, RpVs.mono s ts (fun a ha => k a (List.mem_append_right _ ha)) h2, rfl⟩
def liftA (X : Cx) (W : WX) (Γx Γ Γ' : List Ty) (τs : List Ty) (t : TL) : TA := fun σ H Q => lft X W Γx Γ t σ H fun F H S ds ρ' =>
  ∀ F' H' vs bs, Gr S F H F' H' → RpVs X.K F' H' σ τs vs ds bs → Wd X.K F' H' S Γ' σ ρ' bs → Q vs H'
structure AOk (X : Cx) (W : WX) (Γx Γ : List Ty) (es : List Expr) (Γ' : List Ty) (τs : List Ty) (t : TL) : Prop where
  pa : PA X es (liftA X W Γx Γ Γ' τs t)
def aNil : TL := fun ρ Q _ => Q [] ρ
def aCons (ta : TD) (tr : TL) : TL := fun ρ Q E => ta ρ (fun a ρ1 => tr ρ1 (fun r ρ2 => Q (a :: r) ρ2) E) E
def sees (τs : List Ty) (ρ : List D) (ds : List D) : List D := match τs, ds with
  | τ :: τs, d :: ds => see τ ρ d :: sees τs ρ ds
  | _, _ => []
def opds (Γ : List Ty) (τs : List Ty) : Bool := τs.all (opd Γ)
def VwL (K : PySem.W.Frag) (F H : Hp) : List D → List V → Prop
  | [], vs => vs = []
  | d :: ds, vs => ∃ v r, vs = v :: r ∧ Vw K F H d v ∧ VwL K F H ds r
section
variable {X : Cx} {W : WX} {Γx Γ Γ1 Γ2 Γ3 Γ' : List Ty} {a b c e : Expr} {es : List Expr} {τ τa τb τc : Ty} {τs : List Ty} {ta tb tc t : TD} {tr : TL} {pos p2 : Pos}
theorem a_nil : AOk X W Γx Γ [] Γ [] aNil := by
  refine ⟨PA.imp pa_nil fun σ H Q ⟨F, S, ρ, Qd, Ed, w, q, p, px⟩ => ?_⟩
  exact p [] ρ q F H [] [] .refl ⟨rfl, rfl, rfl⟩ w
theorem a_cons (ha : EOk X W Γx Γ a Γ1 τ ta) (hr : AOk X W Γx Γ1 es Γ2 τs tr) (hs : starEach (a :: es) X.env = (false, eval a X.env) :: starEach es X.env := by rfl) : AOk X W Γx Γ (a :: es) Γ2 (τ :: τs) (aCons ta tr) := by
  refine ⟨PA.imp (pa_cons ha.pe hr.pa hs) fun σ H Q ⟨F, S, ρ, Qd, Ed, w, q, p, px⟩ => ?_⟩
  refine ⟨F, S, ρ, _, Ed, w, q, fun a ρ1 q1 F1 H1 v bs g1 r1 w1 => ?_, px⟩
  obtain ⟨nd, ns⟩ := w1.held
  refine ⟨F1, fun a => S a ∨ a ∈ bs, ρ1, _, Ed, w1.lend0, q1, fun b ρ2 q2 F2 H2 u cs g2 r2 w2 => ?_, fun x ρ' hx F' H' cls dx g hr w' => px x ρ' hx F' H' cls dx (g1.trans g fun _ => .inl) hr (w'.shrink fun _ => .inl)⟩
  have w3 := w2.back nd ns
  have r1' := RpV.mono g2.fz (fun a ha => g2.eq a (.inr ha)) r1
  exact p _ ρ2 q2 F2 H2 _ _ (g1.trans g2 fun _ => .inl) ⟨v, u, a, b, bs, cs, rfl, rfl, r1', r2, rfl⟩ w3
theorem Wd.views {K : PySem.W.Frag} {F H : Hp} {S : AS} {Γ : List Ty} {σ : St} {ρ : List D} {cs : List Addr} (w : Wd K F H S Γ σ ρ cs) : ∀ {τs : List Ty} {vs : List V} {ds : List D} {bs : List Addr}, opds Γ τs = true → RpVs K F H σ τs vs ds bs → VwL K F H (sees τs ρ ds) vs
  | [], _, _, _, _, h => by obtain ⟨rfl, rfl, _⟩ := h; exact rfl
  | t :: ts, _, _, _, ho, h => by
    obtain ⟨v, r, d, e, bs, cs, rfl, rfl, h1, h2, rfl⟩ := h
    simp only [opds, List.all_cons, Bool.and_eq_true] at ho
    exact ⟨v, r, rfl, w.view ho.1 h1, w.views ho.2 h2⟩
/-- all items frozen -/
def allFz (τs : List Ty) : Bool := τs.all fun t => match t with
  | .fz => true
  | _ => false
theorem RpVs.fz {K : PySem.W.Frag} {F H : Hp} {σ : St} : ∀ {τs : List Ty} {vs : List V} {ds : List D} {bs : List Addr}, allFz τs = true → RpVs K F H σ τs vs ds bs → FzL K F ds vs ∧ bs = []
  | [], _, _, _, _, h => by obtain ⟨rfl, rfl, rfl⟩ := h; exact ⟨rfl, rfl⟩
  | t :: ts, _, _, _, ho, h => by
    obtain ⟨v, r, d, e, bs, cs, rfl, rfl, h1, h2, rfl⟩ := h
    simp only [allFz, List.all_cons, Bool.and_eq_true] at ho
    cases t with
    | fz =>
      obtain ⟨i1, i2⟩ := RpVs.fz (by simpa [allFz] using ho.2) h2
      obtain ⟨h1, rfl⟩ := h1
      subst i2
      exact ⟨⟨v, r, rfl, h1, i1⟩, rfl⟩
    | _ => exact absurd ho.1 (by simp)
def tLst (tr : TL) : TD := fun ρ Q E => tr ρ (fun ds ρ' => ds.length ≤ sizeLine ∧ Q (.list ds) ρ') E
def tTup (tr : TL) : TD := fun ρ Q E => tr ρ (fun ds ρ' => ds.length ≤ sizeLine ∧ Q (.tuple ds) ρ') E
theorem e_list (h : AOk X W Γx Γ es Γ' τs tr) (hf : allFz τs = true := by rfl) : EOk X W Γx Γ (.List es pos) Γ' .ow (tLst tr) := by
  refine ⟨PE.imp (pe_lst h.pa) fun σ H Q ⟨F, S, ρ, Qd, Ed, w, q, p, px⟩ => ?_⟩
  refine ⟨F, S, ρ, _, Ed, w, q, fun ds ρ' hd F' H' vs bs g r w' => ?_, px⟩
  obtain ⟨r1, rfl⟩ := r.fz hf
  refine ⟨by rw [← r1.length]; exact hd.1, fun l np => ?_⟩
  refine p _ ρ' hd.2 F' _ (.ref l) [l] (g.trans (w'.grN np) fun _ => .inl) ?_ (w'.alloc np)
  show Rp X.K F' _ .ow (.ref l) (.list ds) [l]
  simp only [Rp]
  exact ⟨l, vs, rfl, upd_same, r1, rfl⟩
theorem e_tuple {k} (h : AOk X W Γx Γ es Γ' τs tr) (hf : allFz τs = true := by rfl) : EOk X W Γx Γ (.Tuple es k pos) Γ' .fz (tTup tr) := by
  refine ⟨PE.imp (pe_tup h.pa) fun σ H Q ⟨F, S, ρ, Qd, Ed, w, q, p, px⟩ => ?_⟩
  refine ⟨F, S, ρ, _, Ed, w, q, fun ds ρ' hd F' H' vs bs g r w' => ?_, px⟩
  obtain ⟨r1, rfl⟩ := r.fz hf
  refine ⟨by rw [← r1.length]; exact hd.1, fun l np => ?_⟩
  obtain ⟨w2, s⟩ := w'.allocF (o := .tup vs) np
  refine p _ ρ' hd.2 _ _ (.ref l) [] (g.trans (w'.grF np) fun _ => .inl) ?_ w2
  show Rp X.K (upd F' l (.tup vs)) (upd H' l (.tup vs)) .fz (.ref l) (.tuple ds) []
  simp only [Rp, Fz, and_true]
  exact ⟨l, vs, rfl, SqT.of upd_same, r1.mono s⟩

/-! ### built-ins called -/
def CalD (X : Cx) (f : Value) (τ : Ty) (o : List D → (D → Prop) → Prop) : Prop := ∃ r, CallR X f r ∧
  ∀ (F H : Hp) (S : AS) (Γ : List Ty) (σ : St) (ρ : List D) (bs : List Addr) (xs : List D) (vs : List V) (q : D → Prop) (Q : VK), Wd X.K F H S Γ σ ρ bs → VwL X.K F H xs vs → o xs q → Fin X.K F H S Γ σ ρ bs τ q Q → r vs H Q
def tCB (o : List D → (D → Prop) → Prop) (τs : List Ty) (tr : TL) : TD := fun ρ Q E => tr ρ (fun ds ρ' => o (sees τs ρ' ds) fun d => Q d ρ') E
section
variable {x : Str} {p : Pos} {id T : String} {o : List D → (D → Prop) → Prop}
theorem cb_post {r : List V → Hp → VK → Prop} (hf : ∀ (F H : Hp) (S : AS) (Γ : List Ty) (σ : St) (ρ : List D) (bs : List Addr) (xs : List D) (vs : List V) (q : D → Prop) (Q : VK), Wd X.K F H S Γ σ ρ bs → VwL X.K F H xs vs → o xs q → Fin X.K F H S Γ σ ρ bs τ q Q → r vs H Q)
    (hv : opds Γ' τs = true) {σ : St} {H : Hp} {Q : VK} (h : liftE X W Γx Γ Γ' τ (tCB o τs tr) σ H Q) : L2.tCB r (liftA X W Γx Γ Γ' τs tr) σ H Q := by
  obtain ⟨F, S, ρ, Qd, Ed, w, q, p, px⟩ := h
  refine ⟨F, S, ρ, _, Ed, w, q, fun ds ρ' hd F' H' vs bs g r w' => ?_, px⟩
  refine hf F' H' S Γ' σ ρ' bs _ vs _ Q w' (w'.views hv r) hd fun d hq F2 H2 z cs g2 rz w2 => ?_
  exact p d ρ' hq F2 H2 z cs (g.trans g2 fun _ => .inl) rz (w2.perm List.perm_append_comm).drop
theorem e_callB (hc : CalD X (.builtin id) τ o) (ha : AOk X W Γx Γ (e :: es) Γ' τs tr) (hg : Gl X x) (hm : X.mg x = none) (hv : bootBuiltins x = some (.builtin id)) (ho : opds Γ' τs = true := by rfl) (hn : x ≠ "__name__" := by decide) (hdb : (x == ("__debug__" : Str)) = false := by decide)
    (he : starEach (e :: es) X.env = (false, eval e X.env) :: starEach es X.env := by rfl) (hpl : (backTo pos (starEach es X.env)).any (·.1) = false := by rfl) : EOk X W Γx Γ (.Call (.Name x p) (e :: es) [] pos) Γ' τ (tCB o τs tr) := by
  obtain ⟨r, hr, hf⟩ := hc
  exact ⟨PE.imp (pe_callB hr hg hm hv ha.pa hn hdb he hpl) fun σ H Q h => cb_post hf ho h⟩
theorem e_callT (hc : CalD X (.type T) τ o) (ha : AOk X W Γx Γ (e :: es) Γ' τs tr) (hg : Gl X x) (hm : X.mg x = none) (hv : bootBuiltins x = some (.type T)) (ho : opds Γ' τs = true := by rfl) (hn : x ≠ "__name__" := by decide) (hdb : (x == ("__debug__" : Str)) = false := by decide)
    (he : starEach (e :: es) X.env = (false, eval e X.env) :: starEach es X.env := by rfl) (hpl : (backTo pos (starEach es X.env)).any (·.1) = false := by rfl) : EOk X W Γx Γ (.Call (.Name x p) (e :: es) [] pos) Γ' τ (tCB o τs tr) := by
  obtain ⟨r, hr, hf⟩ := hc
  exact ⟨PE.imp (pe_callTy hr hg hm hv ha.pa hn hdb he hpl) fun σ H Q h => cb_post hf ho h⟩
end
theorem VwL.one {K : PySem.W.Frag} {F H : Hp} {d : D} {vs : List V} (h : VwL K F H [d] vs) : ∃ v, vs = [v] ∧ Vw K F H d v := by
  obtain ⟨v, r, rfl, h1, h2⟩ := h
  cases (show r = [] from h2)
  exact ⟨v, rfl, h1⟩
theorem VwL.two {K : PySem.W.Frag} {F H : Hp} {d e : D} {vs : List V} (h : VwL K F H [d, e] vs) : ∃ v u, vs = [v, u] ∧ Vw K F H d v ∧ Vw K F H e u := by
  obtain ⟨v, r, rfl, h1, u, r2, rfl, h2, h3⟩ := h
  cases (show r2 = [] from h3)
  exact ⟨v, u, rfl, h1, h2⟩
/-- len -/
def oLen (xs : List D) (q : D → Prop) : Prop := match xs with
  | [.list ds] => q (.int ds.length)
  | [.tuple ds] => q (.int ds.length)
  | [.str x] => x.length ≤ sizeLine ∧ q (.int x.length)
  | _ => False
theorem cd_len : CalD X (.builtin "len") .fz oLen := by
  refine ⟨_, call_len, fun F H S Γ σ ρ bs xs vs q Q w hx h f => ?_⟩
  unfold oLen at h
  split at h
  · obtain ⟨v, rfl, hv⟩ := hx.one
    obtain ⟨a, us, rfl, h1, h2⟩ := hv.list
    exact ⟨_, us.length, rfl, .inl ⟨us, h1, rfl⟩, by rw [← h2.length]; exact Fin.fz f w h rfl⟩
  · obtain ⟨v, rfl, hv⟩ := hx.one
    obtain ⟨a, us, rfl, h1, h2⟩ := hv.tuple w.sub
    exact ⟨_, us.length, rfl, .inr ⟨us, h1, rfl⟩, by rw [← h2.length]; exact Fin.fz f w h rfl⟩
  · obtain ⟨v, rfl, hv⟩ := hx.one
    cases hv.str
    exact ⟨_, _, rfl, ⟨h.1, rfl⟩, Fin.fz f w h.2 rfl⟩
  · exact h.elim
/-- list(x), tuple(x) -/
def oList (xs : List D) (q : D → Prop) : Prop := match xs with
  | [.list ds] => q (.list ds)
  | [.tuple ds] => q (.list ds)
  | _ => False
theorem cd_list : CalD X (.type "list") .ow oList := by
  refine ⟨_, call_list_of, fun F H S Γ σ ρ bs xs vs q Q w hx h f => ?_⟩
  unfold oList at h
  split at h
  · obtain ⟨v, rfl, hv⟩ := hx.one
    obtain ⟨a, us, rfl, h1, h2⟩ := hv.list
    exact ⟨a, us, rfl, .inl h1, fun p np => Fin.nl f w np h h2⟩
  · obtain ⟨v, rfl, hv⟩ := hx.one
    obtain ⟨a, us, rfl, h1, h2⟩ := hv.tuple w.sub
    exact ⟨a, us, rfl, .inr h1, fun p np => Fin.nl f w np h h2⟩
  · exact h.elim
def oTuple (xs : List D) (q : D → Prop) : Prop := match xs with
  | [.list ds] => q (.tuple ds)
  | [.tuple ds] => q (.tuple ds)
  | _ => False
theorem cd_tuple : CalD X (.type "tuple") .fz oTuple := by
  refine ⟨_, call_tuple_of, fun F H S Γ σ ρ bs xs vs q Q w hx h f => ?_⟩
  unfold oTuple at h
  split at h
  · obtain ⟨v, rfl, hv⟩ := hx.one
    obtain ⟨a, us, rfl, h1, h2⟩ := hv.list
    exact ⟨a, us, rfl, .inl ⟨h1, fun p np => Fin.ntf f w np h h2⟩⟩
  · obtain ⟨v, rfl, hv⟩ := hx.one
    obtain ⟨a, us, rfl, h1, h2⟩ := hv.tuple w.sub
    refine ⟨a, us, rfl, .inr ⟨h1, ?_⟩⟩
    exact Fin.fz f w h hv
  · exact h.elim
/-- int(n), int(truth); str(n); min, max of two ints; sum; abs -/
def oInt (xs : List D) (q : D → Prop) : Prop := match xs with
  | [.int i] => q (.int i)
  | [.bool b] => q (.int (if b = true then 1 else 0))
  | _ => False
theorem cd_int : CalD X (.type "int") .fz oInt := by
  refine ⟨_, call_int1, fun F H S Γ σ ρ bs xs vs q Q w hx h f => ?_⟩
  unfold oInt at h
  split at h
  · obtain ⟨v, rfl, hv⟩ := hx.one
    cases hv.int
    exact .inl ⟨_, rfl, Fin.fz f w h rfl⟩
  · obtain ⟨v, rfl, hv⟩ := hx.one
    cases hv.bool
    exact .inr ⟨_, rfl, Fin.fz f w h rfl⟩
  · exact h.elim
def oStr (xs : List D) (q : D → Prop) : Prop := match xs with
  | [.int i] => Fit i ∧ q (.str (toString i))
  | _ => False
theorem cd_str : CalD X (.type "str") .fz oStr := by
  refine ⟨_, call_str_int, fun F H S Γ σ ρ bs xs vs q Q w hx h f => ?_⟩
  unfold oStr at h
  split at h
  · obtain ⟨v, rfl, hv⟩ := hx.one
    cases hv.int
    exact ⟨_, rfl, Nat.lt_of_lt_of_le h.1.log (by decide), Fin.fz f w h.2 rfl⟩
  · exact h.elim
def oMin2 (xs : List D) (q : D → Prop) : Prop := match xs with
  | [.int i, .int j] => q (.int (if j < i then j else i))
  | _ => False
def oMax2 (xs : List D) (q : D → Prop) : Prop := match xs with
  | [.int i, .int j] => q (.int (if j > i then j else i))
  | _ => False
theorem cd_min2 (hc : X.calm = true) : CalD X (.builtin "min") .fz oMin2 := by
  refine ⟨_, call_min2 hc, fun F H S Γ σ ρ bs xs vs q Q w hx h f => ?_⟩
  unfold oMin2 at h
  split at h
  · obtain ⟨v, u, rfl, hv, hu⟩ := hx.two
    cases hv.int; cases hu.int
    exact ⟨_, _, rfl, Fin.fz f w h rfl⟩
  · exact h.elim
theorem cd_max2 (hc : X.calm = true) : CalD X (.builtin "max") .fz oMax2 := by
  refine ⟨_, call_max2 hc, fun F H S Γ σ ρ bs xs vs q Q w hx h f => ?_⟩
  unfold oMax2 at h
  split at h
  · obtain ⟨v, u, rfl, hv, hu⟩ := hx.two
    cases hv.int; cases hu.int
    exact ⟨_, _, rfl, Fin.fz f w h rfl⟩
  · exact h.elim
def oAbs (xs : List D) (q : D → Prop) : Prop := match xs with
  | [.int i] => q (.int (if i < 0 then -i else i))
  | _ => False
theorem cd_abs : CalD X (.builtin "abs") .fz oAbs := by
  refine ⟨_, call_abs, fun F H S Γ σ ρ bs xs vs q Q w hx h f => ?_⟩
  unfold oAbs at h
  split at h
  · obtain ⟨v, rfl, hv⟩ := hx.one
    cases hv.int
    exact ⟨_, rfl, Fin.fz f w h rfl⟩
  · exact h.elim

/-! ### isinstance(e, T), T a built-in type -/
def tyN (d : D) : String := match d with
  | .none => "NoneType"
  | .bool _ => "bool"
  | .int _ => "int"
  | .str _ => "str"
  | .list _ => "list"
  | .tuple _ => "tuple"
  | .dict _ => "dict"
theorem isinst_vw {pins : List (Addr × Obj)} {σ : St} {F H : Hp} {s : Shared} {A : Around} {E : Value → Shared → Prop} {Q : Value → Shared → Prop} {cc : Value} {bb : Bool} {d : D} {v : V} {u : Value} (I : Inv X pins σ H s) (sb : Sub F H) (rx : RelV v u) (hv : Vw X.K F H d v)
    (e : PySem.W.kitOne X.K (.type (tyN d)) cc = some bb) (h : ∀ tk, Q (.bool bb) { s with toks := tk }) : wpAny (model X.prog X.w) A (call (.builtin "isinstance") [u, cc]) Q E s := by
  cases d with
  | none => cases hv.none; cases (show u = Value.none from rx); exact PySem.W.kia_one PySem.W.kitx_none I.kIn True.intro e (fun z => nomatch z) h
  | bool y => cases hv.bool; cases (show u = Value.bool y from rx); exact PySem.W.kia_one PySem.W.kitx_bool I.kIn True.intro e (fun z => nomatch z) h
  | int i => cases hv.int; obtain ⟨t, q⟩ := (show ∃ t, u = Value.int i t from rx); cases q; exact PySem.W.kia_one PySem.W.kitx_int I.kIn True.intro e (fun z => nomatch z) h
  | str y => cases hv.str; obtain ⟨t, q⟩ := (show ∃ t, u = Value.str y t from rx); cases q; exact PySem.W.kia_one PySem.W.kitx_str I.kIn True.intro e (fun z => nomatch z) h
  | list ds =>
    obtain ⟨a, vs, rfl, h1, _⟩ := hv.list
    cases (show u = Value.ref a from rx)
    obtain ⟨_, _, n, _, _, _, h1⟩ := rdM I h1
    exact PySem.W.kia_one PySem.W.kitx_list I.kIn ⟨_, h1, rfl⟩ e (fun z => nomatch z) h
  | tuple ds =>
    obtain ⟨a, vs, rfl, h1, _⟩ := hv.tuple sb
    cases (show u = Value.ref a from rx)
    obtain ⟨its, _, ⟨o, e1, e2, _⟩, _⟩ := I.tuple h1
    exact PySem.W.kia_one PySem.W.kitx_tuple I.kIn ⟨o, e1, e2⟩ e (fun z => nomatch z) h
  | dict ds =>
    obtain ⟨a, xs, rfl, h1, _⟩ := hv
    cases (show u = Value.ref a from rx)
    obtain ⟨_, _, vs, _, o, es, ep, ho, hx, _⟩ := Rd.ok h1 I.hok
    exact PySem.W.kia_one PySem.W.kitx_dict I.kIn ⟨o, ho, hx.1⟩ e (fun z => nomatch z) h
/-- the answer, for one built-in type -/
inductive BT where
  | bool | int | str | list | tuple
def BT.nm : BT → String
  | .bool => "bool" | .int => "int" | .str => "str" | .list => "list" | .tuple => "tuple"
def isi (T : BT) (d : D) : Bool := match d, T with
  | .bool _, .bool => true
  | .bool _, .int => true
  | .int _, .int => true
  | .str _, .str => true
  | .list _, .list => true
  | .tuple _, .tuple => true
  | _, _ => false
theorem isi_kit {K : PySem.W.Frag} (T : BT) (d : D) : PySem.W.kitOne K (.type (tyN d)) (.type T.nm) = some (isi T d) := by
  have key : ∀ t ∈ ["NoneType", "bool", "int", "str", "list", "tuple", "dict"], ∀ T ∈ ["bool", "int", "str", "list", "tuple"], kitB t T = some (t == T || (t == "bool" && T == "int")) := by decide +kernel
  cases d with
  | dict k => cases T <;> exact kit_ty (key _ (by simp [tyN]) _ (by simp [BT.nm]))
  | none => cases T <;> exact kit_ty (key _ (by simp [tyN]) _ (by simp [BT.nm]))
  | bool _ => cases T <;> exact kit_ty (key _ (by simp [tyN]) _ (by simp [BT.nm]))
  | int _ => cases T <;> exact kit_ty (key _ (by simp [tyN]) _ (by simp [BT.nm]))
  | str _ => cases T <;> exact kit_ty (key _ (by simp [tyN]) _ (by simp [BT.nm]))
  | list _ => cases T <;> exact kit_ty (key _ (by simp [tyN]) _ (by simp [BT.nm]))
  | tuple _ => cases T <;> exact kit_ty (key _ (by simp [tyN]) _ (by simp [BT.nm]))
def rIsiD (X : Cx) (T : BT) : List V → Hp → VK → Prop := fun xs H Q => ∃ F d v, xs = [v, .ty T.nm] ∧ Sub F H ∧ Vw X.K F H d v ∧ Q (.bl (isi T d)) H
theorem call_isiD {T : BT} : CallR X (.builtin "isinstance") (rIsiD X T) := by
  intro pins s σ H xs us Q I r h
  obtain ⟨F, d, v, rfl, sb, hv, q⟩ := h
  obtain ⟨u1, u2, rfl, r1, r2⟩ := vals2 r
  cases (show u2 = Value.type T.nm from r2)
  exact isinst_vw I sb r1 hv (isi_kit T d) fun tk => ⟨.bl _, H, I.tok tk, rfl, q⟩
def tIsi (T : BT) (τ : Ty) (t : TD) : TD := fun ρ Q E => t ρ (fun d ρ' => Q (.bool (isi T (see τ ρ' d))) ρ') E
theorem e_isi (T : BT) {x y : Str} {p py : Pos} (h : EOk X W Γx Γ a Γ' τ t) (hg : Gl X x) (hm : X.mg x = none) (hv : bootBuiltins x = some (.builtin "isinstance")) (hgy : Gl X y) (hmy : X.mg y = none) (hvy : bootBuiltins y = some (.type T.nm)) (ho : opd Γ' τ = true := by rfl)
    (hn : x ≠ "__name__" := by decide) (hdb : (x == ("__debug__" : Str)) = false := by decide) (hny : y ≠ "__name__" := by decide) (hdby : (y == ("__debug__" : Str)) = false := by decide)
    (he : starEach (a :: [.Name y py]) X.env = (false, eval a X.env) :: starEach [.Name y py] X.env := by rfl) (hpl : (backTo pos (starEach [.Name y py] X.env)).any (·.1) = false := by rfl) :
    EOk X W Γx Γ (.Call (.Name x p) [a, .Name y py] [] pos) Γ' .fz (tIsi T τ t) := by
  refine ⟨PE.imp (pe_callB (call_isiD (T := T)) hg hm hv (pa_cons h.pe (pa_cons (pe_bltn (v := .ty T.nm) hgy hmy hvy rfl hny hdby) pa_nil) he) hn hdb he hpl) fun σ H Q ⟨F, S, ρ, Qd, Ed, w, q, p, px⟩ => ?_⟩
  refine ⟨F, S, ρ, _, Ed, w, q, fun d ρ' hd F' H' v bs g r w' => ?_, px⟩
  exact ⟨F', _, v, rfl, w'.sub, w'.view ho r, p _ ρ' hd F' H' _ [] g ⟨rfl, rfl⟩ w'.drop0⟩

/-! ### an item -/
def oIx (a b : D) (q : D → Prop) : Prop := match b with
  | .int i => (match a with
    | .list ds => ∃ d, atI ds i = some d ∧ q d
    | .tuple ds => ∃ d, atI ds i = some d ∧ q d
    | .str x => x.length ≤ sizeLine ∧ ∃ c, atI x.cps.toList i = some c ∧ q (.str ⟨#[c]⟩)
    | .dict kvs => ∃ d, dget kvs (.int i) = some d ∧ q d
    | _ => False)
  | .str z => (match a with
    | .dict kvs => ∃ d, dget kvs (.str z) = some d ∧ q d
    | _ => False)
  | _ => False
theorem FzL.at {K : PySem.W.Frag} {F : Hp} {ds : List D} {vs : List V} {i : Int} {d : D} (h : FzL K F ds vs) (e : atI ds i = some d) : ∃ v, atI vs i = some v ∧ Fz K F d v := by
  unfold atI at e ⊢
  rw [← h.length]
  cases q : ixN ds.length i with
  | none => rw [q] at e; cases e
  | some j =>
    rw [q] at e
    exact h.get e
theorem e_ix (hu : X.A.units + 1 < cLine) (ha : EOk X W Γx Γ a Γ1 τa ta) (hb : EOk X W Γx Γ1 b Γ2 τb tb) (va : opd Γ2 τa = true := by rfl) (vb : opd Γ2 τb = true := by rfl) (hs : PlainIx b := by exact fun _ _ => rfl) :
    EOk X W Γx Γ (.Subscript a b pos) Γ2 .fz (tBin oIx τa τb ta tb) := by
  refine ⟨PE.imp (pe_ix (ix_seq.or (ix_Dk hu)) ha.pe hb.pe hs) fun σ H Q ⟨F, S, ρ, Qd, Ed, w, q, p, px⟩ => ?_⟩
  refine bin_post (post := fun a b ρ2 => oIx (see τa ρ2 a) (see τb ρ2 b) fun d => Qd d ρ2) w q px va vb fun a b ρ2 h F' H' v u bs cs g x1 x2 w' => ?_
  have fin : ∀ {d v}, Qd d ρ2 → Fz X.K F' d v → Q v H' := fun {d v} h hv => p d ρ2 h F' H' v [] g ⟨hv, rfl⟩ w'.drop0
  revert h x1 x2
  generalize see τa ρ2 a = da
  generalize see τb ρ2 b = db
  intro h x1 x2
  cases db with
  | int i =>
    cases x2.int
    cases da with
    | list ds =>
      obtain ⟨l, us, rfl, h1, h2⟩ := x1.list
      obtain ⟨d, e, h⟩ := h
      obtain ⟨z, e2, hz⟩ := h2.at e
      exact .inl (.inl ⟨l, us, i, z, rfl, rfl, h1, e2, fin h hz⟩)
    | tuple ds =>
      obtain ⟨l, us, rfl, h1, h2⟩ := x1.tuple w'.sub
      obtain ⟨d, e, h⟩ := h
      obtain ⟨z, e2, hz⟩ := h2.at e
      exact .inl (.inr (.inl ⟨l, us, i, z, rfl, rfl, h1, e2, fin h hz⟩))
    | str x =>
      cases x1.str
      obtain ⟨h0, c, e, h⟩ := h
      exact .inl (.inr (.inr ⟨x, i, c, rfl, rfl, h0, e, fin h rfl⟩))
    | dict kvs =>
      obtain ⟨c, xs, rfl, h1, h2⟩ := x1
      obtain ⟨d, e, h⟩ := h
      rcases h2.get (.inl i) with ⟨z1, _⟩ | ⟨d', z, z1, z2, hz⟩
      · rw [show dget kvs (.int i) = none from z1] at e; cases e
      · rw [show dget kvs (.int i) = some d' from z1] at e
        cases e
        exact .inr ⟨c, z, rfl, .inl ⟨xs, .inl i, h1, rfl, z2.symm⟩, fin h hz⟩
    | _ => exact h.elim
  | str y =>
    cases x2.str
    cases da with
    | dict kvs =>
      obtain ⟨c, xs, rfl, h1, h2⟩ := x1
      obtain ⟨d, e, h⟩ := h
      rcases h2.get (.inr y) with ⟨z1, _⟩ | ⟨d', z, z1, z2, hz⟩
      · rw [show dget kvs (.str y) = none from z1] at e; cases e
      · rw [show dget kvs (.str y) = some d' from z1] at e
        cases e
        exact .inr ⟨c, z, rfl, .inl ⟨xs, .inr y, h1, rfl, z2.symm⟩, fin h hz⟩
    | _ => exact h.elim
  | _ => exact h.elim

/-! ### slices -/
abbrev TP := List D → (Option Int → List D → Prop) → DE → Prop
def liftP (X : Cx) (W : WX) (Γx Γ Γ' : List Ty) (t : TP) : TO := fun σ H Q => lft X W Γx Γ t σ H fun F H S o ρ' => ∀ F' H', Gr S F H F' H' → Wd X.K F' H' S Γ' σ ρ' [] → Q o H'
theorem PO.imp {X : Cx} {e : Option Expr} {t t' : TO} (p : PO X e t) (h : ∀ σ H Q, t' σ H Q → t σ H Q) : PO X e t' := ⟨fun pins s σ H Q I q => p.run pins s σ H Q I (h σ H Q q)⟩
structure POk (X : Cx) (W : WX) (Γx Γ : List Ty) (e : Option Expr) (Γ' : List Ty) (t : TP) : Prop where
  po : PO X e (liftP X W Γx Γ Γ' t)
def pNone : TP := fun ρ Q _ => Q none ρ
def pSome (t : TD) : TP := fun ρ Q E => t ρ (fun d ρ' => match d with
  | .int i => Q (some i) ρ'
  | _ => False) E
theorem Fz.int {K : PySem.W.Frag} {F : Hp} {k : Int} {v : V} (h : Fz K F (.int k) v) : v = .int k := by simpa [Fz] using h
theorem p_none : POk X W Γx Γ none Γ pNone := ⟨PO.imp po_none fun σ H Q ⟨F, S, ρ, Qd, Ed, w, q, p, px⟩ => p none ρ q F H .refl w⟩
theorem p_some (h : EOk X W Γx Γ a Γ' .fz t) : POk X W Γx Γ (some a) Γ' (pSome t) := by
  refine ⟨PO.imp (po_some h.pe) fun σ H Q ⟨F, S, ρ, Qd, Ed, w, q, p, px⟩ => ?_⟩
  refine ⟨F, S, ρ, _, Ed, w, q, fun d ρ' hd F' H' v bs g r w' => ?_, px⟩
  cases d with
  | int k => exact ⟨k, r.1.int, p _ ρ' hd F' H' g w'.drop0⟩
  | _ => exact hd.elim
def cutD {α : Type} (xs : List α) (lo hi : Option Int) : List α := (xs.drop (HT.sIx xs.length 0 lo)).take (HT.sIx xs.length xs.length hi - HT.sIx xs.length 0 lo)
theorem FzL.cut {K : PySem.W.Frag} {F : Hp} {ds : List D} {vs : List V} (h : FzL K F ds vs) (lo hi : Option Int) : FzL K F (cutD ds lo hi) (cutV vs lo hi) := by
  unfold cutD cutV
  rw [h.length]
  exact (h.drop _).take _
def oSl (a : D) (lo hi : Option Int) (q : D → Prop) : Prop := match a with
  | .list ds => q (.list (cutD ds lo hi))
  | .tuple ds => q (.tuple (cutD ds lo hi))
  | .str x => x.length ≤ sizeLine ∧ q (.str (cutS x lo hi))
  | _ => False
def tSl (τ : Ty) (t : TD) (lo hi : TP) : TD := fun ρ Q E => t ρ (fun d ρ1 => lo ρ1 (fun l ρ2 => hi ρ2 (fun u ρ3 => oSl (see τ ρ3 d) l u fun d => Q d ρ3) E) E) E
theorem e_slice {lo hi : Option Expr} {tl th : TP} (ha : EOk X W Γx Γ a Γ1 τ t) (hl : POk X W Γx Γ1 lo Γ2 tl) (hh : POk X W Γx Γ2 hi Γ3 th) (va : opd Γ3 τ = true := by rfl) : EOk X W Γx Γ (.Subscript a (.Slice lo hi none p2) pos) Γ3 .ow (tSl τ t tl th) := by
  refine ⟨PE.imp (pe_slice ((sl_list.or sl_tupA).or sl_str) ha.pe hl.po hh.po) fun σ H Q ⟨F, S, ρ, Qd, Ed, w, q, p, px⟩ => ?_⟩
  refine ⟨F, S, ρ, _, Ed, w, q, fun d ρ1 q1 F1 H1 v bs g1 r1 w1 => ?_, px⟩
  obtain ⟨nd, ns⟩ := w1.held
  refine ⟨F1, fun a => S a ∨ a ∈ bs, ρ1, _, Ed, w1.lend0, q1, fun l ρ2 q2 F2 H2 g2 w2 => ?_, fun x ρ' hx F' H' cls dx g hr w' => px x ρ' hx F' H' cls dx (g1.trans g fun _ => .inl) hr (w'.shrink fun _ => .inl)⟩
  refine ⟨F2, fun a => S a ∨ a ∈ bs, ρ2, _, Ed, w2, q2, fun u ρ3 q3 F3 H3 g3 w3 => ?_, fun x ρ' hx F' H' cls dx g hr w' => px x ρ' hx F' H' cls dx (g1.trans (g2.trans g fun _ h => h) fun _ => .inl) hr (w'.shrink fun _ => .inl)⟩
  have w4 : Wd X.K F3 H3 S Γ3 σ ρ3 bs := by
    have := w3.back nd ns
    rwa [List.append_nil] at this
  have g23 := g2.trans g3 fun _ h => h
  have r1' := RpV.mono g23.fz (fun a ha => g23.eq a (.inr ha)) r1
  have x1 := w4.view va r1'
  have g13 : Gr S F H F3 H3 := g1.trans g23 fun _ => .inl
  have f : Fin X.K F3 H3 S Γ3 σ ρ3 bs .ow (fun d => Qd d ρ3) Q := fun d hd F' H' z cs g rz w' => p d ρ3 hd F' H' z cs (g13.trans g fun _ => .inl) rz (w'.perm List.perm_append_comm).drop
  revert q3 x1
  generalize see τ ρ3 d = da
  intro q3 x1
  cases da with
  | list ds =>
    obtain ⟨a, us, rfl, h1, h2⟩ := x1.list
    exact .inl (.inl ⟨a, us, rfl, h1, fun p np => Fin.nl f w4 np q3 (h2.cut _ _)⟩)
  | tuple ds =>
    obtain ⟨a, us, rfl, h1, h2⟩ := x1.tuple w4.sub
    refine .inl (.inr ⟨a, us, rfl, h1, fun hw => ?_, fun _ p np => Fin.nt f w4 np q3 (h2.cut _ _)⟩)
    rw [← h2.length] at hw
    have e : cutD ds l u = ds := by
      unfold cutD
      rw [hw.1, hw.2, List.drop_zero, Nat.sub_zero, List.take_length]
    have q3' : Qd (.tuple (cutD ds l u)) ρ3 := q3
    rw [e] at q3'
    exact Fin.sc f w4 q3' x1 trivial
  | str x =>
    cases x1.str
    exact .inr ⟨x, rfl, q3.1, Fin.sc f w4 q3.2 rfl trivial⟩
  | _ => exact q3.elim
end
end T2

namespace T2
open L2 PySem PySem.Spec PyProof.Rows

/-! ### statements -/
structure Post where
  nx : List D → Prop
  rt : D → List D → Prop
  bk : List D → Prop
  ct : List D → Prop
  ex : DE
abbrev SM := List D → Post → Prop
structure TC where
  nx : List Ty
  rt : List Ty
  rty : Ty
  bk : List Ty
  ct : List Ty
  ex : List Ty
def Io (ios : List Nat) (σ0 σ : St) : Prop := ∀ i ∈ ios, σ[i]? = σ0[i]?
theorem Io.set {ios : List Nat} {σ0 σ : St} {i : Nat} {o : Option V} (h : Io ios σ0 σ) (hi : ios.contains i = false) : Io ios σ0 (σ.set i o) := fun j hj => by
  have : i ≠ j := fun e => by
    subst e
    rw [List.contains_iff_mem.mpr hj] at hi
    cases hi
  rw [List.getElem?_set_ne this]
  exact h j hj
structure Cn (X : Cx) (W : WX) (ios : List Nat) (σ0 : St) (C : TC) (F H : Hp) (S : AS) (P : Post) (D : Ends) : Prop where
  nx : ∀ ρ', P.nx ρ' → ∀ F' H' σ', Gr S F H F' H' → Io ios σ0 σ' → Wd X.K F' H' S C.nx σ' ρ' [] → D.nx σ' H'
  rt : ∀ d ρ', P.rt d ρ' → ∀ F' H' σ' v bs, Gr S F H F' H' → Io ios σ0 σ' → Rp X.K F' H' C.rty v d bs → Wd X.K F' H' S C.rt σ' ρ' bs → D.rt v H'
  bk : ∀ ρ', P.bk ρ' → ∀ F' H' σ', Gr S F H F' H' → Io ios σ0 σ' → Wd X.K F' H' S C.bk σ' ρ' [] → D.bk σ' H'
  ct : ∀ ρ', P.ct ρ' → ∀ F' H' σ', Gr S F H F' H' → Io ios σ0 σ' → Wd X.K F' H' S C.ct σ' ρ' [] → D.ct σ' H'
  ex : ∀ x ρ', P.ex x ρ' → ∀ F' H' σ' cls dx, Gr S F H F' H' → Io ios σ0 σ' → XRel X.mg H' x cls dx → Wd X.K F' H' S C.ex σ' ρ' [] → W cls dx σ' H'
theorem Cn.later {X : Cx} {W : WX} {ios : List Nat} {σ0 : St} {C : TC} {F H F1 H1 : Hp} {S : AS} {P : Post} {D : Ends} (c : Cn X W ios σ0 C F H S P D) (g : Gr S F H F1 H1) : Cn X W ios σ0 C F1 H1 S P D :=
  ⟨fun ρ' h F' H' σ' g' => c.nx ρ' h F' H' σ' (g.trans g' fun _ h => h), fun d ρ' h F' H' σ' v bs g' => c.rt d ρ' h F' H' σ' v bs (g.trans g' fun _ h => h),
    fun ρ' h F' H' σ' g' => c.bk ρ' h F' H' σ' (g.trans g' fun _ h => h), fun ρ' h F' H' σ' g' => c.ct ρ' h F' H' σ' (g.trans g' fun _ h => h),
    fun x ρ' h F' H' σ' cls dx g' => c.ex x ρ' h F' H' σ' cls dx (g.trans g' fun _ h => h)⟩
def liftS (X : Cx) (W : WX) (ios : List Nat) (σ0 : St) (Γ : List Ty) (C : TC) (sm : SM) : TS := fun D σ H =>
  ∃ F S ρ P, Wd X.K F H S Γ σ ρ [] ∧ Io ios σ0 σ ∧ sm ρ P ∧ Cn X W ios σ0 C F H S P D
structure SOk (X : Cx) (W : WX) (ios : List Nat) (σ0 : St) (Γ : List Ty) (st : Stmt) (C : TC) (sm : SM) : Prop where
  ps : PS X st (liftS X W ios σ0 Γ C sm)
structure BOk (X : Cx) (W : WX) (ios : List Nat) (σ0 : St) (Γ : List Ty) (st : List Stmt) (C : TC) (sm : SM) : Prop where
  ps : PSs X st (liftS X W ios σ0 Γ C sm)

/-! ### weaker slots -/
mutual
def Ty.eqb : Ty → Ty → Bool
  | .bot, .bot => true
  | .fz, .fz => true
  | .ow, .ow => true
  | .pk i, .pk j => i == j
  | .mv i a, .mv j b => i == j && Ty.eqb a b
  | .ol a, .ol b => Ty.eqb a b
  | .tp as, .tp bs => Ty.eqbs as bs
  | .xh, .xh => true
  | _, _ => false
def Ty.eqbs : List Ty → List Ty → Bool
  | [], [] => true
  | a :: as, b :: bs => Ty.eqb a b && Ty.eqbs as bs
  | _, _ => false
end
mutual
theorem Ty.eqb_eq : ∀ {a b : Ty}, Ty.eqb a b = true → a = b
  | .bot, b, h => by cases b <;> simp_all [Ty.eqb]
  | .fz, b, h => by cases b <;> simp_all [Ty.eqb]
  | .ow, b, h => by cases b <;> simp_all [Ty.eqb]
  | .pk i, b, h => by cases b <;> simp_all [Ty.eqb]
  | .mv i a, b, h => by
    cases b with
    | mv j c =>
      simp only [Ty.eqb, Bool.and_eq_true, beq_iff_eq] at h
      rw [h.1, Ty.eqb_eq h.2]
    | _ => simp [Ty.eqb] at h
  | .ol a, b, h => by
    cases b with
    | ol c =>
      simp only [Ty.eqb] at h
      rw [Ty.eqb_eq h]
    | _ => simp [Ty.eqb] at h
  | .tp as, b, h => by
    cases b with
    | tp bs =>
      simp only [Ty.eqb] at h
      rw [Ty.eqbs_eq h]
    | _ => simp [Ty.eqb] at h
  | .xh, b, h => by cases b <;> simp_all [Ty.eqb]
theorem Ty.eqbs_eq : ∀ {a b : List Ty}, Ty.eqbs a b = true → a = b
  | [], b, h => by cases b <;> simp_all [Ty.eqbs]
  | a :: as, b, h => by
    cases b with
    | cons c cs =>
      simp only [Ty.eqbs, Bool.and_eq_true] at h
      rw [Ty.eqb_eq h.1, Ty.eqbs_eq h.2]
    | nil => simp [Ty.eqbs] at h
end
def le1 (a b : Ty) : Bool := match b with
  | .bot => true
  | .fz => (match a with
    | .fz => true
    | .ow => true
    | _ => false)
  | b => Ty.eqb a b
def tyLe : List Ty → List Ty → Bool
  | [], [] => true
  | a :: as, b :: bs => le1 a b && tyLe as bs
  | _, _ => false
section
variable {K : PySem.W.Frag} {F H : Hp} {S : AS} {Γ Γ' : List Ty} {σ : St} {ρ : List D} {bs : List Addr}
/-- the slots' part of it, from the left -/
theorem RpS.weak {σ : St} {ρ : List D} {as : List Addr} (h : RpS K F H Γ σ ρ as) : ∀ {Γ'}, tyLe Γ Γ' = true → Sub F H → (as.Nodup ∧ ∀ a ∈ as, F a = none) →
    ∃ F' as', Sub F F' ∧ Sub F' H ∧ (∀ b, F' b ≠ F b → b ∈ as) ∧ RpS K F' H Γ' σ ρ as' ∧ as'.Sublist as ∧ ∀ b ∈ as', F' b = F b := by
  induction h with
  | nil =>
    intro Γ' e sb nd
    cases Γ' with
    | nil => exact ⟨_, [], .refl _, sb, fun b hb => absurd rfl hb, .nil, .slnil, fun b hb => by simp at hb⟩
    | cons _ _ => simp [tyLe] at e
  | @cons t o d as Γ σ ρ cs h1 h2 ih =>
    intro Γ' e sb nd
    cases Γ' with
    | nil => simp [tyLe] at e
    | cons t' Γ' =>
      simp only [tyLe, Bool.and_eq_true] at e
      obtain ⟨nd, fr⟩ := nd
      obtain ⟨n1, n2, n3⟩ := List.nodup_append.mp nd
      obtain ⟨F1, cs', s1, sb1, ch1, r1, sl1, kp1⟩ := ih e.2 sb ⟨n2, fun a ha => fr a (List.mem_append_right _ ha)⟩
      have as1 : ∀ a ∈ as, F1 a = F a := fun a ha => by
        by_cases q : F1 a = F a
        · exact q
        · exact absurd rfl (n3 a ha a (ch1 a q))
      have le := e.1
      -- the first slot
      by_cases hb : t' = .bot
      · subst hb
        refine ⟨F1, [] ++ cs', s1, sb1, fun b hb => List.mem_append_right _ (ch1 b hb), .cons (t := .bot) rfl r1, ?_, fun b hb => kp1 b (by simpa using hb)⟩
        exact List.Sublist.append (List.nil_sublist _) sl1
      · by_cases ht : t = t'
        · subst ht
          refine ⟨F1, as ++ cs', s1, sb1, fun b hb => List.mem_append_right _ (ch1 b hb), .cons (h1.mono s1 fun _ _ => rfl) r1, List.Sublist.append (List.Sublist.refl _) sl1, fun b hb => ?_⟩
          rcases List.mem_append.mp hb with z | z
          · exact as1 b z
          · exact kp1 b z
        · have ht' : t = .ow ∧ t' = .fz := by
            cases t' with
            | bot => exact absurd rfl hb
            | fz => cases t <;> simp_all [le1]
            | _ => exact absurd (Ty.eqb_eq (by simpa [le1] using le)) ht
          obtain ⟨rfl, rfl⟩ := ht'
          obtain ⟨v, rfl, hr⟩ := h1
          have key : ∀ a, as = [a] → (∀ F2, Sub F F2 → F2 a = H a → Fz K F2 d v) → ∃ F' as', Sub F F' ∧ Sub F' H ∧ (∀ b, F' b ≠ F b → b ∈ as ++ cs) ∧ RpS K F' H (.fz :: Γ') (some v :: σ) (d :: ρ) as' ∧ as'.Sublist (as ++ cs) ∧ ∀ b ∈ as', F' b = F b := by
            rintro a rfl fin
            have fa : F1 a = none := by rw [as1 a (by simp)]; exact fr a (by simp)
            have s2 : Sub F1 (fun b => if b = a then H a else F1 b) := .same fun b u q => by
              have : b ≠ a := fun z => by rw [z, fa] at q; cases q
              simp only [if_neg this]; exact q
            have na : ∀ b ∈ cs', b ≠ a := fun b hb z => n3 a (by simp) b (sl1.subset hb) z.symm
            refine ⟨fun b => if b = a then H a else F1 b, [] ++ cs', s1.trans s2, fun b u q => ?_, fun b hb => ?_, .cons (t := .fz) ⟨_, rfl, ?_⟩ (r1.mono s2 fun _ _ => rfl), List.Sublist.append (List.nil_sublist _) sl1, fun b hb => ?_⟩
            · by_cases z : b = a
              · subst z; simp only [if_true] at q; exact ⟨u, q, .inl rfl⟩
              · simp only [if_neg z] at q; exact sb1 _ _ q
            · by_cases z : b = a
              · subst z; simp
              · simp only [if_neg z] at hb
                exact List.mem_append_right _ (ch1 b hb)
            · simp only [Rp, and_true]
              exact fin _ (s1.trans s2) (by simp only [if_true])
            · have hb' : b ∈ cs' := by simpa using hb
              simp only [if_neg (na b hb')]
              exact kp1 b hb'
          cases d with
          | list ds =>
            simp only [Rp] at hr
            obtain ⟨a, vs, rfl, e1, e2, rfl⟩ := hr
            refine key a rfl fun F2 s2 q => ?_
            simp only [Fz]
            exact ⟨a, vs, rfl, .inl (.inl (q.trans e1)), e2.mono s2⟩
          | dict ds =>
            simp only [Rp] at hr
            obtain ⟨a, vs, rfl, e1, e2, rfl⟩ := hr
            refine key a rfl fun F2 s2 q => ?_
            simp only [Fz]
            exact ⟨a, vs, rfl, .inl (q.trans e1), e2.mono s2⟩
          | _ =>
            simp only [Rp] at hr
            obtain ⟨hr, rfl⟩ := hr
            refine ⟨F1, [] ++ cs', s1, sb1, fun b hb => List.mem_append_right _ (ch1 b hb), .cons (t := .fz) ⟨v, rfl, by simp only [Rp, and_true]; exact hr.mono s1⟩ r1, List.Sublist.append (List.nil_sublist _) sl1, fun b hb => kp1 b (by simpa using hb)⟩
theorem Wd.weak (w : Wd K F H S Γ σ ρ []) (h : tyLe Γ Γ' = true) : ∃ F', Sub F F' ∧ Wd K F' H S Γ' σ ρ [] := by
  obtain ⟨as, r, nd, f⟩ := w.ex
  simp only [List.nil_append] at nd f
  obtain ⟨F', as', s, sb, ch, r', sl, kp⟩ := r.weak h w.sub ⟨nd, fun a ha => (f a ha).1⟩
  refine ⟨F', s, sb, fun a ha => ?_, as', r', by simpa using sl.nodup nd, fun a ha => ?_⟩
  · refine ⟨?_, (w.out a ha).2⟩
    by_cases q : F' a = F a
    · rw [q]; exact (w.out a ha).1
    · exact absurd ha (f a (ch a q)).2.1
  · have ha' : a ∈ as' := by simpa using ha
    obtain ⟨q1, q2, q3⟩ := f a (sl.subset ha')
    exact ⟨by rw [kp a ha']; exact q1, q2, q3⟩
/-- .. with something held -/
theorem Wd.weakB (w : Wd K F H S Γ σ ρ bs) (h : tyLe Γ Γ' = true) : ∃ F', Sub F F' ∧ Wd K F' H S Γ' σ ρ bs := by
  obtain ⟨nd, ns⟩ := w.held
  obtain ⟨F', s, w'⟩ := w.lend0.weak h
  have := w'.back nd ns
  rw [List.append_nil] at this
  exact ⟨F', s, this⟩
end

section
variable {X : Cx} {W : WX} {ios : List Nat} {σ0 : St} {Γ Γ1 Γ2 Γ' : List Ty} {C : TC} {e c : Expr} {st : Stmt} {rest body a b : List Stmt} {τ : Ty} {t : TD} {ct : TB} {m m' : SM} {pos : Pos}
def sNil : SM := fun ρ P => P.nx ρ
def sSeq (a b : SM) : SM := fun ρ P => a ρ { P with nx := fun ρ' => b ρ' P }
theorem b_nil (h : tyLe Γ C.nx = true := by rfl) : BOk X W ios σ0 Γ [] C sNil := by
  refine ⟨PSs.imp pss_nil fun D σ H ⟨F, S, ρ, P, w, io, q, cn⟩ => ?_⟩
  obtain ⟨F', s, w'⟩ := w.weak h
  exact cn.nx ρ q F' H σ ⟨s, fun _ _ => rfl⟩ io w'
theorem b_cons (h1 : SOk X W ios σ0 Γ st { C with nx := Γ1 } m) (h2 : BOk X W ios σ0 Γ1 rest C m') : BOk X W ios σ0 Γ (st :: rest) C (sSeq m m') := by
  refine ⟨PSs.imp (pss_cons h1.ps h2.ps) fun D σ H ⟨F, S, ρ, P, w, io, q, cn⟩ => ?_⟩
  refine ⟨F, S, ρ, _, w, io, q, ⟨fun ρ' hq F' H' σ' g io' w' => ?_, cn.rt, cn.bk, cn.ct, cn.ex⟩⟩
  exact ⟨F', S, ρ', P, w', io', hq, cn.later g⟩
/-- the end of a block whose last statement does not go on -/
theorem b_last (h1 : SOk X W ios σ0 Γ st { C with nx := [] } m) : BOk X W ios σ0 Γ [st] C (fun ρ P => m ρ { P with nx := fun _ => False }) := by
  refine ⟨PSs.imp (pss_one h1.ps) fun D σ H ⟨F, S, ρ, P, w, io, q, cn⟩ => ?_⟩
  exact ⟨F, S, ρ, _, w, io, q, ⟨fun ρ' hq => hq.elim, cn.rt, cn.bk, cn.ct, cn.ex⟩⟩
/-- expression's reading under a statement -/
theorem ex_of {F H : Hp} {S : AS} {P : Post} {D : Ends} {σ : St} (cn : Cn X W ios σ0 C F H S P D) (io : Io ios σ0 σ) : ∀ x ρ', P.ex x ρ' → ∀ F' H' cls dx, Gr S F H F' H' → XRel X.mg H' x cls dx → Wd X.K F' H' S C.ex σ ρ' [] → W cls dx σ H' :=
  fun x ρ' hx F' H' cls dx g hr w => cn.ex x ρ' hx F' H' σ cls dx g io hr w
def sDo (t : TD) : SM := fun ρ P => t ρ (fun _ ρ' => P.nx ρ') P.ex
theorem s_do (h : EOk X W C.ex Γ e C.nx τ t) (hs : swapsWith e none pos.line X.env = pure false := by rfl) : SOk X W ios σ0 Γ (.Expr e pos) C (sDo t) := by
  refine ⟨PS.imp (ps_expr h.pe hs) fun D σ H ⟨F, S, ρ, P, w, io, q, cn⟩ => ?_⟩
  exact ⟨F, S, ρ, _, P.ex, w, q, fun d ρ' hq F' H' v bs g r w' => cn.nx ρ' hq F' H' σ g io w'.drop0, ex_of cn io⟩
def wr (ρ : List D) (i : Nat) (d : D) : List D := ρ.set i d
def sSet (i : Nat) (t : TD) : SM := fun ρ P => t ρ (fun d ρ' => P.nx (wr ρ' i d)) P.ex
def isVal (τ : Ty) : Bool := match τ with
  | .pk _ => false
  | .mv _ _ => false
  | .bot => false
  | _ => true
theorem RpV.val {K : PySem.W.Frag} {F H : Hp} {σ : St} {v : V} {d : D} {bs : List Addr} (h : RpV K F H σ τ v d bs) (hv : isVal τ = true) : Rp K F H τ v d bs := by
  cases τ <;> first
    | exact h
    | cases hv
theorem s_set (i : Nat) {x : Str} {pos' : Pos} (hN : X.N.Nodup) (h : EOk X W C.ex Γ e Γ1 τ t) (hnx : C.nx = Γ1.set i τ := by rfl) (hi : X.N[i]? = some x := by rfl) (hx : Loc X.env.scope x := by first | exact Or.inl rfl | exact Or.inr rfl) (hl : i < Γ1.length := by decide) (hv : isVal τ = true := by rfl) (hio : ios.contains i = false := by rfl)
    (hs : swapsWith e (some (.Name x pos')) pos.line X.env = pure false := by rfl) (hf : X.fn x = true ∨ X.env.scope.names.lookup x = some .local := by first | exact .inl rfl | exact .inr rfl | assumption) : SOk X W ios σ0 Γ (.Assign [.Name x pos'] e pos) C (sSet i t) := by
  refine ⟨PS.imp (ps_set hN hi hx h.pe hs hf) fun D σ H ⟨F, S, ρ, P, w, io, q, cn⟩ => ?_⟩
  refine ⟨F, S, ρ, _, P.ex, w, q, fun d ρ' hq F' H' v bs g r w' => ?_, ex_of cn io⟩
  refine cn.nx _ hq F' H' _ g (io.set hio) ?_
  rw [hnx]
  exact Wd.put (bs := []) (cs := bs) (by rw [List.append_nil]; exact w') (List.getElem?_eq_getElem hl) (r.val hv)
def sRet (t : TD) : SM := fun ρ P => t ρ (fun d ρ' => P.rt d ρ') P.ex
theorem s_ret (h : EOk X W C.ex Γ e Γ1 C.rty t) (hl : tyLe Γ1 C.rt = true := by rfl) (hv : isVal C.rty = true := by rfl) : SOk X W ios σ0 Γ (.Return (some e) pos) C (sRet t) := by
  refine ⟨PS.imp (ps_ret h.pe) fun D σ H ⟨F, S, ρ, P, w, io, q, cn⟩ => ?_⟩
  refine ⟨F, S, ρ, _, P.ex, w, q, fun d ρ' hq F' H' v bs g r w' => ?_, ex_of cn io⟩
  obtain ⟨F2, s2, w2⟩ := w'.weakB hl
  exact cn.rt d ρ' hq F2 H' σ v bs ⟨g.fz.trans s2, g.eq⟩ io (Rp.mono s2 _ (fun _ _ => rfl) (r.val hv)) w2
/-- a scalar as an owned result -/
def tSc (t : TD) : TD := fun ρ Q E => t ρ (fun d ρ' => scal d ∧ Q d ρ') E
theorem e_sc {Γx : List Ty} (h : EOk X W Γx Γ e Γ1 .fz t) : EOk X W Γx Γ e Γ1 .ow (tSc t) := by
  refine ⟨PE.imp h.pe fun σ H Q ⟨F, S, ρ, Qd, Ed, w, q, p, px⟩ => ⟨F, S, ρ, _, Ed, w, q, fun d ρ' hq F' H' v bs g r w' => p d ρ' hq.2 F' H' v bs g ?_ w', px⟩⟩
  show Rp X.K F' H' .ow v d bs
  cases d with
  | list ds => exact hq.1.elim
  | dict ds => exact hq.1.elim
  | _ => exact r
def sRetN : SM := fun ρ P => P.rt .none ρ
theorem s_retN (hl : tyLe Γ C.rt = true := by rfl) (hv : C.rty = .fz ∨ C.rty = .ow := by first | exact .inl rfl | exact .inr rfl) : SOk X W ios σ0 Γ (.Return none pos) C sRetN := by
  refine ⟨PS.imp ps_retN fun D σ H ⟨F, S, ρ, P, w, io, q, cn⟩ => ?_⟩
  obtain ⟨F2, s2, w2⟩ := w.weak hl
  refine cn.rt _ ρ q F2 H σ .non [] ⟨s2, fun _ _ => rfl⟩ io ?_ w2
  rcases hv with e | e <;> rw [e] <;> exact ⟨rfl, rfl⟩
def sPass : SM := fun ρ P => P.nx ρ
theorem s_pass (h : tyLe Γ C.nx = true := by rfl) : SOk X W ios σ0 Γ (.Pass pos) C sPass := by
  refine ⟨PS.imp ps_pass fun D σ H ⟨F, S, ρ, P, w, io, q, cn⟩ => ?_⟩
  obtain ⟨F2, s2, w2⟩ := w.weak h
  exact cn.nx ρ q F2 H σ ⟨s2, fun _ _ => rfl⟩ io w2
def sCont : SM := fun ρ P => P.ct ρ
theorem s_cont (h : tyLe Γ C.ct = true := by rfl) : SOk X W ios σ0 Γ (.Continue pos) C sCont := by
  refine ⟨PS.imp ps_continue fun D σ H ⟨F, S, ρ, P, w, io, q, cn⟩ => ?_⟩
  obtain ⟨F2, s2, w2⟩ := w.weak h
  exact cn.ct ρ q F2 H σ ⟨s2, fun _ _ => rfl⟩ io w2
def sBrk : SM := fun ρ P => P.bk ρ
theorem s_brk (h : tyLe Γ C.bk = true := by rfl) : SOk X W ios σ0 Γ (.Break pos) C sBrk := by
  refine ⟨PS.imp ps_break fun D σ H ⟨F, S, ρ, P, w, io, q, cn⟩ => ?_⟩
  obtain ⟨F2, s2, w2⟩ := w.weak h
  exact cn.bk ρ q F2 H σ ⟨s2, fun _ _ => rfl⟩ io w2
def sIf (c : TB) (a b : SM) : SM := fun ρ P => c ρ (fun k ρ' => if k = true then a ρ' P else b ρ' P) P.ex
theorem s_if (hc : TOk X W C.ex Γ c Γ1 ct) (ha : BOk X W ios σ0 Γ1 a C m) (hb : BOk X W ios σ0 Γ1 b C m') : SOk X W ios σ0 Γ (.If c a b pos) C (sIf ct m m') := by
  refine ⟨PS.imp (ps_if hc.pt ha.ps hb.ps) fun D σ H ⟨F, S, ρ, P, w, io, q, cn⟩ => ?_⟩
  refine ⟨F, S, ρ, _, P.ex, w, q, fun k ρ' hq F' H' g w' => ?_, ex_of cn io⟩
  cases k with
  | true => exact iteT ⟨F', S, ρ', P, w', io, by simpa using hq, cn.later g⟩
  | false => exact iteF ⟨F', S, ρ', P, w', io, by simpa using hq, cn.later g⟩
/-- while: by an invariant that holds a number that falls -/
def sWhile (c : TB) (b : SM) : SM := fun ρ P => ∃ I : Nat → List D → Prop, (∃ n, I n ρ) ∧ ∀ n ρ, I n ρ → c ρ (fun k ρ' => if k = true then b ρ' { P with nx := fun ρ2 => ∃ n', n' < n ∧ I n' ρ2, ct := fun ρ2 => ∃ n', n' < n ∧ I n' ρ2, bk := P.nx } else P.nx ρ') P.ex
theorem s_while (hp : PassesOwn (model X.prog X.w) X.A X.env X.xe) (hc : TOk X W C.ex Γ1 c C.nx ct) (hb : BOk X W ios σ0 C.nx body { C with nx := Γ1, ct := Γ1, bk := C.nx } m) (hl : tyLe Γ Γ1 = true := by rfl) : SOk X W ios σ0 Γ (.While c body [] pos) C (sWhile ct m) := by
  refine ⟨PS.imp (ps_while hp hc.pt hb.ps) fun D σ H ⟨F, S, ρ, P, w, io, q, cn⟩ => ?_⟩
  obtain ⟨I, ⟨n0, i0⟩, turn⟩ := q
  obtain ⟨F0, s0, w0⟩ := w.weak hl
  refine ⟨fun n σ' H' => ∃ F' ρ', Gr S F H F' H' ∧ Wd X.K F' H' S Γ1 σ' ρ' [] ∧ Io ios σ0 σ' ∧ I n ρ', ⟨n0, F0, ρ, ⟨s0, fun _ _ => rfl⟩, w0, io, i0⟩, ?_⟩
  rintro n σ1 H1 ⟨F1, ρ1, g1, w1, io1, i1⟩
  refine ⟨F1, S, ρ1, _, P.ex, w1, turn n ρ1 i1, fun k ρ' hq F' H' g w' => ?_, ex_of (cn.later g1) io1⟩
  cases k with
  | true =>
    have hq' := (show if true = true then _ else _ from hq)
    rw [if_pos rfl] at hq'
    refine iteT ⟨fun σ' H'' => ∃ n' F' ρ', n' < n ∧ Gr S F H F' H'' ∧ Wd X.K F' H'' S Γ1 σ' ρ' [] ∧ Io ios σ0 σ' ∧ I n' ρ', fun σ' H'' ⟨n', F', ρ', hn, z⟩ => ⟨n', hn, F', ρ', z⟩, ?_⟩
    have g2 := g1.trans g fun _ h => h
    have cn' := (cn.later g1).later g
    refine ⟨F', S, ρ', _, w', io1, hq', ⟨fun ρ3 h3 F3 H3 σ3 g3 io3 w3 => ?_, cn'.rt, cn'.nx, fun ρ3 h3 F3 H3 σ3 g3 io3 w3 => ?_, cn'.ex⟩⟩
    · obtain ⟨n', hn, i'⟩ := h3
      exact ⟨n', F3, ρ3, hn, g2.trans g3 fun _ h => h, w3, io3, i'⟩
    · obtain ⟨n', hn, i'⟩ := h3
      exact ⟨n', F3, ρ3, hn, g2.trans g3 fun _ h => h, w3, io3, i'⟩
  | false =>
    have hq' := (show if false = true then _ else _ from hq)
    rw [if_neg (by decide)] at hq'
    exact iteF (cn.nx ρ' hq' F' H' σ1 (g1.trans g fun _ h => h) io1 w')
end
end T2

namespace T2
open L2 PySem PySem.Spec PyProof.Rows

/-! ### targets -/
abbrev GM := D → List D → (List D → Prop) → Prop
abbrev GMs := List D → List D → (List D → Prop) → Prop
def liftG (X : Cx) (ios : List Nat) (σ0 : St) (Γ Γ' : List Ty) (g : GM) : TG := fun v σ H Q => ∃ F S ρ d q, Wd X.K F H S Γ σ ρ [] ∧ Io ios σ0 σ ∧ Fz X.K F d v ∧ g d ρ q ∧ ∀ ρ' σ', q ρ' → Io ios σ0 σ' → Wd X.K F H S Γ' σ' ρ' [] → Q σ' H
def liftGs (X : Cx) (ios : List Nat) (σ0 : St) (Γ Γ' : List Ty) (g : GMs) : TGs := fun vs σ H Q => ∃ F S ρ ds q, Wd X.K F H S Γ σ ρ [] ∧ Io ios σ0 σ ∧ FzL X.K F ds vs ∧ g ds ρ q ∧ ∀ ρ' σ', q ρ' → Io ios σ0 σ' → Wd X.K F H S Γ' σ' ρ' [] → Q σ' H
structure GOk (X : Cx) (ios : List Nat) (σ0 : St) (Γ : List Ty) (tg : Expr) (Γ' : List Ty) (g : GM) : Prop where
  pg : PG X tg (liftG X ios σ0 Γ Γ' g)
structure GsOk (X : Cx) (ios : List Nat) (σ0 : St) (Γ : List Ty) (tg : List Expr) (Γ' : List Ty) (g : GMs) : Prop where
  pg : PGs X tg (liftGs X ios σ0 Γ Γ' g)
theorem PG.imp {X : Cx} {e : Expr} {t t' : TG} (p : PG X e t) (h : ∀ v σ H Q, t' v σ H Q → t v σ H Q) : PG X e t' := ⟨fun pins s σ H v u Q I r q => p.run pins s σ H v u Q I r (h v σ H Q q)⟩
theorem PGs.imp {X : Cx} {e : List Expr} {t t' : TGs} (p : PGs X e t) (h : ∀ v σ H Q, t' v σ H Q → t v σ H Q) : PGs X e t' := ⟨fun pins s σ H v u Q I r q => p.run pins s σ H v u Q I r (h v σ H Q q)⟩
section
variable {X : Cx} {W : WX} {ios : List Nat} {σ0 : St} {Γ Γ1 Γ2 Γ3 Γ' : List Ty} {C : TC} {e c tg iter : Expr} {es : List Expr} {rest body a b : List Stmt} {τ : Ty} {t : TD} {m m' : SM} {pos : Pos} {g : GM} {gs : GMs}
def gN (i : Nat) : GM := fun d ρ q => q (wr ρ i d)
theorem g_name (i : Nat) {x : Str} (hN : X.N.Nodup) (hi : X.N[i]? = some x := by rfl) (hx : Loc X.env.scope x := by first | exact Or.inl rfl | exact Or.inr rfl) (hl : i < Γ.length := by decide) (hio : ios.contains i = false := by rfl) (hf : X.fn x = true ∨ X.env.scope.names.lookup x = some .local := by first | exact .inl rfl | exact .inr rfl | assumption) :
    GOk X ios σ0 Γ (.Name x pos) (Γ.set i .fz) (gN i) := by
  refine ⟨PG.imp (pg_name hN hi hx hf) fun v σ H Q ⟨F, S, ρ, d, q, w, io, r, hq, f⟩ => ?_⟩
  refine f _ _ hq (io.set hio) (Wd.put (bs := []) (cs := []) w (List.getElem?_eq_getElem hl) ?_)
  simp only [Rp, and_true]
  exact r
def gsNil : GMs := fun ds ρ q => ds = [] ∧ q ρ
def gsCons (g : GM) (gs : GMs) : GMs := fun ds ρ q => match ds with
  | d :: r => g d ρ fun ρ' => gs r ρ' q
  | [] => False
theorem gs_nil : GsOk X ios σ0 Γ [] Γ gsNil := by
  refine ⟨PGs.imp pgs_nil fun vs σ H Q ⟨F, S, ρ, ds, q, w, io, r, hq, f⟩ => ?_⟩
  obtain ⟨rfl, hq⟩ := hq
  simp only [FzL] at r
  exact ⟨r, f ρ σ hq io w⟩
theorem gs_cons (h1 : GOk X ios σ0 Γ e Γ1 g) (h2 : GsOk X ios σ0 Γ1 es Γ2 gs) (hs : (assignEach (e :: es) X.env).map (·.2) = assign e X.env :: (assignEach es X.env).map (·.2) := by rfl) : GsOk X ios σ0 Γ (e :: es) Γ2 (gsCons g gs) := by
  refine ⟨PGs.imp (pgs_cons h1.pg h2.pg hs) fun vs σ H Q ⟨F, S, ρ, ds, q, w, io, r, hq, f⟩ => ?_⟩
  cases ds with
  | nil => exact hq.elim
  | cons d ds =>
    simp only [FzL] at r
    obtain ⟨v, vr, rfl, r1, r2⟩ := r
    refine ⟨v, vr, rfl, F, S, ρ, d, _, w, io, r1, hq, fun ρ' σ' hq' io' w' => ?_⟩
    exact ⟨F, S, ρ', ds, q, w', io', r2, hq', f⟩
def gT (n : Nat) (gs : GMs) : GM := fun d ρ q => match d with
  | .tuple ds => ds.length = n ∧ gs ds ρ q
  | _ => False
theorem g_tup (n : Nat) {k} (hc : X.calm = true) (h : GsOk X ios σ0 Γ es Γ' gs) (hn : (assignEach es X.env).length = n := by rfl) (hst : (assignEach es X.env).findIdx? (·.1) = none := by rfl) : GOk X ios σ0 Γ (.Tuple es k pos) Γ' (gT n gs) := by
  refine ⟨PG.imp (pg_tup hc h.pg hn hst) fun v σ H Q ⟨F, S, ρ, d, q, w, io, r, hq, f⟩ => ?_⟩
  cases d with
  | tuple ds =>
    simp only [Fz] at r
    obtain ⟨a, vs, rfl, r1, r2⟩ := r
    exact ⟨a, vs, rfl, w.sub.sqt r1, by rw [← r2.length]; exact hq.1, F, S, ρ, ds, q, w, io, r2, hq.2, f⟩
  | _ => exact hq.elim

/-! ### what is walked -/
structure ItD (K : PySem.W.Frag) (J : It) (S : AS) (F H : Hp) (xs : List D) : Prop where
  go : ∀ F' H', Gr S F H F' H' → Sub F' H' → ∀ i, i < xs.length → J.go i H'
  stop : ∀ F' H', Gr S F H F' H' → Sub F' H' → J.stop xs.length H'
  yld : ∀ F' H' S' Γ σ ρ bs, Gr S F H F' H' → (∀ a, S a → S' a) → Wd K F' H' S' Γ σ ρ bs → ∀ i x H2, i < xs.length → J.yld i H' x H2 → ∃ d F2, xs[i]? = some d ∧ Gr (fun a => S' a ∨ a ∈ bs) F' H' F2 H2 ∧ Wd K F2 H2 S' Γ σ ρ bs ∧ Fz K F2 d x
def liftI (X : Cx) (W : WX) (Γx Γ Γ' : List Ty) (t : TL) : TI := fun σ H R => lft X W Γx Γ t σ H fun F H S xs ρ' => ∀ F' H' J, Gr S F H F' H' → Wd X.K F' H' S Γ' σ ρ' [] → ItD X.K J S F' H' xs → R J H'
structure IOk (X : Cx) (W : WX) (Γx Γ : List Ty) (tg iter : Expr) (Γ' : List Ty) (t : TL) : Prop where
  pi : PI X tg iter (liftI X W Γx Γ Γ' t)
theorem PI.imp {X : Cx} {tg e : Expr} {t t' : TI} (p : PI X tg e t) (h : ∀ σ H Q, t' σ H Q → t σ H Q) : PI X tg e t' := ⟨fun pins s σ H Q I q => p.run pins s σ H Q I (h σ H Q q)⟩
/-- a list, a tuple, a text -/
def iSeq (K : PySem.W.Frag) (tl : TE) : TI := fun σ H R => tl σ H fun x H1 => (∃ a xs, x = .ref a ∧ SqL K H1 a xs ∧ R (Itl K a) H1) ∨ (∃ a xs, x = .ref a ∧ SqT K H1 a xs ∧ R (Itt K a) H1) ∨ ∃ z, x = .str z ∧ R (Its z) H1
theorem pi_seq {l : Expr} {tl : TE} (hl : PE X l tl) : PI X tg l (iSeq X.K tl) := by
  refine ⟨fun pins s σ H R I h => ?_⟩
  refine thn (hl.run pins s σ H _ I h) fun v s1 ⟨x, H1, I1, r1, q1⟩ => ?_
  rcases q1 with ⟨a, xs, rfl, hq, q⟩ | ⟨a, xs, rfl, hq, q⟩ | ⟨z, rfl, q⟩
  · cases r1
    obtain ⟨its, rv, p, hz⟩ := I1.list hq
    refine wpAny_pyIter_list p.isList ?_
    refine ⟨s1.heap.objs.size, [s1.heap.objs.size], _, _, H1, rfl, I1.kept (t' := s1.toks) fun b o e => Heap.get?_push_of_some _ e, turn_list a _, ⟨_, Heap.get?_push_size _ rfl, rfl, rfl⟩, fun b hb => ?_, q⟩
    have e : b = s1.heap.objs.size := by simpa using hb
    subst e
    exact I1.fpOk (Nat.le_refl _) (I1.hok.fresh (Nat.le_refl _))
  · cases r1
    obtain ⟨its, rv, p, hz⟩ := I1.tuple hq
    refine wpAny_pyIter_tuple (show s1.heap.IsTuple a its.toArray from p) ?_
    refine ⟨s1.heap.objs.size, [s1.heap.objs.size], _, _, H1, rfl, I1.kept (t' := s1.toks) fun b o e => Heap.get?_push_of_some _ e, turn_tuple a _, ⟨_, Heap.get?_push_size _ rfl, rfl, rfl⟩, fun b hb => ?_, q⟩
    have e : b = s1.heap.objs.size := by simpa using hb
    subst e
    exact I1.fpOk (Nat.le_refl _) (I1.hok.fresh (Nat.le_refl _))
  · obtain ⟨t, rfl⟩ := r1
    cases ha : z.cps.all (· < 128)
    · exact wpAny_pyIter_wide ha (pi_one (tk := s1.toks) I1 _ (turn_str _ z t "str_iterator" (.inr rfl)) ⟨_, Heap.get?_push_size _ rfl, rfl, rfl⟩ q)
    · exact wpAny_pyIter_ascii ha (pi_one (tk := s1.toks) I1 _ (turn_str _ z t "str_ascii_iterator" (.inl rfl)) ⟨_, Heap.get?_push_size _ rfl, rfl, rfl⟩ q)
def itemsOf (d : D) (q : List D → Prop) : Prop := match d with
  | .list ds => q ds
  | .tuple ds => q ds
  | .str z => q (z.cps.toList.map fun c => .str ⟨#[c]⟩)
  | _ => False
def iD (t : TD) : TL := fun ρ Q E => t ρ (fun d ρ' => itemsOf d fun xs => Q xs ρ') E
theorem itD_list {K : PySem.W.Frag} {S : AS} {F H : Hp} {a : Addr} {vs : List V} {ds : List D} (h : SqL K F a vs) (r : FzL K F ds vs) : ItD K (Itl K a) S F H ds where
  go := fun F' H' s s' i hi => by
    obtain ⟨v, e, _⟩ := r.get (List.getElem?_eq_getElem hi)
    exact ⟨vs, v, (s.fz.trans s').sql h, e⟩
  stop := fun F' H' s s' => ⟨vs, (s.fz.trans s').sql h, Nat.le_of_eq r.length.symm⟩
  yld := fun F' H' S' Γ σ ρ bs s hs w i x H2 hi ⟨e, y⟩ => by
    subst e
    obtain ⟨d, e2, f⟩ := r.getV (y vs ((s.fz.trans w.sub).sql h))
    exact ⟨d, F', e2, .refl, w, f.mono s.fz⟩
theorem itD_tup {K : PySem.W.Frag} {S : AS} {F H : Hp} {a : Addr} {vs : List V} {ds : List D} (h : SqT K F a vs) (r : FzL K F ds vs) : ItD K (Itt K a) S F H ds where
  go := fun F' H' s s' i hi => by
    obtain ⟨v, e, _⟩ := r.get (List.getElem?_eq_getElem hi)
    exact ⟨vs, v, (s.fz.trans s').sqt h, e⟩
  stop := fun F' H' s s' => ⟨vs, (s.fz.trans s').sqt h, Nat.le_of_eq r.length.symm⟩
  yld := fun F' H' S' Γ σ ρ bs s hs w i x H2 hi ⟨e, y⟩ => by
    subst e
    obtain ⟨d, e2, f⟩ := r.getV (y vs ((s.fz.trans w.sub).sqt h))
    exact ⟨d, F', e2, .refl, w, f.mono s.fz⟩
theorem itD_str {K : PySem.W.Frag} {S : AS} {F H : Hp} (z : Str) : ItD K (Its z) S F H (z.cps.toList.map fun c => .str ⟨#[c]⟩) where
  go := fun F' H' s s' i hi => by
    show i < z.cps.size
    simpa using hi
  stop := fun F' H' s s' => by simp [Its]
  yld := fun F' H' S' Γ σ ρ bs s hs w i x H2 hi ⟨e, c, e2, e3⟩ => by
    subst e e3
    refine ⟨.str ⟨#[c]⟩, F', ?_, .refl, w, rfl⟩
    rw [List.getElem?_map, Array.getElem?_toList, e2]
    rfl
theorem i_seq {Γx : List Ty} (h : EOk X W Γx Γ e Γ' .fz t) : IOk X W Γx Γ tg e Γ' (iD t) := by
  refine ⟨PI.imp (pi_seq h.pe) fun σ H R ⟨F, S, ρ, Qd, Ed, w, q, p, px⟩ => ?_⟩
  refine ⟨F, S, ρ, _, Ed, w, q, fun d ρ' hd F' H' v bs g r w' => ?_, px⟩
  have r1 := r.1
  have w2 := w'.drop0
  cases d with
  | list ds =>
    simp only [Fz] at r1
    obtain ⟨a, vs, rfl, h1, h2⟩ := r1
    exact .inl ⟨a, vs, rfl, w'.sub.sql h1, p _ ρ' hd F' H' _ g w2 (itD_list h1 h2)⟩
  | tuple ds =>
    simp only [Fz] at r1
    obtain ⟨a, vs, rfl, h1, h2⟩ := r1
    exact .inr (.inl ⟨a, vs, rfl, w'.sub.sqt h1, p _ ρ' hd F' H' _ g w2 (itD_tup h1 h2)⟩)
  | str z =>
    simp only [Fz] at r1
    subst r1
    exact .inr (.inr ⟨z, rfl, p _ ρ' hd F' H' _ g w2 (itD_str z)⟩)
  | _ => exact hd.elim
/-- range(n), range(a, b) -/
def rng (lo hi : Int) : List D := (List.range (hi - lo).toNat).map fun i => .int (lo + (i : Nat))
def sm62 (i : Int) : Prop := -(2 ^ 62) ≤ i ∧ i < 2 ^ 62
theorem rng_len (lo hi : Int) : (rng lo hi).length = (hi - lo).toNat := by simp [rng]
theorem itD_rng {K : PySem.W.Frag} {S : AS} {F H : Hp} (lo hi : Int) : ItD K (Itr lo (hi - lo).toNat) S F H (rng lo hi) where
  go := fun F' H' s s' i h => by rw [rng_len] at h; exact h
  stop := fun F' H' s s' => by rw [rng_len]; exact Nat.le_refl _
  yld := fun F' H' S' Γ σ ρ bs s hs w i x H2 h ⟨e, y⟩ => by
    subst e
    rw [rng_len] at h
    refine ⟨.int (lo + (i : Nat)), F', ?_, .refl, w, y⟩
    unfold rng
    rw [List.getElem?_map, List.getElem?_range h]
    rfl
def oRng (xs : List D) (q : List D → Prop) : Prop := match xs with
  | [.int j] => sm62 j ∧ q (rng 0 j)
  | [.int i, .int j] => sm62 i ∧ sm62 j ∧ q (rng i j)
  | _ => False
def iR (tr : TL) : TL := fun ρ Q E => tr ρ (fun ds ρ' => oRng ds fun xs => Q xs ρ') E
theorem FzL.one {K : PySem.W.Frag} {F : Hp} {d : D} {vs : List V} (h : FzL K F [d] vs) : ∃ v, vs = [v] ∧ Fz K F d v := by
  simp only [FzL] at h
  obtain ⟨v, r, rfl, h1, rfl⟩ := h
  exact ⟨v, rfl, h1⟩
theorem FzL.two {K : PySem.W.Frag} {F : Hp} {d e : D} {vs : List V} (h : FzL K F [d, e] vs) : ∃ v u, vs = [v, u] ∧ Fz K F d v ∧ Fz K F e u := by
  simp only [FzL] at h
  obtain ⟨v, r, rfl, h1, u, r2, rfl, h2, rfl⟩ := h
  exact ⟨v, u, rfl, h1, h2⟩
theorem i_range1 {Γx : List Ty} {p : Pos} {tr : TL} (h : AOk X W Γx Γ [e] Γ' [.fz] tr) (hg : Gl X "range") (hm : X.mg "range" = none) (hs : starEach [e] X.env = [(false, eval e X.env)] := by rfl) : IOk X W Γx Γ tg (.Call (.Name "range" p) [e] [] pos) Γ' (iR tr) := by
  refine ⟨PI.imp (pi_range1 hg hm h.pa hs) fun σ H R ⟨F, S, ρ, Qd, Ed, w, q, p, px⟩ => ?_⟩
  refine ⟨F, S, ρ, _, Ed, w, q, fun ds ρ' hd F' H' vs bs g r w' => ?_, px⟩
  obtain ⟨r1, rfl⟩ := r.fz rfl
  have hl : ds.length = 1 := by
    obtain ⟨_, _, _, _, _, _, _, rfl, _, ⟨_, rfl, _⟩, _⟩ := r
    rfl
  unfold oRng at hd
  split at hd
  · obtain ⟨v, rfl, h1⟩ := r1.one
    cases h1.int
    refine ⟨_, rfl, hd.1.1, hd.1.2, p _ ρ' hd.2 F' H' _ g w' ?_⟩
    have := itD_rng (K := X.K) (S := S) (F := F') (H := H') 0 ‹Int›
    rwa [Int.sub_zero] at this
  · simp at hl
  · exact hd.elim
theorem i_range2 {Γx : List Ty} {p : Pos} {tr : TL} {e2 : Expr} (h : AOk X W Γx Γ [e, e2] Γ' [.fz, .fz] tr) (hg : Gl X "range") (hm : X.mg "range" = none) (hs : starEach [e, e2] X.env = [(false, eval e X.env), (false, eval e2 X.env)] := by rfl) (hs2 : starEach [e2] X.env = [(false, eval e2 X.env)] := by rfl) :
    IOk X W Γx Γ tg (.Call (.Name "range" p) [e, e2] [] pos) Γ' (iR tr) := by
  refine ⟨PI.imp (pi_range2 hg hm h.pa hs hs2) fun σ H R ⟨F, S, ρ, Qd, Ed, w, q, p, px⟩ => ?_⟩
  refine ⟨F, S, ρ, _, Ed, w, q, fun ds ρ' hd F' H' vs bs g r w' => ?_, px⟩
  obtain ⟨r1, rfl⟩ := r.fz rfl
  have hl : ds.length = 2 := by
    obtain ⟨_, _, _, _, _, _, _, rfl, _, ⟨_, _, _, _, _, _, _, rfl, _, ⟨_, rfl, _⟩, _⟩, _⟩ := r
    rfl
  unfold oRng at hd
  split at hd
  · simp at hl
  · obtain ⟨v, u, rfl, h1, h2⟩ := r1.two
    cases h1.int; cases h2.int
    exact ⟨_, _, rfl, ⟨hd.1.1, hd.1.2, hd.2.1.1, hd.2.1.2⟩, p _ ρ' hd.2.2 F' H' _ g w' (itD_rng _ _)⟩
  · exact hd.elim

/-! ### for -/
def forD (g : GM) (b : SM) : List D → List D → Post → Prop
  | [], ρ, P => P.nx ρ
  | x :: xs, ρ, P => g x ρ fun ρ1 => b ρ1 { P with nx := fun ρ2 => forD g b xs ρ2 P, ct := fun ρ2 => forD g b xs ρ2 P, bk := P.nx }
def sFor (ti : TL) (g : GM) (b : SM) : SM := fun ρ P => ti ρ (fun xs ρ' => forD g b xs ρ' P) P.ex
theorem s_for (hp : PassesOwn (model X.prog X.w) X.A X.env X.xe) (hc : X.calm = true) {ti : TL} (hi : IOk X W C.ex Γ tg iter Γ1 ti) (hg : GOk X ios σ0 C.nx tg Γ2 g) (hb : BOk X W ios σ0 Γ2 body { C with nx := C.nx, ct := C.nx, bk := C.nx } m) (hl : tyLe Γ1 C.nx = true := by rfl)
    (hs : ∀ x, foldedSetIterable iter X.env x = pure x := by intro _; rfl) : SOk X W ios σ0 Γ (.For tg iter body [] pos) C (sFor ti g m) := by
  refine ⟨PS.imp (ps_for hp hc hi.pi hg.pg hb.ps hs) fun D σ H ⟨F, S, ρ, P, w, io, q, cn⟩ => ?_⟩
  refine ⟨F, S, ρ, _, P.ex, w, q, fun xs ρ1 hx F1 H1 J g1 w1 J1 => ?_, ex_of cn io⟩
  obtain ⟨F2, s2, w2⟩ := w1.weak hl
  refine ⟨fun i n σ' H' => n = xs.length - i ∧ i ≤ xs.length ∧ ∃ F' ρ', Gr S F H F' H' ∧ Gr S F1 H1 F' H' ∧ Wd X.K F' H' S C.nx σ' ρ' [] ∧ Io ios σ0 σ' ∧ forD g m (xs.drop i) ρ' P, ⟨xs.length, by simp, Nat.zero_le _, F2, ρ1, ⟨g1.fz.trans s2, g1.eq⟩, ⟨s2, fun _ _ => rfl⟩, w2, io, by simpa using hx⟩, ?_⟩
  rintro i n σ3 H3 ⟨rfl, hi, F3, ρ3, g3, s3, w3, io3, f3⟩
  by_cases hlt : i < xs.length
  · refine .inr ⟨J1.go F3 H3 s3 w3.sub i hlt, fun σ' H' => ∃ F' ρ', Gr S F H F' H' ∧ Gr S F1 H1 F' H' ∧ Wd X.K F' H' S C.nx σ' ρ' [] ∧ Io ios σ0 σ' ∧ forD g m (xs.drop (i + 1)) ρ' P, fun σ' H' h => ⟨xs.length - (i + 1), by omega, rfl, hlt, h⟩, fun x H4 hy => ?_⟩
    obtain ⟨d, F4, e4, g4, w4, r4⟩ := J1.yld F3 H3 S C.nx σ3 ρ3 [] s3 (fun _ h => h) w3 i x H4 hlt hy
    have ed : xs.drop i = d :: xs.drop (i + 1) := by
      rw [List.drop_eq_getElem_cons hlt]
      rw [List.getElem?_eq_getElem hlt] at e4
      cases e4
      rfl
    rw [ed] at f3
    have g34 : Gr S F H F4 H4 := g3.trans g4 fun _ => .inl
    refine ⟨F4, S, ρ3, d, _, w4, io3, r4, f3, fun ρ5 σ5 h5 io5 w5 => ?_⟩
    have cn4 := cn.later g34
    refine ⟨F4, S, ρ5, _, w5, io5, h5, ⟨fun ρ6 h6 F6 H6 σ6 g6 io6 w6 => ?_, cn4.rt, cn4.nx, fun ρ6 h6 F6 H6 σ6 g6 io6 w6 => ?_, cn4.ex⟩⟩
    · exact ⟨F6, ρ6, g34.trans g6 fun _ h => h, (s3.trans g4 fun _ => .inl).trans g6 fun _ h => h, w6, io6, h6⟩
    · exact ⟨F6, ρ6, g34.trans g6 fun _ h => h, (s3.trans g4 fun _ => .inl).trans g6 fun _ h => h, w6, io6, h6⟩
  · have e : i = xs.length := by omega
    subst e
    refine .inl ⟨J1.stop F3 H3 s3 w3.sub, ?_⟩
    rw [List.drop_length] at f3
    exact cn.nx ρ3 f3 F3 H3 σ3 g3 io3 w3
end
end T2

namespace T2
open L2 PySem PySem.Spec PyProof.Rows

/-! ### a list in a slot is changed -/
section
variable {K : PySem.W.Frag} {F H : Hp} {S : AS} {Γ : List Ty} {σ : St} {ρ : List D} {bs : List Addr}
theorem Wd.setσ {σ : St} {i : Nat} {v : V} (e1 : σ[i]? = some (some v)) : σ.set i (some v) = σ := by
  apply List.ext_getElem?
  intro j
  rw [List.getElem?_set]
  split
  · rename_i h; subst h
    split
    · exact e1.symm
    · rename_i h2
      rw [List.getElem?_eq_none (Nat.le_of_not_lt h2)]
  · rfl
theorem Wd.mutL {i : Nat} {xs : List D} (w : Wd K F H S Γ σ ρ []) (ht : Γ[i]? = some .ow) (hx : rd ρ i = .list xs) :
    ∃ p vs, σ[i]? = some (some (.ref p)) ∧ H p = some (.lst vs) ∧ FzL K F xs vs ∧ ∀ ys us, FzL K F ys us → Wd K F (upd H p (.lst us)) S Γ σ (wr ρ i (.list ys)) [] ∧ Gr S F H F (upd H p (.lst us)) := by
  obtain ⟨as, r, nd, f⟩ := w.ex
  simp only [List.nil_append] at nd f
  obtain ⟨o, d', cs, rest, e1, e2, e3, pm, g⟩ := r.focus ht
  obtain ⟨v, rfl, hr⟩ := e3
  have ed : rd ρ i = d' := by unfold rd; rw [List.getD_eq_getElem?_getD, e2]; rfl
  rw [← ed, hx] at hr
  simp only [Rp] at hr
  obtain ⟨p, vs, rfl, h1, h2, rfl⟩ := hr
  have nd' := pm.nodup_iff.mp nd
  have np : p ∉ rest := (List.nodup_cons.mp nd').1
  obtain ⟨q1, q2, q3⟩ := f p (pm.mem_iff.mpr (by simp))
  refine ⟨p, vs, e1, h1, h2, fun ys us hy => ?_⟩
  obtain ⟨as', r', pm'⟩ := g F (upd H p (.lst us)) .ow (some (.ref p)) (.list ys) [p] (.refl _) (fun a ha => upd_ne fun e => np (e ▸ ha)) ⟨_, rfl, by simp only [Rp]; exact ⟨p, us, rfl, upd_same, hy, rfl⟩⟩
  have sΓ : Γ.set i .ow = Γ := by
    apply List.ext_getElem?
    intro j
    rw [List.getElem?_set]
    split
    · rename_i h; subst h
      split
      · exact ht.symm
      · rename_i h2
        rw [List.getElem?_eq_none (Nat.le_of_not_lt h2)]
    · rfl
  rw [sΓ, Wd.setσ e1] at r'
  have fne : ∀ a u, F a = some u → a ≠ p := fun a u e z => by rw [z, q1] at e; cases e
  refine ⟨⟨fun a u e => by rw [upd_ne (fne a u e)]; exact w.sub _ _ e, fun a ha => ⟨(w.out a ha).1, ?_⟩, as', r', by simpa using pm'.nodup_iff.mpr nd', fun a ha => ?_⟩, ⟨.refl _, fun a ha => upd_ne fun e => q2 (e ▸ ha)⟩⟩
  · by_cases z : a = p
    · subst z; rw [upd_same]; simp
    · rw [upd_ne z]; exact (w.out a ha).2
  · have ha' := pm.mem_iff.mpr (pm'.mem_iff.mp (by simpa using ha))
    obtain ⟨x1, x2, x3⟩ := f a ha'
    refine ⟨x1, x2, ?_⟩
    by_cases z : a = p
    · subst z; rw [upd_same]; simp
    · rw [upd_ne z]; exact x3
/-- what is others' may be changed by its owner -/
theorem Wd.updS {p : Addr} {o : HO} (w : Wd K F H S Γ σ ρ bs) (hp : S p) : Wd K F (upd H p o) S Γ σ ρ bs := by
  obtain ⟨as, r, nd, f⟩ := w.ex
  have fp := (w.out p hp).1
  have na : ∀ a ∈ bs ++ as, a ≠ p := fun a ha z => (f a ha).2.1 (z ▸ hp)
  refine ⟨fun a u e => by rw [upd_ne (fun z => by rw [z, fp] at e; cases e)]; exact w.sub _ _ e, fun a ha => ⟨(w.out a ha).1, ?_⟩, as, r.mono (.refl _) fun a ha => upd_ne (na a (List.mem_append_right _ ha)), nd, fun a ha => ?_⟩
  · by_cases z : a = p
    · subst z; rw [upd_same]; simp
    · rw [upd_ne z]; exact (w.out a ha).2
  · obtain ⟨x1, x2, x3⟩ := f a ha
    exact ⟨x1, x2, by rw [upd_ne (na a ha)]; exact x3⟩
theorem RpS.cong {σ : St} {ρ : List D} {as : List Addr} (h : RpS K F H Γ σ ρ as) : ∀ {σ' : St}, σ'.length = σ.length → (∀ i : Nat, Γ[i]? ≠ some Ty.bot → σ[i]? = σ'[i]?) → RpS K F H Γ σ' ρ as := by
  induction h with
  | nil =>
    intro σ' hl _
    have : σ' = [] := List.eq_nil_of_length_eq_zero (by simpa using hl)
    subst this
    exact .nil
  | @cons t o d as Γ σ ρ cs h1 h2 ih =>
    intro σ' hl hc
    cases σ' with
    | nil => simp at hl
    | cons o' σ' =>
      refine .cons ?_ (ih (by simpa using hl) fun i hi => by simpa using hc (i + 1) (by simpa using hi))
      by_cases hb : t = .bot
      · subst hb; exact h1
      · have := hc 0 (by simpa using hb)
        simp at this
        rw [← this]; exact h1
theorem Wd.cong {σ' : St} (w : Wd K F H S Γ σ ρ bs) (hl : σ'.length = σ.length) (hc : ∀ i : Nat, Γ[i]? ≠ some Ty.bot → σ[i]? = σ'[i]?) : Wd K F H S Γ σ' ρ bs := by
  obtain ⟨as, r, z⟩ := w.ex
  exact ⟨w.sub, w.out, as, r.cong hl hc, z⟩
end

section
variable {X : Cx} {W : WX} {ios : List Nat} {σ0 : St} {Γ Γ1 Γ2 Γ3 Γ' : List Ty} {C : TC} {e c tg iter a b o i' : Expr} {es : List Expr} {rest body : List Stmt} {τ τa τb : Ty} {t ta tb : TD} {m m' : SM} {pos : Pos} {g : GM} {gs : GMs}
/-! ### statements that change -/
def sAug (i : Nat) (o : D → D → (D → Prop) → Prop) (t : TD) : SM := fun ρ P => t ρ (fun d ρ' => o (rd ρ i) d fun z => P.nx (wr ρ' i z)) P.ex
theorem s_aug (i : Nat) {op : Operator} {o : D → D → (D → Prop) → Prop} {x : Str} {pos' : Pos} (ho : OpD X (inplaceOp op) .fz o) (hN : X.N.Nodup) (h : EOk X W C.ex Γ e Γ1 .fz t) (hnx : C.nx = Γ1.set i .fz := by rfl) (ht : Γ[i]? = some .fz := by rfl) (hl : i < Γ1.length := by decide) (hi : X.N[i]? = some x := by rfl)
    (hx : Loc X.env.scope x := by first | exact Or.inl rfl | exact Or.inr rfl) (hio : ios.contains i = false := by rfl) (hf : X.fn x = true ∨ X.env.scope.names.lookup x = some .local := by first | exact .inl rfl | exact .inr rfl | assumption) : SOk X W ios σ0 Γ (.AugAssign (.Name x pos') op e pos) C (sAug i o t) := by
  obtain ⟨r, hr, hf'⟩ := ho
  refine ⟨PS.imp (ps_aug (ti := r) hN hi hx h.pe (fun pins s σ H x y v u Q I rx ry q => hr pins s σ H x y v u Q I rx ry q) hf) fun D σ H ⟨F, S, ρ, P, w, io, q, cn⟩ => ?_⟩
  obtain ⟨as, rr, _, _⟩ := w.ex
  obtain ⟨o', d', cs, rest, e1, e2, e3, _⟩ := rr.focus ht
  obtain ⟨v, rfl, hv⟩ := e3
  have ed : rd ρ i = d' := by unfold rd; rw [List.getD_eq_getElem?_getD, e2]; rfl
  simp only [Rp] at hv
  refine ⟨v, e1, F, S, ρ, _, P.ex, w, q, fun d ρ' hq F' H' u bs g r w' => ?_, ex_of cn io⟩
  have w'' := w'.drop0
  refine hf' F' H' S Γ1 σ ρ' [] (rd ρ i) d v u _ _ w'' (Fz.vw w'.sub (by rw [ed]; exact hv.1.mono g.fz)) (Fz.vw w'.sub r.1) hq fun z hz F2 H2 y cs g2 rz w2 => ?_
  refine cn.nx _ hz F2 H2 _ (g.trans g2 fun _ => .inl) (io.set hio) ?_
  rw [hnx]
  exact Wd.put (bs := []) (cs := cs) w2 (List.getElem?_eq_getElem hl) rz
theorem Wd.mutB {K : PySem.W.Frag} {F H : Hp} {S : AS} {Γ : List Ty} {σ : St} {ρ : List D} {bs : List Addr} {i : Nat} {xs : List D} (w : Wd K F H S Γ σ ρ bs) (ht : Γ[i]? = some .ow) (hx : rd ρ i = .list xs) :
    ∃ p vs, σ[i]? = some (some (.ref p)) ∧ H p = some (.lst vs) ∧ FzL K F xs vs ∧ ∀ ys us, FzL K F ys us → Wd K F (upd H p (.lst us)) S Γ σ (wr ρ i (.list ys)) bs ∧ Gr (fun a => S a ∨ a ∈ bs) F H F (upd H p (.lst us)) := by
  obtain ⟨nd, ns⟩ := w.held
  obtain ⟨p, vs, h1, h2, h3, h4⟩ := w.lend0.mutL ht hx
  refine ⟨p, vs, h1, h2, h3, fun ys us hy => ?_⟩
  obtain ⟨w', g'⟩ := h4 ys us hy
  have := w'.back nd ns
  rw [List.append_nil] at this
  exact ⟨this, g'⟩
/-- a method that changes a slot's list: o of the list, the arguments, what is wanted of the answer and the list behind -/
def MutD (X : Cx) (id : String) (o : List D → List D → (D → List D → Prop) → Prop) : Prop := ∃ r, MtR X id r ∧
  ∀ (F H : Hp) (S : AS) (Γ : List Ty) (σ : St) (ρ : List D) (bs : List Addr) (i : Nat) (xs ds : List D) (vs us : List V) (p : Addr) (q : D → List D → Prop) (Q : VK), Wd X.K F H S Γ σ ρ bs → H p = some (.lst us) → FzL X.K F xs us → VwL X.K F H ds vs → o xs ds q →
    (∀ d ys z us', q d ys → Fz X.K F d z → FzL X.K F ys us' → Q z (upd H p (.lst us'))) → r (.ref p) vs H Q
def mMut (i : Nat) (o : List D → List D → (D → List D → Prop) → Prop) (τs : List Ty) (tr : TL) : TD := fun ρ Q E => (∃ xs, rd ρ i = .list xs) ∧ tr ρ (fun ds ρ' => match rd ρ' i with
  | .list xs => o xs (sees τs ρ' ds) (fun d ys => Q d (wr ρ' i (.list ys)))
  | _ => False) E
section
variable {Γx : List Ty} {τs : List Ty} {tr : TL} {o : List D → List D → (D → List D → Prop) → Prop} {name x : Str} {apos cpos px : Pos} {id : String}
theorem mut_fin {r : V → List V → Hp → VK → Prop} (hf : ∀ (F H : Hp) (S : AS) (Γ : List Ty) (σ : St) (ρ : List D) (bs : List Addr) (i : Nat) (xs ds : List D) (vs us : List V) (p : Addr) (q : D → List D → Prop) (Q : VK), Wd X.K F H S Γ σ ρ bs → H p = some (.lst us) → FzL X.K F xs us → VwL X.K F H ds vs → o xs ds q →
    (∀ d ys z us', q d ys → Fz X.K F d z → FzL X.K F ys us' → Q z (upd H p (.lst us'))) → r (.ref p) vs H Q) {F H : Hp} {S : AS} {σ : St} {ρ : List D} {bs : List Addr} {i : Nat} {xs ds : List D} {vs : List V} {q : D → List D → Prop} {Q : VK} (w : Wd X.K F H S Γ σ ρ bs) (ht : Γ[i]? = some .ow) (hx : rd ρ i = .list xs) (hv : VwL X.K F H ds vs)
    (h : o xs ds fun d ys => q d (wr ρ i (.list ys))) (fin : ∀ d ρ', q d ρ' → ∀ F' H' z cs, Gr (fun a => S a ∨ a ∈ bs) F H F' H' → RpV X.K F' H' σ .fz z d cs → Wd X.K F' H' S Γ σ ρ' (cs ++ bs) → Q z H') : ∃ p, σ[i]? = some (some (.ref p)) ∧ r (.ref p) vs H Q := by
  obtain ⟨p, us, h1, h2, h3, h4⟩ := w.mutB ht hx
  refine ⟨p, h1, hf F H S Γ σ ρ bs i xs ds vs us p _ Q w h2 h3 hv h fun d ys z us' hq hz hy => ?_⟩
  obtain ⟨w', g'⟩ := h4 ys us' hy
  exact fin d _ hq F _ z [] g' ⟨hz, rfl⟩ w'
theorem e_mut (i : Nat) (hm : MutD X id o) (slot : Slot "list" name id) (hty : typeOf (.builtin id) = pure (.type "method_descriptor")) (ha : AOk X W Γx Γ (e :: es) Γ' τs tr) (ho : opds Γ' τs = true := by rfl) (ht : Γ[i]? = some .ow := by rfl) (ht' : Γ'[i]? = some .ow := by rfl) (hN : X.N[i]? = some x := by rfl)
    (hv : Vis X.env.scope x := by first | exact Or.inl rfl | exact Or.inr (Or.inl rfl) | exact Or.inr (Or.inr rfl)) (hd : (x == ("__debug__" : Str)) = false := by decide) (hcd : (x == ("__classdict__" : Str)) = false := by decide)
    (hbase : attributeBase (.Name x px) name X.env (eval (.Name x px) X.env) = eval (.Name x px) X.env := by rfl)
    (hfew : ((backTo cpos (starEach (e :: es) X.env)).all (fun x => !x.1) && (backToKw cpos (keywordEach [] X.env)).all (fun x => x.1.isSome)
      && decide ((e :: es).length + ([] : List Keyword).length + (if ([] : List Keyword).isEmpty then 0 else 1) < 30)) = true := by rfl)
    (hline : (apos.endLine == cpos.line) = true := by rfl) (hs : starEach (e :: es) X.env = (false, eval e X.env) :: starEach es X.env := by rfl) (hplain : (backTo cpos (starEach es X.env)).any (·.1) = false := by rfl) :
    EOk X W Γx Γ (.Call (.Attribute (.Name x px) name apos) (e :: es) [] cpos) Γ' .fz (mMut i o τs tr) := by
  obtain ⟨r, hr, hf⟩ := hm
  refine ⟨PE.imp (pe_bm PySem.F.plainAttrs_list slot hty hr (pe_var hN hv hd hcd) ha.pa hbase hfew hline hs hplain) fun σ H Q ⟨F, S, ρ, Qd, Ed, w, q, p, px⟩ => ?_⟩
  obtain ⟨⟨xs, hx⟩, q⟩ := q
  obtain ⟨l, us, h1, h2, h3, _⟩ := w.mutL ht hx
  refine ⟨.ref l, h1, .inl ⟨rfl, us, .inl (.inl h2)⟩, F, S, ρ, _, Ed, w, q, fun ds ρ' hd F' H' vs bs g r w' => ?_, px⟩
  split at hd
  · rename_i ys hy
    obtain ⟨l', e', hr'⟩ := mut_fin hf w' ht' hy (w'.views ho r) hd fun d ρ2 h2 F2 H2 z cs g2 rz w2 => p d ρ2 h2 F2 H2 z cs (g.trans g2 fun _ => .inl) rz (w2.perm List.perm_append_comm).drop
    rw [h1] at e'
    cases e'
    exact hr'
  · exact hd.elim
theorem e_mut0 (i : Nat) (hm : MutD X id o) (slot : Slot "list" name id) (hty : typeOf (.builtin id) = pure (.type "method_descriptor")) (ht : Γ[i]? = some .ow := by rfl) (hN : X.N[i]? = some x := by rfl)
    (hv : Vis X.env.scope x := by first | exact Or.inl rfl | exact Or.inr (Or.inl rfl) | exact Or.inr (Or.inr rfl)) (hd : (x == ("__debug__" : Str)) = false := by decide) (hcd : (x == ("__classdict__" : Str)) = false := by decide)
    (hbase : attributeBase (.Name x px) name X.env (eval (.Name x px) X.env) = eval (.Name x px) X.env := by rfl) (hline : (apos.endLine == cpos.line) = true := by rfl) :
    EOk X W Γx Γ (.Call (.Attribute (.Name x px) name apos) [] [] cpos) Γ .fz (mMut i o [] aNil) := by
  obtain ⟨r, hr, hf⟩ := hm
  refine ⟨PE.imp (pe_bm0 PySem.F.plainAttrs_list slot hty hr (pe_var hN hv hd hcd) hbase hline) fun σ H Q ⟨F, S, ρ, Qd, Ed, w, q, p, px⟩ => ?_⟩
  obtain ⟨⟨xs, hx⟩, q⟩ := q
  obtain ⟨l, us, h1, h2, h3, _⟩ := w.mutL ht hx
  refine ⟨.ref l, h1, .inl ⟨rfl, us, .inl (.inl h2)⟩, ?_⟩
  have q' : match rd ρ i with
    | .list xs => o xs [] fun d ys => Qd d (wr ρ i (.list ys))
    | _ => False := q
  rw [hx] at q'
  obtain ⟨l', e', hr'⟩ := mut_fin (ds := []) (vs := []) hf w ht hx rfl q' fun d ρ2 h2 F2 H2 z cs g2 rz w2 => p d ρ2 h2 F2 H2 z cs (g2.shrink fun _ => .inl) rz (by rwa [List.append_nil] at w2)
  rw [h1] at e'
  cases e'
  exact hr'
end
def oApp (xs ds : List D) (q : D → List D → Prop) : Prop := match ds with
  | [d] => (∀ ys, d ≠ .list ys) ∧ xs.length < sizeLine ∧ q .none (xs ++ [d])
  | _ => False
/-- append of a thing that is frozen -/
def rAppF : V → List V → Hp → VK → Prop := rAppend
theorem md_extend_r : MtR X "list.extend" (fun x vs H Q => ∃ l b xs zs, x = .ref l ∧ vs = [.ref b] ∧ H l = some (.lst xs) ∧ SqL X.K H b zs ∧ xs.length + zs.length ≤ sizeLine ∧ Q .non (upd H l (.lst (xs ++ zs)))) := by
  intro pins s σ H x vs v us Q I rx rv h
  obtain ⟨l, b, xs, zs, rfl, rfl, hH, hB, hz, q⟩ := h
  cases rx
  obtain ⟨u, rfl, ru⟩ := rv.one
  cases ru
  obtain ⟨z, its, n, r, hl, e⟩ := I.lstM hH
  obtain ⟨z2, its2, n2, sl2, r2, hl2, e2⟩ := rdM I hB
  have hsz : its.toArray.size + its2.toArray.size ≤ sizeLine := by rw [List.size_toArray, List.size_toArray]; omega
  have hlong : ¬ (!its.toArray.isEmpty && Builtin.List.listTooLong (its.toArray.size + its2.toArray.size)) = true := by
    rw [notLongL hsz, Bool.and_false]
    exact Bool.false_ne_true
  refine call_meets F.slot_list_extend ⟨_, e, rfl⟩ F.entry_list_extend (F.args_list_extend_2 _ _)
    (list_extendW l its.toArray n b its2.toArray n2 sl2 hlong (by rw [List.size_toArray]; omega) (by omega)) ⟨e, e2, ?_⟩
  refine ⟨.non, _, I.lset (its' := its ++ its2) hH e (by simp) (r.append r2) ?_, rfl, q⟩
  rw [List.length_append]
  omega
def oExt (xs ds : List D) (q : D → List D → Prop) : Prop := match ds with
  | [.list ys] => xs.length + ys.length ≤ sizeLine ∧ q .none (xs ++ ys)
  | _ => False
theorem md_extend : MutD X "list.extend" oExt := by
  refine ⟨_, md_extend_r, fun F H S Γ σ ρ bs i xs ds vs us p q Q w hp hx hv h fin => ?_⟩
  unfold oExt at h
  split at h
  · obtain ⟨v, rfl, hw⟩ := VwL.one hv
    obtain ⟨a, zs, rfl, h1, h2⟩ := hw.list
    exact ⟨p, a, us, zs, rfl, rfl, hp, h1, by rw [← hx.length, ← h2.length]; exact h.1, fin _ _ _ _ h.2 rfl (hx.append h2)⟩
  · exact h.elim
def oPop0 (xs ds : List D) (q : D → List D → Prop) : Prop := ds = [] ∧ ∃ d, xs[xs.length - 1]? = some d ∧ q d xs.dropLast
theorem FzL.dropLast {K : PySem.W.Frag} {F : Hp} {ds : List D} {vs : List V} (h : FzL K F ds vs) : FzL K F ds.dropLast vs.dropLast := by
  rw [List.dropLast_eq_take, List.dropLast_eq_take, h.length]
  exact h.take _
theorem md_pop0 : MutD X "list.pop" oPop0 := by
  refine ⟨_, mt_pop, fun F H S Γ σ ρ bs i xs ds vs us p q Q w hp hx hv h fin => ?_⟩
  obtain ⟨rfl, d, hd, h⟩ := h
  cases (show vs = [] from hv)
  obtain ⟨v, e, f⟩ := hx.get hd
  exact ⟨p, us, v, rfl, rfl, hp, by rw [← hx.length]; exact e, fin _ _ _ _ h f hx.dropLast⟩
def oPop1 (xs ds : List D) (q : D → List D → Prop) : Prop := match ds with
  | [.int i] => ∃ k d, 0 ≤ i ∧ i.toNat = k ∧ xs[k]? = some d ∧ q d (xs.eraseIdx k)
  | _ => False
theorem FzL.eraseIdx {K : PySem.W.Frag} {F : Hp} {ds : List D} {vs : List V} (h : FzL K F ds vs) (k : Nat) : FzL K F (ds.eraseIdx k) (vs.eraseIdx k) := by
  rw [List.eraseIdx_eq_take_drop_succ, List.eraseIdx_eq_take_drop_succ]
  exact (h.take k).append (h.drop (k + 1))
def oClr (xs ds : List D) (q : D → List D → Prop) : Prop := ds = [] ∧ q .none []
theorem md_clear : MutD X "list.clear" oClr := by
  refine ⟨_, mt_clear, fun F H S Γ σ ρ bs i xs ds vs us p q Q w hp hx hv h fin => ?_⟩
  obtain ⟨rfl, h⟩ := h
  cases (show vs = [] from hv)
  exact ⟨p, us, rfl, rfl, hp, fin _ _ .non [] h rfl (by simp [FzL])⟩
/-- x.append(e): e is frozen -/
def mApp (i : Nat) (t : TD) : TD := fun ρ Q E => (∃ xs, rd ρ i = .list xs) ∧ t ρ (fun d ρ' => match rd ρ' i with
  | .list xs => xs.length < sizeLine ∧ Q .none (wr ρ' i (.list (xs ++ [d])))
  | _ => False) E
theorem e_app (i : Nat) {Γx : List Ty} {x : Str} {apos cpos px : Pos} (h : EOk X W Γx Γ e Γ' .fz t) (ht : Γ[i]? = some .ow := by rfl) (ht' : Γ'[i]? = some .ow := by rfl) (hN : X.N[i]? = some x := by rfl)
    (hv : Vis X.env.scope x := by first | exact Or.inl rfl | exact Or.inr (Or.inl rfl) | exact Or.inr (Or.inr rfl)) (hd : (x == ("__debug__" : Str)) = false := by decide) (hcd : (x == ("__classdict__" : Str)) = false := by decide)
    (hbase : attributeBase (.Name x px) "append" X.env (eval (.Name x px) X.env) = eval (.Name x px) X.env := by rfl)
    (hfew : ((backTo cpos (starEach [e] X.env)).all (fun x => !x.1) && (backToKw cpos (keywordEach [] X.env)).all (fun x => x.1.isSome)
      && decide (([e] : List Expr).length + ([] : List Keyword).length + (if ([] : List Keyword).isEmpty then 0 else 1) < 30)) = true := by rfl)
    (hline : (apos.endLine == cpos.line) = true := by rfl) (hs : starEach [e] X.env = (false, eval e X.env) :: starEach [] X.env := by rfl) (hplain : (backTo cpos (starEach [] X.env)).any (·.1) = false := by rfl) :
    EOk X W Γx Γ (.Call (.Attribute (.Name x px) "append" apos) [e] [] cpos) Γ' .fz (mApp i t) := by
  refine ⟨PE.imp (pe_bm PySem.F.plainAttrs_list PySem.F.slot_list_append PySem.F.type_list_append mt_append (pe_var hN hv hd hcd) (pa_cons h.pe pa_nil hs) hbase hfew hline hs hplain) fun σ H Q ⟨F, S, ρ, Qd, Ed, w, q, p, px⟩ => ?_⟩
  obtain ⟨⟨xs, hx⟩, q⟩ := q
  obtain ⟨l, us, h1, h2, h3, _⟩ := w.mutL ht hx
  refine ⟨.ref l, h1, .inl ⟨rfl, us, .inl (.inl h2)⟩, F, S, ρ, _, Ed, w, q, fun d ρ' hd F' H' v bs g r w' => ?_, px⟩
  split at hd
  · rename_i ys hy
    obtain ⟨r1, rfl⟩ := r
    obtain ⟨l', us', h1', h2', h3', h4'⟩ := w'.mutL ht' hy
    rw [h1] at h1'
    cases h1'
    obtain ⟨w2, g2⟩ := h4' (ys ++ [d]) (us' ++ [v]) (h3'.append ⟨v, [], rfl, r1, rfl⟩)
    exact ⟨l, us', v, rfl, rfl, h2', by rw [← h3'.length]; exact hd.1, p _ _ hd.2 F' _ .non [] (g.trans g2 fun _ h => h) ⟨rfl, rfl⟩ w2⟩
  · exact hd.elim
/-- x[k] = e -/
def sSub (i : Nat) (ti te : TD) : SM := fun ρ P => te ρ (fun d ρ1 => ti ρ1 (fun k ρ2 => match rd ρ2 i, k with
  | .list xs, .int k => ∃ j, ixN xs.length k = some j ∧ P.nx (wr ρ2 i (.list (xs.set j d)))
  | _, _ => False) P.ex) P.ex
theorem s_sub (i : Nat) {x : Str} {px pt : Pos} (he : EOk X W C.ex Γ e Γ1 .fz t) (hi : EOk X W C.ex Γ1 i' C.nx .fz ta) (ht : C.nx[i]? = some .ow := by rfl) (ht1 : Γ1[i]? = some .ow := by rfl) (hN : X.N[i]? = some x := by rfl) (hv : Vis X.env.scope x := by first | exact Or.inl rfl | exact Or.inr (Or.inl rfl) | exact Or.inr (Or.inr rfl))
    (hd : (x == ("__debug__" : Str)) = false := by decide) (hcd : (x == ("__classdict__" : Str)) = false := by decide)
    (ha : ∀ v, assign (.Subscript (.Name x px) i' pt) X.env v = (do
      let ov ← holding [v] (eval (.Name x px) X.env)
      let iv ← holding [v, ov] (eval i' X.env)
      standAt pt
      holding [v, ov, iv] (setItem ov iv v)
      release [v, ov, iv] []) := by intro _; rfl)
    (hs : swapsWithSole [.Subscript (.Name x px) i' pt] e pos.line X.env = pure false := by rfl) (hw : swappedStores [.Subscript (.Name x px) i' pt] e X.env = pure none := by rfl)
    (h1 : (assignEach [.Subscript (.Name x px) i' pt] X.env).map (·.2) = [assign (.Subscript (.Name x px) i' pt) X.env] := by rfl) :
    SOk X W ios σ0 Γ (.Assign [.Subscript (.Name x px) i' pt] e pos) C (sSub i ta t) := by
  refine ⟨PS.imp (ps_asg he.pe (pg_sub (pe_var hN hv hd hcd) hi.pe set_list ha) hs hw h1) fun D σ H ⟨F, S, ρ, P, w, io, q, cn⟩ => ?_⟩
  refine ⟨F, S, ρ, _, P.ex, w, q, fun d ρ1 q1 F1 H1 v bs g1 r1 w1 => ?_, ex_of cn io⟩
  obtain ⟨r1, rfl⟩ := r1
  obtain ⟨v0, cs0, e0, _, _⟩ := w1.take ht1 (by intro h; cases h)
  refine ⟨v0, e0, F1, S, ρ1, _, P.ex, w1, q1, fun k ρ2 q2 F2 H2 u cs g2 r2 w2 => ?_, ex_of (cn.later g1) io⟩
  obtain ⟨r2, rfl⟩ := r2
  split at q2
  · rename_i xs k hx
    obtain ⟨j, hj, hq⟩ := q2
    obtain ⟨l, us, h1, h2, h3, h4⟩ := w2.mutL ht hx
    rw [h1] at e0
    cases e0
    obtain ⟨w3, g3⟩ := h4 (xs.set j d) (us.set j v) (h3.set (r1.mono g2.fz) j)
    exact ⟨l, us, k, j, rfl, r2.int, h2, by rw [← h3.length]; exact hj, cn.nx _ hq F2 _ σ ((g1.trans g2 fun _ h => h).trans g3 fun _ h => h) io w3⟩
  · exact q2.elim
end
end T2

namespace T2
open L2 PySem PySem.Spec PyProof.Rows

/-! ### list comprehensions -/
def lcD (g : GM) (c : TB) (te : TD) (Q : D → List D → Prop) : List D → List D → List D → Prop
  | [], acc, ρ => Q (.list acc) ρ
  | x :: xs, acc, ρ => g x ρ fun ρ1 => c ρ1 (fun b ρ2 => if b = true then te ρ2 (fun d ρ3 => acc.length < sizeLine ∧ lcD g c te Q xs (acc ++ [d]) ρ3) (fun _ _ => False) else lcD g c te Q xs acc ρ2) (fun _ _ => False)
def tLC (ti : TL) (g : GM) (c : TB) (te : TD) : TD := fun ρ Q E => ti ρ (fun xs ρ' => lcD g c te Q xs [] ρ') E
def cYes : TB := fun ρ Q _ => Q true ρ
abbrev WN : WX := fun _ _ _ _ => False
structure COk (X : Cx) (Γ : List Ty) (ifs : List Expr) (Γ' : List Ty) (c : TB) : Prop where
  pt : PTs X ifs (liftT X WN Γ Γ Γ' c)
theorem PTs.imp {X : Cx} {e : List Expr} {t t' : TT} (p : PTs X e t) (h : ∀ σ H Q, t' σ H Q → t σ H Q) : PTs X e t' := ⟨fun pins s σ H Q I q => p.run pins s σ H Q I (h σ H Q q)⟩
section
variable {X : Cx} {W : WX} {ios : List Nat} {σ0 : St} {Γ Γ1 Γ2 Γ3 Γ4 Γb Γx Γ' : List Ty} {C : TC} {e c tg iter elt : Expr} {ifs : List Expr} {ti : TL} {te : TD} {g : GM} {tc : TB}
theorem c_nil : COk X Γ [] Γ cYes := ⟨PTs.imp pts_nil fun σ H Q ⟨F, S, ρ, Qd, Ed, w, q, p, px⟩ => p true ρ q F H .refl w⟩
theorem c_one {t : TB} (h : TOk X WN Γ Γ c Γ' t) : COk X Γ [c] Γ' t := ⟨pts_one h.pt⟩
theorem wipe_get (σ : St) : ∀ (vs : List Nat) (i : Nat), i < σ.length → i ∈ vs → (wipe σ vs)[i]? = some none
  | [], i, _, h => by simp at h
  | v :: vs, i, hi, h => by
    unfold wipe
    by_cases e : v = i
    · subst e
      rw [List.getElem?_set_self (by rw [wipe_length]; exact hi)]
    · rw [List.getElem?_set_ne e]
      exact wipe_get σ vs i hi ((List.mem_cons.mp h).resolve_left fun z => e z.symm)
theorem wipe_ne (σ : St) : ∀ (vs : List Nat) (i : Nat), i ∉ vs → (wipe σ vs)[i]? = σ[i]?
  | [], _, _ => rfl
  | v :: vs, i, h => by
    unfold wipe
    simp only [List.mem_cons, not_or] at h
    rw [List.getElem?_set_ne fun e => h.1 e.symm, wipe_ne σ vs i h.2]
def rest (n : Nat) (vs : List Nat) : List Nat := (List.range n).filter fun i => !vs.contains i
theorem mem_rest {n : Nat} {vs : List Nat} {i : Nat} (h : i < n) (h' : i ∉ vs) : i ∈ rest n vs := by
  unfold rest
  rw [List.mem_filter]
  exact ⟨List.mem_range.mpr h, by simpa using h'⟩
def botAt (Γ : List Ty) (vs : List Nat) : Bool := vs.all fun i => match Γ[i]? with
  | some .bot => true
  | _ => false
theorem botAt_ne {Γ : List Ty} {vs : List Nat} (h : botAt Γ vs = true) {i : Nat} (hi : Γ[i]? ≠ some .bot) : i ∉ vs := fun hm => by
  unfold botAt at h
  have := List.all_eq_true.mp h i hm
  split at this
  · rename_i e; exact hi e
  · cases this
theorem lc_body {vs : List Nat} (hlen : Γ2.length = Γb.length) (hb : botAt Γb vs = true) (hl : tyLe Γ1 Γb = true) (h3 : tyLe Γ3 Γb = true) (h4 : tyLe Γ4 Γb = true) {σ : St} {F1 H1 : Hp} {S : AS} {ρ1 xs : List D} {Qd : D → List D → Prop} {Q : VK} {J : It}
    (w1 : Wd X.K F1 H1 S Γ1 σ ρ1 []) (J1 : ItD X.K J S F1 H1 xs) (hx : lcD g tc te Qd xs [] ρ1) (p : ∀ d ρ', Qd d ρ' → ∀ F' H' v bs, Gr S F1 H1 F' H' → RpV X.K F' H' σ .ow v d bs → Wd X.K F' H' S Γb σ ρ' bs → Q v H') :
    ∀ D, H1 D = none → ∃ W : Nat → Nat → Hp → Prop, (∃ m, W 0 m (upd H1 D (.lst []))) ∧ ∀ i m H, W i m H →
  (J.stop i H ∧ Q (.ref D) H) ∨ (J.go i H ∧ ∃ Nx : Hp → Prop, (∀ H', Nx H' → ∃ m', m' < m ∧ W (i + 1) m' H') ∧ ∀ x H', J.yld i H x H' → liftG X (rest Γb.length vs) (wipe σ vs) Γb Γ2 g x (wipe σ vs) H' fun σ2 H2 => wipe σ2 vs = wipe σ vs ∧ liftT X WN Γ2 Γ2 Γ3 tc σ2 H2 fun b H3 =>
    if b = true then liftE X WN Γ3 Γ3 Γ4 .fz te σ2 H3 fun y H4 => ∃ acc, H4 D = some (.lst acc) ∧ acc.length < sizeLine ∧ Nx (upd H4 D (.lst (acc ++ [y]))) else Nx H3) := by
  intro D hD
  have w1a := w1.alloc (o := .lst []) hD
  obtain ⟨F2, s2, w2⟩ := w1a.weakB hl
  have nd := w2.held
  have lenσ : (wipe σ vs).length = σ.length := wipe_length σ vs
  have lenΓ : Γb.length = σ.length := w2.len.1
  have toW : ∀ {F' H' S' ρ' bs}, Wd X.K F' H' S' Γb σ ρ' bs → Wd X.K F' H' S' Γb (wipe σ vs) ρ' bs := fun w => w.cong lenσ fun i hi => (wipe_ne σ vs i (botAt_ne hb hi)).symm
  have ofW : ∀ {F' H' S' ρ' bs}, Wd X.K F' H' S' Γb (wipe σ vs) ρ' bs → Wd X.K F' H' S' Γb σ ρ' bs := fun w => w.cong lenσ.symm fun i hi => wipe_ne σ vs i (botAt_ne hb hi)
  refine ⟨fun i m H' => m = xs.length - i ∧ i ≤ xs.length ∧ ∃ F' ρ' acc us, Gr S F1 H1 F' H' ∧ Wd X.K F' H' (fun a => S a ∨ a ∈ [D]) Γb (wipe σ vs) ρ' [] ∧ H' D = some (.lst us) ∧ FzL X.K F' acc us ∧ lcD g tc te Qd (xs.drop i) acc ρ',
    ⟨xs.length, by simp, Nat.zero_le _, F2, ρ1, [], [], ⟨s2, fun a ha => ?_⟩, toW w2.lend0, upd_same, by simp [FzL], by simpa using hx⟩, ?_⟩
  · exact upd_ne (fun e => nd.2 D (by simp) (by rw [← e]; exact ha))
  rintro i m H3 ⟨rfl, hi, F3, ρ3, acc, us, s3, w3, d3, f3, l3⟩
  by_cases hlt : i < xs.length
  · refine .inr ⟨J1.go F3 H3 s3 w3.sub i hlt, fun H' => ∃ F' ρ' acc us, Gr S F1 H1 F' H' ∧ Wd X.K F' H' (fun a => S a ∨ a ∈ [D]) Γb (wipe σ vs) ρ' [] ∧ H' D = some (.lst us) ∧ FzL X.K F' acc us ∧ lcD g tc te Qd (xs.drop (i + 1)) acc ρ',
      fun H' h => ⟨xs.length - (i + 1), by omega, rfl, hlt, h⟩, fun x H4 hy => ?_⟩
    obtain ⟨d, F4, e4, g4, w4, r4⟩ := J1.yld F3 H3 _ Γb _ ρ3 [] s3 (fun _ => .inl) w3 i x H4 hlt hy
    have ed : xs.drop i = d :: xs.drop (i + 1) := by
      rw [List.drop_eq_getElem_cons hlt]
      rw [List.getElem?_eq_getElem hlt] at e4
      cases e4
      rfl
    rw [ed] at l3
    refine ⟨F4, _, ρ3, d, _, w4, fun _ _ => rfl, r4, l3, fun ρ5 σ5 h5 io5 w5 => ?_⟩
    have len5 : σ5.length = σ.length := by rw [← w5.len.1, hlen, lenΓ]
    have same : ∀ j, j ∉ vs → σ5[j]? = (wipe σ vs)[j]? := fun j hj => by
      by_cases hlj : j < Γb.length
      · exact io5 j (mem_rest hlj hj)
      · rw [List.getElem?_eq_none (by omega), List.getElem?_eq_none (by omega)]
    have to5 : ∀ {F' H' S' ρ' bs}, Wd X.K F' H' S' Γb σ5 ρ' bs → Wd X.K F' H' S' Γb (wipe σ vs) ρ' bs := fun w => w.cong (by omega) fun j hj => same j (botAt_ne hb hj)
    have hw : wipe σ5 vs = wipe σ vs := by
      apply List.ext_getElem?
      intro j
      by_cases hj : j ∈ vs
      · by_cases hlj : j < σ.length
        · rw [wipe_get σ5 vs j (by omega) hj, wipe_get σ vs j hlj hj]
        · rw [List.getElem?_eq_none (by rw [wipe_length]; omega), List.getElem?_eq_none (by rw [wipe_length]; omega)]
      · rw [wipe_ne σ5 vs j hj, same j hj]
    refine ⟨hw, F4, _, ρ5, _, _, w5, h5, fun b ρ6 hb6 F6 H6 g6 w6 => ?_, fun _ _ z => z.elim⟩
    have g46 : Gr (fun a => S a ∨ a ∈ [D]) F3 H3 F6 H6 := (Gr.shrink g4 fun _ h => .inl h).trans g6 fun _ h => h
    have d6 : H6 D = some (.lst us) := by rw [g46.eq D (.inr (by simp))]; exact d3
    cases b with
    | false =>
      simp only [Bool.false_eq_true, if_false] at hb6 ⊢
      obtain ⟨F7, s7, w7⟩ := w6.weak h3
      exact ⟨F7, ρ6, acc, us, ⟨(s3.fz.trans g46.fz).trans s7, fun a ha => (g46.eq a (.inl ha)).trans (s3.eq a ha)⟩, to5 w7, d6, f3.mono (g46.fz.trans s7), hb6⟩
    | true =>
      simp only [if_true] at hb6 ⊢
      refine ⟨F6, _, ρ6, _, _, w6, hb6, fun y ρ7 h7 F7 H7 v bs g7 r7 w7 => ?_, fun _ _ z => z.elim⟩
      obtain ⟨h7a, h7b⟩ := h7
      obtain ⟨r7, rfl⟩ := r7
      have d7 : H7 D = some (.lst us) := by rw [g7.eq D (.inr (by simp))]; exact d6
      have fs : FzL X.K F7 (acc ++ [y]) (us ++ [v]) := (f3.mono (g46.fz.trans g7.fz)).append ⟨v, [], rfl, r7, rfl⟩
      have w8 := w7.updS (p := D) (o := .lst (us ++ [v])) (.inr (by simp))
      obtain ⟨F9, s9, w9⟩ := w8.weak h4
      refine ⟨us, d7, by rw [← f3.length]; exact h7a, F9, ρ7, acc ++ [y], us ++ [v], ⟨((s3.fz.trans g46.fz).trans g7.fz).trans s9, fun a ha => ?_⟩, to5 w9, upd_same, fs.mono s9, h7b⟩
      rw [upd_ne (fun e => nd.2 D (by simp) (by rw [← e]; exact ha))]
      exact (g7.eq a (.inl ha)).trans ((g46.eq a (.inl ha)).trans (s3.eq a ha))
  · have e : i = xs.length := by omega
    subst e
    refine .inl ⟨J1.stop F3 H3 s3 w3.sub, ?_⟩
    rw [List.drop_length] at l3
    have wb := (ofW w3).back nd.1 nd.2
    rw [List.append_nil] at wb
    refine p _ ρ3 l3 F3 H3 (.ref D) [D] s3 ?_ wb
    show Rp X.K F3 H3 .ow (.ref D) (.list acc) [D]
    simp only [Rp]
    exact ⟨D, us, rfl, d3, f3, rfl⟩
theorem lc_pure {vs : List Nat} (hlen : Γ2.length = Γb.length) (hb : botAt Γb vs = true) (hl : tyLe Γ1 Γb = true) (h3 : tyLe Γ3 Γb = true) (h4 : tyLe Γ4 Γb = true) {σ : St} {H : Hp} {Q : VK}
    (h : liftE X W Γx Γ Γb .ow (tLC ti g tc te) σ H Q) : tLc (liftI X W Γx Γ Γ1 ti) (fun v σ H Q => liftG X (rest Γb.length vs) σ Γb Γ2 g v σ H Q) (liftT X WN Γ2 Γ2 Γ3 tc) (liftE X WN Γ3 Γ3 Γ4 .fz te) vs σ H Q := by
  obtain ⟨F, S, ρ, Qd, Ed, w, q, p, px⟩ := h
  exact ⟨F, S, ρ, _, Ed, w, q, fun xs ρ1 hx F1 H1 J g1 w1 J1 => lc_body hlen hb hl h3 h4 w1 J1 hx fun d ρ' hd F' H' v bs g' => p d ρ' hd F' H' v bs (g1.trans g' fun _ h => h), px⟩
/-- over a list that a slot owns: the slot is lent meanwhile -/
def tLCp (i : Nat) (g : GM) (c : TB) (te : TD) : TD := fun ρ Q _ => ∃ xs, rd ρ i = .list xs ∧ lcD g c te (fun d ρ' => Q d (wr ρ' i (.list xs))) xs [] ρ
def iOwn (K : PySem.W.Frag) (Γ : List Ty) (i : Nat) : TI := fun σ H R => ∃ F S ρ a us xs, Wd K F H S (Γ.set i .bot) σ ρ [] ∧ σ[i]? = some (some (.ref a)) ∧ S a ∧ H a = some (.lst us) ∧ FzL K F xs us ∧ R (Itl K a) H
theorem pi_own (i : Nat) {x : Str} {p : Pos} (hN : X.N[i]? = some x) (hv : Vis X.env.scope x) (hd : (x == ("__debug__" : Str)) = false) (hcd : (x == ("__classdict__" : Str)) = false) : PI X tg (.Name x p) (iOwn X.K Γ i) :=
  PI.imp (pi_seq (pe_var hN hv hd hcd)) fun σ H R ⟨F, S, ρ, a, us, xs, w, e, sa, ha, f, r⟩ => ⟨.ref a, e, .inl ⟨a, us, rfl, .inl (.inl ha), r⟩⟩
theorem itD_own {K : PySem.W.Frag} {S : AS} {F H : Hp} {a : Addr} {vs : List V} {ds : List D} (sa : S a) (h : H a = some (.lst vs)) (r : FzL K F ds vs) : ItD K (Itl K a) S F H ds where
  go := fun F' H' s s' i hi => by
    obtain ⟨v, e, _⟩ := r.get (List.getElem?_eq_getElem hi)
    exact ⟨vs, v, .inl (.inl ((s.eq a sa).trans h)), e⟩
  stop := fun F' H' s s' => ⟨vs, .inl (.inl ((s.eq a sa).trans h)), Nat.le_of_eq r.length.symm⟩
  yld := fun F' H' S' Γ σ ρ bs s hs w i x H2 hi ⟨e, y⟩ => by
    subst e
    obtain ⟨d, e2, f⟩ := r.getV (y vs (.inl (.inl ((s.eq a sa).trans h))))
    exact ⟨d, F', e2, .refl, w, f.mono s.fz⟩
theorem lcp_pure {vs : List Nat} (i : Nat) (ht : Γ[i]? = some .ow) (hlen : Γ2.length = Γb.length) (hb : botAt Γb vs = true) (hl : tyLe (Γ.set i .bot) Γb = true) (h3 : tyLe Γ3 Γb = true) (h4 : tyLe Γ4 Γb = true) (hi : i < Γb.length) {σ : St} {H : Hp} {Q : VK}
    (h : liftE X W Γx Γ (Γb.set i .ow) .ow (tLCp i g tc te) σ H Q) : tLc (iOwn X.K Γ i) (fun v σ H Q => liftG X (rest Γb.length vs) σ Γb Γ2 g v σ H Q) (liftT X WN Γ2 Γ2 Γ3 tc) (liftE X WN Γ3 Γ3 Γ4 .fz te) vs σ H Q := by
  obtain ⟨F, S, ρ, Qd, Ed, w, ⟨xs, ex, q⟩, p, px⟩ := h
  obtain ⟨v, cs, e1, hr, w1⟩ := w.take ht (by intro h; cases h)
  rw [ex] at hr
  simp only [Rp] at hr
  obtain ⟨a, us, rfl, h1, h2, rfl⟩ := hr
  rw [List.append_nil] at w1
  obtain ⟨nd, ns⟩ := w1.held
  refine ⟨F, fun b => S b ∨ b ∈ [a], ρ, a, us, xs, w1.lend0, e1, .inr (by simp), h1, h2, ?_⟩
  refine lc_body hlen hb hl h3 h4 w1.lend0 (itD_own (.inr (by simp)) h1 h2) q fun d ρ' hd F' H' v bs g' r' w' => ?_
  have wb := w'.back nd ns
  have ha : H' a = some (.lst us) := (g'.eq a (.inr (by simp))).trans h1
  have w3 := Wd.put (cs := [a]) (bs := bs) (t := .ow) (v := .ref a) (d := .list xs) wb (List.getElem?_eq_getElem hi) (by simp only [Rp]; exact ⟨a, us, rfl, ha, h2.mono g'.fz, rfl⟩)
  rw [Wd.setσ e1] at w3
  exact p d _ hd F' H' v bs ⟨g'.fz, fun b hb => g'.eq b (.inl hb)⟩ r' w3
theorem e_lc {scope : Scope} {pos : Pos} (own : List (Str × Nat)) (hc : X.calm = true) (hN : X.N.Nodup) (hi : IOk X W Γx Γ tg iter Γ1 ti) (ok : BlkOk X.N X.env.scope scope own)
    (hg : ∀ (s : Shared) (H : Hp) (C : Addr) (cl : List (Str × Addr)) (fp : List Addr) (σ0 : St), GOk (X.blk s H scope (compEnvC scope cl C X.env) fp) (rest Γb.length (own.map (·.2))) σ0 Γb tg Γ2 g)
    (ht : ∀ (s : Shared) (H : Hp) (C : Addr) (cl : List (Str × Addr)) (fp : List Addr), COk (X.blk s H scope (compEnvC scope cl C X.env) fp) Γ2 ifs Γ3 tc)
    (he : ∀ (s : Shared) (H : Hp) (C : Addr) (cl : List (Str × Addr)) (fp : List Addr), EOk (X.blk s H scope (compEnvC scope cl C X.env) fp) WN Γ3 Γ3 elt Γ4 .fz te)
    (hlen : Γ2.length = Γb.length := by rfl) (hb : botAt Γb (own.map (·.2)) = true := by rfl) (hl : tyLe Γ1 Γb = true := by rfl) (h3 : tyLe Γ3 Γb = true := by rfl) (h4 : tyLe Γ4 Γb = true := by rfl) (hs : ∀ x, foldedSetIterable iter X.env x = pure x := by intro _; rfl) :
    EOk X W Γx Γ (.ListComp elt [⟨tg, iter, ifs, 0⟩] scope pos) Γb .ow (tLC ti g tc te) :=
  ⟨PE.imp (pe_lc (g := fun v σ H Q => liftG X (rest Γb.length (own.map fun p : Str × Nat => p.2)) σ Γb Γ2 g v σ H Q) (tt := liftT X WN Γ2 Γ2 Γ3 tc) (te := liftE X WN Γ3 Γ3 Γ4 .fz te) hc hN hi.pi ok (fun s H C cl fp => ⟨fun pins s' σ H' v u Q I r q => (hg s H C cl fp σ).pg.run pins s' σ H' v u Q I r q⟩) (fun s H C cl fp => (ht s H C cl fp).pt) (fun s H C cl fp => (he s H C cl fp).pe) hs) fun σ H Q h => lc_pure hlen hb hl h3 h4 h⟩
theorem s_setLc {ios : List Nat} {scope : Scope} {pos spos py : Pos} {y : Str} (i : Nat) (own : List (Str × Nat)) (hc : X.calm = true) (hN : X.N.Nodup) (hi : IOk X W C.ex Γ tg iter Γ1 ti) (ok : BlkOk X.N X.env.scope scope own)
    (hg : ∀ (s : Shared) (H : Hp) (C : Addr) (cl : List (Str × Addr)) (fp : List Addr) (σ0 : St), GOk (X.blk s H scope (compEnvC scope cl C X.env) fp) (rest Γb.length (own.map (·.2))) σ0 Γb tg Γ2 g)
    (ht : ∀ (s : Shared) (H : Hp) (C : Addr) (cl : List (Str × Addr)) (fp : List Addr), COk (X.blk s H scope (compEnvC scope cl C X.env) fp) Γ2 ifs Γ3 tc)
    (he : ∀ (s : Shared) (H : Hp) (C : Addr) (cl : List (Str × Addr)) (fp : List Addr), EOk (X.blk s H scope (compEnvC scope cl C X.env) fp) WN Γ3 Γ3 elt Γ4 .fz te)
    (hnx : C.nx = Γb.set i .ow := by rfl) (hy : X.N[i]? = some y := by rfl) (hyl : X.env.scope.names.lookup y = some .local := by rfl) (hlt : i < Γb.length := by decide) (hio : ios.contains i = false := by rfl)
    (hsw : swapsWith (.ListComp elt [⟨tg, iter, ifs, 0⟩] scope pos) (some (.Name y py)) spos.line X.env = pure true := by first | rfl | exact sw_true rfl rfl rfl rfl)
    (hlen : Γ2.length = Γb.length := by rfl) (hb : botAt Γb (own.map (·.2)) = true := by rfl) (hl : tyLe Γ1 Γb = true := by rfl) (h3 : tyLe Γ3 Γb = true := by rfl) (h4 : tyLe Γ4 Γb = true := by rfl) (hs : ∀ x, foldedSetIterable iter X.env x = pure x := by intro _; rfl) :
    SOk X W ios σ0 Γ (.Assign [.Name y py] (.ListComp elt [⟨tg, iter, ifs, 0⟩] scope pos) spos) C (sSet i (tLC ti g tc te)) := by
  refine ⟨PS.imp (ps_setLc (g := fun v σ H Q => liftG X (rest Γb.length (own.map fun p : Str × Nat => p.2)) σ Γb Γ2 g v σ H Q) (tt := liftT X WN Γ2 Γ2 Γ3 tc) (te := liftE X WN Γ3 Γ3 Γ4 .fz te) hc hN hy hyl hsw hi.pi ok (fun s H C cl fp => ⟨fun pins s' σ H' v u Q I r q => (hg s H C cl fp σ).pg.run pins s' σ H' v u Q I r q⟩) (fun s H C cl fp => (ht s H C cl fp).pt) (fun s H C cl fp => (he s H C cl fp).pe) hs) fun D σ H ⟨F, S, ρ, P, w, io, q, cn⟩ => ?_⟩
  refine lc_pure (Q := fun x H1 => gName i x σ H1 D.nx) hlen hb hl h3 h4 ⟨F, S, ρ, _, P.ex, w, q, fun d ρ' hq F' H' v bs g r w' => ?_, ex_of cn io⟩
  refine cn.nx _ hq F' H' _ g (io.set hio) ?_
  rw [hnx]
  exact Wd.put (bs := []) (cs := bs) (by rw [List.append_nil]; exact w') (List.getElem?_eq_getElem hlt) (r.val rfl)
theorem e_lcP {scope : Scope} {pos p : Pos} {x : Str} (i : Nat) (own : List (Str × Nat)) (hc : X.calm = true) (hN : X.N.Nodup) (ok : BlkOk X.N X.env.scope scope own)
    (hg : ∀ (s : Shared) (H : Hp) (C : Addr) (cl : List (Str × Addr)) (fp : List Addr) (σ0 : St), GOk (X.blk s H scope (compEnvC scope cl C X.env) fp) (rest Γb.length (own.map (·.2))) σ0 Γb tg Γ2 g)
    (ht : ∀ (s : Shared) (H : Hp) (C : Addr) (cl : List (Str × Addr)) (fp : List Addr), COk (X.blk s H scope (compEnvC scope cl C X.env) fp) Γ2 ifs Γ3 tc)
    (he : ∀ (s : Shared) (H : Hp) (C : Addr) (cl : List (Str × Addr)) (fp : List Addr), EOk (X.blk s H scope (compEnvC scope cl C X.env) fp) WN Γ3 Γ3 elt Γ4 .fz te)
    (hΓ : Γ' = Γb.set i .ow := by rfl) (hti : Γ[i]? = some .ow := by rfl) (hNi : X.N[i]? = some x := by rfl) (hv : Vis X.env.scope x := by first | exact Or.inl rfl | exact Or.inr (Or.inl rfl) | exact Or.inr (Or.inr rfl)) (hd : (x == ("__debug__" : Str)) = false := by decide) (hcd : (x == ("__classdict__" : Str)) = false := by decide)
    (hlt : i < Γb.length := by decide) (hlen : Γ2.length = Γb.length := by rfl) (hb : botAt Γb (own.map (·.2)) = true := by rfl) (hl : tyLe (Γ.set i .bot) Γb = true := by rfl) (h3 : tyLe Γ3 Γb = true := by rfl) (h4 : tyLe Γ4 Γb = true := by rfl) (hs : ∀ y, foldedSetIterable (.Name x p) X.env y = pure y := by intro _; rfl) :
    EOk X W Γx Γ (.ListComp elt [⟨tg, .Name x p, ifs, 0⟩] scope pos) Γ' .ow (tLCp i g tc te) := by
  subst hΓ
  exact ⟨PE.imp (pe_lc (g := fun v σ H Q => liftG X (rest Γb.length (own.map fun p : Str × Nat => p.2)) σ Γb Γ2 g v σ H Q) (tt := liftT X WN Γ2 Γ2 Γ3 tc) (te := liftE X WN Γ3 Γ3 Γ4 .fz te) hc hN (pi_own (Γ := Γ) i hNi hv hd hcd) ok (fun s H C cl fp => ⟨fun pins s' σ H' v u Q I r q => (hg s H C cl fp σ).pg.run pins s' σ H' v u Q I r q⟩) (fun s H C cl fp => (ht s H C cl fp).pt) (fun s H C cl fp => (he s H C cl fp).pe) hs) fun σ H Q h => lcp_pure i hti hlen hb hl h3 h4 hlt h⟩
end
end T2

namespace T2
open L2 PySem PySem.Spec PyProof.Rows

/-! ### defs and calls -/
def isBot : Ty → Bool
  | .bot => true
  | _ => false
/-- what comes back in the parameters -/
def sel : List Ty → List D → List D
  | t :: ts, d :: ds => if isBot t = true then sel ts ds else d :: sel ts ds
  | _, _ => []
def takeT : List Ty → List Ty → List Ty
  | Γ, [] => Γ
  | Γ, .pk i :: τs => takeT (Γ.set i .bot) τs
  | Γ, _ :: τs => takeT Γ τs
def insT : List Ty → List Ty → List Ty
  | _, [] => []
  | Γ, .pk i :: τs => (Γ[i]?).getD .bot :: insT (Γ.set i .bot) τs
  | Γ, τ :: τs => τ :: insT Γ τs
def okT : List Ty → List Ty → Bool
  | _, [] => true
  | Γ, .pk i :: τs => (match Γ[i]? with
    | some t => !isBot t
    | none => false) && okT (Γ.set i .bot) τs
  | Γ, .mv _ _ :: τs => false
  | Γ, _ :: τs => okT Γ τs
def putT : List Ty → List Ty → List Ty → List Ty
  | Γ, τ :: τs, o :: outs => if isBot o = true then putT Γ τs outs else match τ with
    | .pk i => putT (Γ.set i o) τs outs
    | _ => putT Γ τs outs
  | Γ, _, _ => Γ
def putD : List D → List Ty → List Ty → List D → List D
  | ρ, τ :: τs, o :: outs, os => if isBot o = true then putD ρ τs outs os else match τ with
    | .pk i => putD (ρ.set i (os.headD .none)) τs outs os.tail
    | _ => putD ρ τs outs os.tail
  | ρ, _, _, _ => ρ
def spD (K : PySem.W.Frag) (mg : Str → Option Value) (ins outs : List Ty) (ret : Ty) (sem : TD) : Sp := fun vs H Q E => vs.length = ins.length ∧ ∃ F S ds q e, Wd K F H S ins (vs.map some) ds [] ∧ sem ds q e ∧
  (∀ d ρ', q d (sel outs ρ') → ∀ F' H' v bs, Gr S F H F' H' → Rp K F' H' ret v d bs → Wd K F' H' S outs (vs.map some) ρ' bs → Q v H') ∧
  (∀ x ρ', e x (sel outs ρ') → ∀ F' H' cls dx, Gr S F H F' H' → XRel mg H' x cls dx → Wd K F' H' S outs (vs.map some) ρ' [] → E cls dx H')
section
variable {K : PySem.W.Frag} {F H : Hp} {S : AS} {Γ : List Ty} {σ : St} {ρ : List D} {bs : List Addr}
theorem RpO.of {t : Ty} {v : V} {d : D} {as : List Addr} (h : Rp K F H t v d as) : RpO K F H t (some v) d as := by
  cases t <;> first
    | (simp only [Rp] at h; exact h)
    | exact ⟨v, rfl, h⟩
theorem RpS.ofT : ∀ {ins : List Ty} {vs : List V} {ds : List D} {as : List Addr}, RpT K F H ins vs ds as → RpS K F H ins (vs.map some) ds as
  | [], _, _, _, h => by
    simp only [RpT] at h
    obtain ⟨rfl, rfl, rfl⟩ := h
    exact .nil
  | t :: ts, _, _, _, h => by
    simp only [RpT] at h
    obtain ⟨v, r, d, e, bs, cs, rfl, rfl, h1, h2, rfl⟩ := h
    exact .cons (RpO.of h1) (RpS.ofT h2)
theorem RpS.bots : ∀ n : Nat, RpS K F H (List.replicate n .bot) (List.replicate n none) (List.replicate n .none) []
  | 0 => .nil
  | n + 1 => .cons (as := []) rfl (RpS.bots n)
theorem RpS.app {Γ1 : List Ty} {σ1 : St} {ρ1 : List D} {as : List Addr} {Γ2 : List Ty} {σ2 : St} {ρ2 : List D} (h : RpS K F H Γ1 σ1 ρ1 as) (h2 : RpS K F H Γ2 σ2 ρ2 []) : RpS K F H (Γ1 ++ Γ2) (σ1 ++ σ2) (ρ1 ++ ρ2) as := by
  induction h with
  | nil => exact h2
  | cons a _ ih => exact .cons a ih
theorem Wd.start (n : Nat) (w : Wd K F H S Γ σ ρ bs) : Wd K F H S (Γ ++ List.replicate n .bot) (σ ++ List.replicate n none) (ρ ++ List.replicate n .none) bs :=
  let ⟨as, r, z⟩ := w.ex
  ⟨w.sub, w.out, as, r.app (RpS.bots n), z⟩
theorem RpS.cut : ∀ {Γ : List Ty} {n : Nat} {σ : St} {ρ : List D} {as : List Addr}, RpS K F H (Γ ++ List.replicate n .bot) σ ρ as → ∃ σ1 σ2 ρ1 ρ2, σ = σ1 ++ σ2 ∧ ρ = ρ1 ++ ρ2 ∧ RpS K F H Γ σ1 ρ1 as
  | [], 0, _, _, _, h => by
    cases h
    exact ⟨[], [], [], [], rfl, rfl, .nil⟩
  | [], n + 1, _, _, _, h => by
    rw [List.nil_append, List.replicate_succ] at h
    cases h with
    | @cons t o d as Γ σ ρ bs h1 h2 =>
      obtain ⟨σ1, σ2, ρ1, ρ2, rfl, rfl, r⟩ := RpS.cut (Γ := []) h2
      cases r
      have : as = [] := h1
      subst this
      exact ⟨[], _, [], _, rfl, rfl, .nil⟩
  | t :: Γ, n, _, _, _, h => by
    rw [List.cons_append] at h
    cases h with
    | @cons t o d as Γ' σ ρ bs h1 h2 =>
      obtain ⟨σ1, σ2, ρ1, ρ2, rfl, rfl, r⟩ := RpS.cut h2
      exact ⟨o :: σ1, σ2, d :: ρ1, ρ2, rfl, rfl, .cons h1 r⟩
theorem sel_app : ∀ (ts : List Ty) {ρ1 ρ2 : List D}, ts.length = ρ1.length → sel ts (ρ1 ++ ρ2) = sel ts ρ1
  | [], ρ1, ρ2, h => by
    have : ρ1 = [] := List.eq_nil_of_length_eq_zero h.symm
    subst this
    cases ρ2 <;> rfl
  | t :: ts, [], _, h => by simp at h
  | t :: ts, d :: ρ1, ρ2, h => by
    simp only [List.cons_append, sel]
    rw [sel_app ts (by simpa using h)]
/-- which slots keep what they hold -/
def iosOk (outs : List Ty) (ios : List Nat) : Bool := (List.range outs.length).all fun i => ios.contains i || (match outs[i]? with
  | some .bot => true
  | _ => false)
theorem Wd.stop {outs : List Ty} {n : Nat} {σ : St} {ρ : List D} {us : St} {ios : List Nat} (w : Wd K F H S (outs ++ List.replicate n .bot) σ ρ bs) (io : Io ios (us ++ List.replicate n none) σ) (hi : iosOk outs ios = true) (hl : us.length = outs.length) :
    ∃ ρ1, sel outs ρ1 = sel outs ρ ∧ Wd K F H S outs us ρ1 bs := by
  obtain ⟨as, r, z⟩ := w.ex
  obtain ⟨σ1, σ2, ρ1, ρ2, rfl, rfl, r1⟩ := r.cut
  refine ⟨ρ1, (sel_app outs r1.len.2).symm, Wd.cong (σ := σ1) ⟨w.sub, w.out, as, r1, z⟩ (by rw [hl, r1.len.1]) fun i hi' => ?_⟩
  by_cases hlt : i < outs.length
  · have hm : i ∈ ios := by
      have := List.all_eq_true.mp hi i (List.mem_range.mpr hlt)
      rw [Bool.or_eq_true] at this
      rcases this with z | z
      · simpa using z
      · split at z
        · rename_i e; exact absurd e hi'
        · cases z
    have := io i hm
    rw [List.getElem?_append_left (by rw [← r1.len.1]; exact hlt), List.getElem?_append_left (by rw [hl]; exact hlt)] at this
    exact this
  · rw [List.getElem?_eq_none (by rw [← r1.len.1]; omega), List.getElem?_eq_none (by omega)]
theorem Wd.takes {bs0 : List Addr} : ∀ {τs : List Ty} {Γ : List Ty} {vs : List V} {ds : List D} {bs1 : List Addr}, Wd K F H S Γ σ ρ (bs1 ++ bs0) → RpVs K F H σ τs vs ds bs1 → okT Γ τs = true → ∃ cs, Wd K F H S (takeT Γ τs) σ ρ (cs ++ bs0) ∧ RpT K F H (insT Γ τs) vs (sees τs ρ ds) cs
  | [], Γ, vs, ds, bs1, w, h, _ => by
    obtain ⟨rfl, rfl, rfl⟩ := h
    exact ⟨[], w, by simp [insT, sees, RpT]⟩
  | τ :: τs, Γ, _, _, _, w, h, ok => by
    obtain ⟨v, r, d, e, bs, cs, rfl, rfl, h1, h2, rfl⟩ := h
    have plain : ∀ (t : Ty), insT Γ (τ :: τs) = t :: insT Γ τs → takeT Γ (τ :: τs) = takeT Γ τs → see τ ρ d = d → okT Γ τs = true → Rp K F H t v d bs → ∃ cs, Wd K F H S (takeT Γ (τ :: τs)) σ ρ (cs ++ bs0) ∧ RpT K F H (insT Γ (τ :: τs)) (v :: r) (sees (τ :: τs) ρ (d :: e)) cs := fun t e1 e2 e3 ok' hr => by
      have w' : Wd K F H S Γ σ ρ (cs ++ (bs ++ bs0)) := w.perm (by rw [← List.append_assoc]; exact List.Perm.append_right _ List.perm_append_comm)
      obtain ⟨cs', w2, h3⟩ := Wd.takes w' h2 ok'
      rw [e1, e2]
      refine ⟨bs ++ cs', w2.perm (by rw [← List.append_assoc]; exact List.Perm.append_right _ List.perm_append_comm), ?_⟩
      simp only [sees, e3, RpT]
      exact ⟨v, r, d, _, bs, cs', rfl, rfl, hr, h3, rfl⟩
    cases τ with
    | pk i =>
      obtain ⟨h1, rfl⟩ := h1
      simp only [okT, Bool.and_eq_true] at ok
      obtain ⟨ok1, ok2⟩ := ok
      split at ok1
      · rename_i t ht
        have hb : t ≠ .bot := fun e => by subst e; simp [isBot] at ok1
        obtain ⟨v', cs1, e1, hr, w1⟩ := Wd.take w ht hb
        rw [h1] at e1
        cases e1
        rw [List.nil_append] at w1
        have w' : Wd K F H S (Γ.set i .bot) σ ρ (cs ++ (cs1 ++ bs0)) := w1.perm (by rw [← List.append_assoc, ← List.append_assoc]; exact List.Perm.append_right _ List.perm_append_comm)
        obtain ⟨cs', w2, h3⟩ := Wd.takes w' h2 ok2
        refine ⟨cs1 ++ cs', w2.perm (by rw [← List.append_assoc]; exact List.Perm.append_right _ List.perm_append_comm), ?_⟩
        simp only [insT, sees, RpT, ht, Option.getD_some]
        exact ⟨v, r, _, _, cs1, cs', rfl, rfl, hr, h3, rfl⟩
      · cases ok1
    | mv i t => simp [okT] at ok
    | bot => exact plain .bot rfl rfl rfl ok h1
    | fz => exact plain .fz rfl rfl rfl ok h1
    | ow => exact plain .ow rfl rfl rfl ok h1
    | ol t => exact plain (.ol t) rfl rfl rfl ok h1
    | tp ts => exact plain (.tp ts) rfl rfl rfl ok h1
    | xh => exact plain .xh rfl rfl rfl ok h1
/-- where each looked-at slot stands -/
def At (σ : St) : List Ty → List V → Prop
  | .pk i :: τs, v :: vs => σ[i]? = some (some v) ∧ At σ τs vs
  | _ :: τs, _ :: vs => At σ τs vs
  | _, _ => True
theorem RpVs.at : ∀ {τs : List Ty} {vs : List V} {ds : List D} {bs : List Addr}, RpVs K F H σ τs vs ds bs → At σ τs vs
  | [], vs, _, _, h => by cases vs <;> exact True.intro
  | τ :: τs, _, _, _, h => by
    obtain ⟨v, r, d, e, bs, cs, rfl, rfl, h1, h2, rfl⟩ := h
    have := RpVs.at h2
    cases τ <;> first
      | exact ⟨h1.1, this⟩
      | exact this
theorem takeT_len : ∀ (τs Γ : List Ty), (takeT Γ τs).length = Γ.length
  | [], _ => rfl
  | .pk i :: τs, Γ => by simp only [takeT]; rw [takeT_len τs, List.length_set]
  | .bot :: τs, Γ => takeT_len τs Γ
  | .fz :: τs, Γ => takeT_len τs Γ
  | .ow :: τs, Γ => takeT_len τs Γ
  | .mv _ _ :: τs, Γ => takeT_len τs Γ
  | .ol _ :: τs, Γ => takeT_len τs Γ
  | .tp _ :: τs, Γ => takeT_len τs Γ
  | .xh :: τs, Γ => takeT_len τs Γ
theorem Wd.puts {bs0 : List Addr} : ∀ {τs outs : List Ty} {Γ : List Ty} {ρ : List D} {vs : List V} {ds : List D} {as : List Addr}, At σ τs vs → RpS K F H outs (vs.map some) ds as → Wd K F H S Γ σ ρ (as ++ bs0) →
    Wd K F H S (putT Γ τs outs) σ (putD ρ τs outs (sel outs ds)) bs0
  | [], outs, Γ, ρ, vs, ds, as, _, _, w => by
    have : putT Γ [] outs = Γ := by cases outs <;> rfl
    rw [this]
    have : putD ρ [] outs (sel outs ds) = ρ := by cases outs <;> rfl
    rw [this]
    exact w.drop
  | τ :: τs, [], Γ, ρ, vs, ds, as, _, _, w => by exact w.drop
  | τ :: τs, o :: outs, Γ, ρ, vs, ds, as, ha, h, w => by
    cases vs with
    | nil => cases h
    | cons v vs =>
      rw [List.map_cons] at h
      cases h with
      | @cons _ _ d as _ _ ρ' bs h1 h2 =>
        have ha' : At σ τs vs := by
          cases τ <;> first
            | exact ha.2
            | exact ha
        simp only [putT, putD, sel]
        cases hb : isBot o with
        | true =>
          simp only [if_true]
          have : as = [] := by cases o <;> first | exact h1 | cases hb
          subst this
          exact Wd.puts ha' h2 w
        | false =>
          simp only [Bool.false_eq_true, if_false]
          have wdrop : Wd K F H S Γ σ ρ (bs ++ bs0) := by
            rw [List.append_assoc] at w
            exact w.drop
          cases τ with
          | pk i =>
            obtain ⟨e1, _⟩ := ha
            have hr : Rp K F H o v d as := by
              cases o <;> first
                | (obtain ⟨v', e, h3⟩ := h1; cases e; exact h3)
                | cases hb
            have hlt : i < Γ.length := by
              have : i < σ.length := by
                by_cases z : i < σ.length
                · exact z
                · rw [List.getElem?_eq_none (by omega)] at e1; cases e1
              rw [w.len.1]; exact this
            have w2 := Wd.put (cs := as) (bs := bs ++ bs0) (by rw [← List.append_assoc]; exact w) (List.getElem?_eq_getElem hlt) hr
            rw [Wd.setσ e1] at w2
            exact Wd.puts ha' h2 w2
          | bot => exact Wd.puts ha' h2 wdrop
          | fz => exact Wd.puts ha' h2 wdrop
          | ow => exact Wd.puts ha' h2 wdrop
          | mv _ _ => exact Wd.puts ha' h2 wdrop
          | ol _ => exact Wd.puts ha' h2 wdrop
          | tp _ => exact Wd.puts ha' h2 wdrop
          | xh => exact Wd.puts ha' h2 wdrop
end

/-- a def that can be called -/
structure Fn (P : Program) (w : World) (K : PySem.W.Frag) (mg : Str → Option Value) (base : Heap) (k : Nat) (x : Str) (ins outs : List Ty) (ret : Ty) (sem : TD) : Prop where
  ex : ∃ (f : Addr) (fd : FuncData) (ps : List Str), mg x = some (.ref f) ∧ PySem.W.keepIn K (.ref f) = true ∧ Binds K fd ps [] ∧ FnOk P w K mg base (L2N.CX P w) k f fd ps (spD K mg ins outs ret sem)
theorem Fn.mono {P : Program} {w : World} {K : PySem.W.Frag} {mg : Str → Option Value} {base : Heap} {j k : Nat} {x : Str} {ins outs : List Ty} {ret : Ty} {sem : TD} (h : Fn P w K mg base j x ins outs ret sem) (hk : j ≤ k) : Fn P w K mg base k x ins outs ret sem :=
  let ⟨f, fd, ps, a, b, c, d⟩ := h.ex
  ⟨f, fd, ps, a, b, c, d.mono hk⟩
/-- a weaker meaning -/
theorem Fn.imp {P : Program} {w : World} {K : PySem.W.Frag} {mg : Str → Option Value} {base : Heap} {k : Nat} {x : Str} {ins outs : List Ty} {ret : Ty} {sem sem' : TD} (h : Fn P w K mg base k x ins outs ret sem) (hs : ∀ ds q e, sem' ds q e → sem ds q e) : Fn P w K mg base k x ins outs ret sem' :=
  let ⟨f, fd, ps, a, b, c, d⟩ := h.ex
  ⟨f, fd, ps, a, b, c, d.imp fun vs H Q E ⟨l, F, S, ds, q, e, w, s, z⟩ => ⟨l, F, S, ds, q, e, w, hs _ _ _ s, z⟩⟩
def tCallD (τs outs : List Ty) (sem : TD) (tr : TL) : TD := fun ρ Q E => tr ρ (fun ds ρ' => sem (sees τs ρ' ds) (fun d os => Q d (putD ρ' τs outs os)) (fun x os => E x (putD ρ' τs outs os))) E
def plainTy : Ty → Bool
  | .pk _ => false
  | .mv _ _ => false
  | _ => true
section
variable {X : Cx} {W : WX} {Γx Γ Γ1 Γ' : List Ty} {e : Expr} {es : List Expr} {τs ins outs : List Ty} {ret : Ty} {sem : TD} {tr : TL} {k : Nat} {x : Str} {p pos : Pos}
theorem Rp.val {K : PySem.W.Frag} {F H : Hp} {σ : St} {τ : Ty} {v : V} {d : D} {bs : List Addr} (h : Rp K F H τ v d bs) (hp : plainTy τ = true) : RpV K F H σ τ v d bs := by
  cases τ <;> first
    | exact h
    | cases hp
theorem call_pure (hi : insT Γ1 τs = ins) (ho : okT Γ1 τs = true) (hΓ : Γ' = putT (takeT Γ1 τs) τs outs) (hx : tyLe Γ' Γx = true) (hp : plainTy ret = true) {σ : St} {H : Hp} {Q : VK} (h : liftE X W Γx Γ Γ' ret (tCallD τs outs sem tr) σ H Q) :
    liftA X W Γx Γ Γ1 τs tr σ H fun vs H1 => spD X.K X.mg ins outs ret sem vs H1 Q (WE W σ) := by
  obtain ⟨F, S, ρ, Qd, Ed, w, q, pp, px⟩ := h
  refine ⟨F, S, ρ, _, Ed, w, q, fun ds ρ1 hq F1 H1 vs bs g1 r1 w1 => ?_, px⟩
  have w1' : Wd X.K F1 H1 S Γ1 σ ρ1 (bs ++ []) := by rw [List.append_nil]; exact w1
  obtain ⟨cs, w2, r2⟩ := w1'.takes r1 ho
  rw [List.append_nil] at w2
  have hat := r1.at
  rw [hi] at r2
  obtain ⟨as, rS, nd, fr⟩ := w2.ex
  have rP := RpS.ofT r2
  have hlen : vs.length = ins.length := by have := rP.len.1; simpa using this.symm
  have wc : Wd X.K F1 H1 (fun a => S a ∨ a ∈ as) ins (vs.map some) (sees τs ρ1 ds) [] := by
    refine ⟨w2.sub, fun a ha => ?_, cs, rP, by simpa using (List.nodup_append.mp nd).1, fun a ha => ?_⟩
    · rcases ha with z | z
      · exact w2.out a z
      · obtain ⟨x1, _, x3⟩ := fr a (List.mem_append_right _ z)
        exact ⟨x1, x3⟩
    · have ha : a ∈ cs := by simpa using ha
      obtain ⟨x1, x2, x3⟩ := fr a (List.mem_append_left _ ha)
      exact ⟨x1, fun z => z.elim x2 fun z => (List.nodup_append.mp nd).2.2 a ha a z rfl, x3⟩
  -- behind the call
  have back : ∀ {F2 H2 : Hp} {ρo : List D} {bs2 : List Addr}, Gr (fun a => S a ∨ a ∈ as) F1 H1 F2 H2 → Wd X.K F2 H2 (fun a => S a ∨ a ∈ as) outs (vs.map some) ρo bs2 → Wd X.K F2 H2 S Γ' σ (putD ρ1 τs outs (sel outs ρo)) bs2 := fun {F2 H2 ρo bs2} g2 wo => by
    obtain ⟨as2, ro, nd2, fr2⟩ := wo.ex
    have wm : Wd X.K F2 H2 S (takeT Γ1 τs) σ ρ1 (as2 ++ bs2) := by
      refine ⟨wo.sub, fun a ha => wo.out a (.inl ha), as, rS.mono g2.fz fun a ha => g2.eq a (.inr ha), ?_, fun a ha => ?_⟩
      · refine List.nodup_append.mpr ⟨(List.perm_append_comm.nodup_iff).mp nd2, (List.nodup_append.mp nd).2.1, fun a ha b hb e => ?_⟩
        subst e
        have : a ∈ bs2 ++ as2 := by
          rcases List.mem_append.mp ha with z | z
          · exact List.mem_append_right _ z
          · exact List.mem_append_left _ z
        exact (fr2 a this).2.1 (.inr hb)
      · rcases List.mem_append.mp ha with z | z
        · have : a ∈ bs2 ++ as2 := by
            rcases List.mem_append.mp z with z | z
            · exact List.mem_append_right _ z
            · exact List.mem_append_left _ z
          obtain ⟨x1, x2, x3⟩ := fr2 a this
          exact ⟨x1, fun z => x2 (.inl z), x3⟩
        · obtain ⟨o1, o2⟩ := wo.out a (.inr z)
          exact ⟨o1, (fr a (List.mem_append_right _ z)).2.1, o2⟩
    rw [hΓ]
    exact Wd.puts hat ro wm
  refine ⟨hlen, F1, _, _, _, _, wc, hq, fun d ρo hd F2 H2 v bs2 g2 r2' wo => ?_, fun xx ρo hd F2 H2 cls dx g2 hrel wo => ?_⟩
  · exact pp d _ hd F2 H2 v bs2 (g1.trans g2 fun _ => .inl) (r2'.val hp) (back g2 wo)
  · have wb := back g2 wo
    obtain ⟨F3, s3, w3⟩ := wb.weak hx
    refine px xx _ hd F3 H2 cls dx ⟨(g1.fz.trans g2.fz).trans s3, fun a ha => (g2.eq a (.inl ha)).trans (g1.eq a ha)⟩ hrel w3
theorem e_call (fn : Fn X.prog X.w X.K X.mg X.base k x ins outs ret sem) (tk : L2N.Takes X W) (hr : Room k X.A) (hg : Gl X x) (ha : AOk X W Γx Γ (e :: es) Γ1 τs tr) (hi : insT Γ1 τs = ins := by rfl) (ho : okT Γ1 τs = true := by rfl) (hΓ : Γ' = putT (takeT Γ1 τs) τs outs := by rfl) (hx : tyLe Γ' Γx = true := by rfl)
    (hp : plainTy ret = true := by rfl) (hdb : (x == ("__debug__" : Str)) = false := by decide) (he : starEach (e :: es) X.env = (false, eval e X.env) :: starEach es X.env := by rfl) (hpl : (backTo pos (starEach es X.env)).any (·.1) = false := by rfl) :
    EOk X W Γx Γ (.Call (.Name x p) (e :: es) [] pos) Γ' ret (tCallD τs outs sem tr) := by
  obtain ⟨f, fd, ps, hm, hk, hb, F0⟩ := fn.ex
  refine ⟨PE.imp (pe_callSD F0 hr hg hm hk hb .nil (fun σ => L2N.passAt tk σ) ha.pa hdb he hpl) fun σ H Q h => ?_⟩
  show liftA X W Γx Γ Γ1 τs tr σ H fun vs H1 => spD X.K X.mg ins outs ret sem (vs ++ []) H1 Q (WE W σ)
  simp only [List.append_nil]
  exact call_pure hi ho hΓ hx hp h
/-- a def's meaning, from its body's -/
def semOf (n : Nat) (outs : List Ty) (b : Bool) (sm : SM) : TD := fun ds q e => sm (ds ++ List.replicate n .none) { nx := fun ρ' => b = true ∧ q .none (sel outs ρ'), rt := fun d ρ' => q d (sel outs ρ'), bk := fun _ => False, ct := fun _ => False, ex := fun x ρ' => e x (sel outs ρ') }
abbrev tcOf (n : Nat) (outs : List Ty) (ret : Ty) : TC := { nx := outs ++ List.replicate n .bot, rt := outs ++ List.replicate n .bot, rty := ret, bk := [], ct := [], ex := outs ++ List.replicate n .bot }
def nulls : Ty → Bool
  | .fz => true
  | .ow => true
  | _ => false
theorem fnok {P : Program} {w : World} {K : PySem.W.Frag} {mg : Str → Option Value} {base : Heap} {qual : Str} {params : Arguments} {body : List Stmt} {scope : Scope} {kws : List (Str × V)} {f : Addr} {fd : FuncData} {N ps : List Str} {ios : List Nat} {sm : SM} (n : Nat)
    (FD : FunD K x qual params body scope [] kws f fd) (S : FnScope N ps scope)
    (hb : ∀ (cdv : Value) (A : Around) (outer : List Env) (s : Shared) (H : Hp) (E : XK) (σ0 : St), Room k (A.deeper (envOfC qual scope s.heap.objs.size f cdv)) →
      L2N.Takes (cxOf (L2N.CX P w) P w K mg base N qual scope f cdv A outer s H E) (fun cls d _ H' => E cls d H') → PassesOwn (model P w) (A.deeper (envOfC qual scope s.heap.objs.size f cdv)) (envOfC qual scope s.heap.objs.size f cdv) (cxOf (L2N.CX P w) P w K mg base N qual scope f cdv A outer s H E).xe →
      BOk (cxOf (L2N.CX P w) P w K mg base N qual scope f cdv A outer s H E) (fun cls d _ H' => E cls d H') ios σ0 (ins ++ List.replicate n .bot) body (tcOf n outs ret) sm)
    (hN : N.length = ps.length + n) (hi : ins.length = ps.length) (hol : outs.length = ps.length) (hio : iosOk outs ios = true) : FnOk P w K mg base (L2N.CX P w) (k + 1) f fd ps (spD K mg ins outs ret (semOf n outs (nulls ret) sm)) := by
  refine FD.ok S (fun vs H Q E h => h.1.trans hi) fun cdv A outer s H vs Q E hr ⟨hl, F, S', ds, q, e, w0, hs, hq, he⟩ => ?_
  have tk : L2N.Takes (cxOf (L2N.CX P w) P w K mg base N qual scope f cdv A outer s H E) (fun cls d _ H' => E cls d H') := L2N.takes_of rfl rfl rfl rfl
  refine ⟨_, (hb cdv A outer s H E (vs.map some ++ List.replicate n none) hr tk (passes_of rfl)).ps, ?_⟩
  have est : L2.start N vs = vs.map some ++ List.replicate n none := by
    unfold L2.start
    have : N.length - vs.length = n := by omega
    rw [this]
  rw [est]
  have hlo : (vs.map some).length = outs.length := by rw [List.length_map]; omega
  refine ⟨F, S', ds ++ List.replicate n PyData.none, { nx := fun ρ' => nulls ret = true ∧ q .none (sel outs ρ'), rt := fun d ρ' => q d (sel outs ρ'), bk := fun _ => False, ct := fun _ => False, ex := fun x ρ' => e x (sel outs ρ') }, w0.start n, fun _ _ => rfl, hs, ⟨fun ρ' h F' H' σ' g io w' => ?_, fun d ρ' h F' H' σ' v bs g io r w' => ?_, fun _ h => h.elim, fun _ h => h.elim, fun xx ρ' h F' H' σ' cls dx g io hrel w' => ?_⟩⟩
  · obtain ⟨ρ1, e1, w1⟩ := Wd.stop (us := vs.map some) w' io hio hlo
    have h : nulls ret = true ∧ q PyData.none (sel outs ρ') := h
    rw [← e1] at h
    refine hq .none ρ1 h.2 F' H' .non [] g ?_ w1
    have h0 := h.1
    cases ret <;> first
      | (simp [nulls] at h0; done)
      | (simp [Rp, Fz]; done)
  · obtain ⟨ρ1, e1, w1⟩ := Wd.stop (us := vs.map some) w' io hio hlo
    have h : q d (sel outs ρ') := h
    rw [← e1] at h
    exact hq d ρ1 h F' H' v bs g r w1
  · obtain ⟨ρ1, e1, w1⟩ := Wd.stop (us := vs.map some) w' io hio hlo
    have h : e xx (sel outs ρ') := h
    rw [← e1] at h
    exact he xx ρ1 h F' H' cls dx g hrel w1
theorem fn_ok {P : Program} {w : World} {K : PySem.W.Frag} {mg : Str → Option Value} {base : Heap} {qual : Str} {params : Arguments} {body : List Stmt} {scope : Scope} {kws : List (Str × V)} {f : Addr} {fd : FuncData} {N ps : List Str} {ios : List Nat} {sm : SM} (n : Nat)
    (FD : FunD K x qual params body scope [] kws f fd) (hm : mg x = some (.ref f)) (S : FnScope N ps scope)
    (hbind : ∀ (kV doc pm : Value) (an : Option Addr) (cdv ct : Value) (us : List Value), us.length = ps.length → bindArgs (PySem.W.fnOf x qual params body scope .none kV doc pm an cdv ct) ⟨us, []⟩ = pure (ps.zip us))
    (hb : ∀ (cdv : Value) (A : Around) (outer : List Env) (s : Shared) (H : Hp) (E : XK) (σ0 : St), Room k (A.deeper (envOfC qual scope s.heap.objs.size f cdv)) →
      L2N.Takes (cxOf (L2N.CX P w) P w K mg base N qual scope f cdv A outer s H E) (fun cls d _ H' => E cls d H') → PassesOwn (model P w) (A.deeper (envOfC qual scope s.heap.objs.size f cdv)) (envOfC qual scope s.heap.objs.size f cdv) (cxOf (L2N.CX P w) P w K mg base N qual scope f cdv A outer s H E).xe →
      BOk (cxOf (L2N.CX P w) P w K mg base N qual scope f cdv A outer s H E) (fun cls d _ H' => E cls d H') ios σ0 (ins ++ List.replicate n .bot) body (tcOf n outs ret) sm)
    (hN : N.length = ps.length + n) (hi : ins.length = ps.length) (hol : outs.length = ps.length) (hio : iosOk outs ios = true) : Fn P w K mg base (k + 1) x ins outs ret (semOf n outs (nulls ret) sm) :=
  ⟨f, fd, ps, hm, FD.kp, FD.bindsN hbind, fnok n FD S hb hN hi hol hio⟩
theorem fn_bot {P : Program} {w : World} {K : PySem.W.Frag} {mg : Str → Option Value} {base : Heap} {qual : Str} {params : Arguments} {body : List Stmt} {scope : Scope} {kws : List (Str × V)} {f : Addr} {fd : FuncData} {ps : List Str} {sem : TD}
    (FD : FunD K x qual params body scope [] kws f fd) (hm : mg x = some (.ref f))
    (hbind : ∀ (kV doc pm : Value) (an : Option Addr) (cdv ct : Value) (us : List Value), us.length = ps.length → bindArgs (PySem.W.fnOf x qual params body scope .none kV doc pm an cdv ct) ⟨us, []⟩ = pure (ps.zip us))
    (hs : ∀ ds q e, ¬ sem ds q e) : Fn P w K mg base k x ins outs ret sem :=
  ⟨f, fd, ps, hm, FD.kp, FD.bindsN hbind, fun vs H Q E ⟨_, _, _, _, _, _, _, h, _⟩ => absurd h (hs _ _ _), fun A outer s H args us vs Q E _ _ _ _ ⟨_, _, _, _, _, _, _, h, _⟩ => absurd h (hs _ _ _)⟩
end
end T2

namespace T2
open L2 PySem PySem.Spec PyProof.Rows
section
variable {X : Cx} {W : WX} {Γx Γ Γ1 Γ2 Γ' : List Ty} {e : Expr} {τ : Ty} {t : TD} {tb : TB} {pos : Pos} {x : Str}
theorem e_wk (h : EOk X W Γx Γ e Γ1 τ t) (hl : tyLe Γ1 Γ' = true := by rfl) : EOk X W Γx Γ e Γ' τ t := by
  refine ⟨PE.imp h.pe fun σ H Q ⟨F, S, ρ, Qd, Ed, w, q, p, px⟩ => ⟨F, S, ρ, Qd, Ed, w, q, fun d ρ' hq F' H' v bs g r w' => ?_, px⟩⟩
  obtain ⟨F2, s2, w2⟩ := w'.weakB hl
  exact p d ρ' hq F2 H' v bs ⟨g.fz.trans s2, g.eq⟩ (RpV.mono s2 (fun _ _ => rfl) r) w2
theorem t_wk (h : TOk X W Γx Γ e Γ1 tb) (hl : tyLe Γ1 Γ' = true := by rfl) : TOk X W Γx Γ e Γ' tb := by
  refine ⟨PT.imp h.pt fun σ H Q ⟨F, S, ρ, Qd, Ed, w, q, p, px⟩ => ⟨F, S, ρ, Qd, Ed, w, q, fun d ρ' hq F' H' g w' => ?_, px⟩⟩
  obtain ⟨F2, s2, w2⟩ := w'.weak hl
  exact p d ρ' hq F2 H' ⟨g.fz.trans s2, g.eq⟩ w2
theorem e_pre (h : EOk X W Γx Γ1 e Γ' τ t) (hl : tyLe Γ Γ1 = true := by rfl) : EOk X W Γx Γ e Γ' τ t := by
  refine ⟨PE.imp h.pe fun σ H Q ⟨F, S, ρ, Qd, Ed, w, q, p, px⟩ => ?_⟩
  obtain ⟨F2, s2, w2⟩ := w.weak hl
  exact ⟨F2, S, ρ, Qd, Ed, w2, q, fun d ρ' hq F' H' v bs g r w' => p d ρ' hq F' H' v bs ⟨s2.trans g.fz, g.eq⟩ r w', fun x ρ' hx F' H' cls dx g hr w' => px x ρ' hx F' H' cls dx ⟨s2.trans g.fz, g.eq⟩ hr w'⟩
theorem t_pre (h : TOk X W Γx Γ1 e Γ' tb) (hl : tyLe Γ Γ1 = true := by rfl) : TOk X W Γx Γ e Γ' tb := by
  refine ⟨PT.imp h.pt fun σ H Q ⟨F, S, ρ, Qd, Ed, w, q, p, px⟩ => ?_⟩
  obtain ⟨F2, s2, w2⟩ := w.weak hl
  exact ⟨F2, S, ρ, Qd, Ed, w2, q, fun d ρ' hq F' H' g w' => p d ρ' hq F' H' ⟨s2.trans g.fz, g.eq⟩ w', fun x ρ' hx F' H' cls dx g hr w' => px x ρ' hx F' H' cls dx ⟨s2.trans g.fz, g.eq⟩ hr w'⟩
/-- a slot's list, frozen from here on -/
theorem e_varF (i : Nat) (h : EOk X W Γx (Γ.set i .fz) (.Name x pos) (Γ.set i .fz) .fz t) (hl : tyLe Γ (Γ.set i .fz) = true := by rfl) : EOk X W Γx Γ (.Name x pos) (Γ.set i .fz) .fz t := e_pre h hl
def tNegD (t : TD) : TD := fun ρ Q E => t ρ (fun d ρ' => match d with
  | .int i => Q (.int (-i)) ρ'
  | _ => False) E
theorem e_neg {a : Expr} (h : EOk X W Γx Γ a Γ' .fz t) : EOk X W Γx Γ (.UnaryOp .USub a pos) Γ' .fz (tNegD t) := by
  refine ⟨PE.imp (pe_un un_neg h.pe) fun σ H Q ⟨F, S, ρ, Qd, Ed, w, q, p, px⟩ => ?_⟩
  refine ⟨F, S, ρ, _, Ed, w, q, fun d ρ' hd F' H' v bs g r w' => ?_, px⟩
  obtain ⟨r, rfl⟩ := r
  cases d with
  | int i => exact ⟨i, by simpa [Fz] using r, p _ ρ' hd F' H' _ [] g ⟨rfl, rfl⟩ w'⟩
  | _ => exact hd.elim
/-- a module's constant tuple -/
theorem e_gtup {a : Addr} {ds : List D} (hg : Gl X x) (hm : X.mg x = some (.ref a)) (hf : ∀ F, Fz X.K F (.tuple ds) (.ref a)) (hd : (x == ("__debug__" : Str)) = false := by decide) : EOk X W Γx Γ (.Name x pos) Γ .fz (tK (.tuple ds)) := by
  refine ⟨PE.imp (pe_glob hg hm (v := .ref a) rfl hd) fun σ H Q ⟨F, S, ρ, Qd, Ed, w, q, p, _⟩ => ?_⟩
  exact p _ ρ q F H (.ref a) [] .refl ⟨hf F, rfl⟩ w
end

section
variable {X : Cx} {W : WX} {ios : List Nat} {σ0 : St} {Γ Γ1 Γ2 Γ' : List Ty} {C : TC} {e a b c tg : Expr} {τ τa τb τc : Ty} {t : TD} {tr : TL} {g : GM} {pos : Pos} {st : Stmt} {m : SM}
def sLast (m : SM) : SM := fun ρ P => m ρ { P with nx := fun _ => False }
theorem b_end (h1 : SOk X W ios σ0 Γ st { C with nx := [] } m) : BOk X W ios σ0 Γ [st] C (sLast m) := b_last h1
def sAsg (t : TD) (g : GM) : SM := fun ρ P => t ρ (fun d ρ' => g d ρ' P.nx) P.ex
theorem s_asg (he : EOk X W C.ex Γ e Γ1 .fz t) (hg : GOk X ios σ0 Γ1 tg C.nx g) (hs : swapsWithSole [tg] e pos.line X.env = pure false := by rfl) (hw : swappedStores [tg] e X.env = pure none := by rfl)
    (h1 : (assignEach [tg] X.env).map (·.2) = [assign tg X.env] := by rfl) : SOk X W ios σ0 Γ (.Assign [tg] e pos) C (sAsg t g) := by
  refine ⟨PS.imp (ps_asg he.pe hg.pg hs hw h1) fun D σ H ⟨F, S, ρ, P, w, io, q, cn⟩ => ?_⟩
  refine ⟨F, S, ρ, _, P.ex, w, q, fun d ρ1 q1 F1 H1 v bs g1 r1 w1 => ?_, ex_of cn io⟩
  exact ⟨F1, S, ρ1, d, _, w1.drop0, io, r1.1, q1, fun ρ2 σ2 hq io2 w2 => cn.nx ρ2 hq F1 H1 σ2 g1 io2 w2⟩
/-- a, b = x, y -/
def sPar (i j : Nat) (tr : TL) : SM := fun ρ P => tr ρ (fun ds ρ' => match ds with
  | [d, e] => P.nx (wr (wr ρ' i d) j e)
  | _ => False) P.ex
theorem s_par (i j : Nat) {x y : Str} {px py pt pt2 : Pos} {kt k2} (hc : X.calm = true) (hN : X.N.Nodup) (ha : AOk X W C.ex Γ [a, b] Γ1 [τa, τb] tr) (hnx : C.nx = (Γ1.set i τa).set j τb := by rfl) (hva : isVal τa = true := by rfl) (hvb : isVal τb = true := by rfl) (hi : X.N[i]? = some x := by rfl) (hj : X.N[j]? = some y := by rfl) (hij : i ≠ j := by decide)
    (hx : X.env.scope.names.lookup x = some .local := by rfl) (hy : X.env.scope.names.lookup y = some .local := by rfl) (hli : i < Γ1.length := by decide) (hlj : j < Γ1.length := by decide) (hio : ios.contains i = false := by rfl) (hjo : ios.contains j = false := by rfl)
    (hw : swappedStores [.Tuple [.Name x px, .Name y py] kt pt] (.Tuple [a, b] k2 pt2) X.env = pure (some [x, y]) := by rfl)
    (hs : swapsWithSole [.Tuple [.Name x px, .Name y py] kt pt] (.Tuple [a, b] k2 pt2) pos.line X.env = pure false := by rfl) :
    SOk X W ios σ0 Γ (.Assign [.Tuple [.Name x px, .Name y py] kt pt] (.Tuple [a, b] k2 pt2) pos) C (sPar i j tr) := by
  refine ⟨PS.imp (ps_par hc hN hi hj hij hx hy ha.pa hw hs) fun D σ H ⟨F, S, ρ, P, w, io, q, cn⟩ => ?_⟩
  refine ⟨F, S, ρ, _, P.ex, w, q, fun ds ρ1 q1 F1 H1 vs bs g1 r1 w1 => ?_, ex_of cn io⟩
  obtain ⟨v, _, d, _, bs1, _, rfl, rfl, h1, ⟨u, _, d2, _, bs2, _, rfl, rfl, h2, ⟨rfl, rfl, rfl⟩, rfl⟩, rfl⟩ := r1
  refine ⟨v, u, rfl, cn.nx _ q1 F1 H1 _ g1 ((io.set hio).set hjo) ?_⟩
  rw [hnx]
  have w2 := Wd.put (cs := bs1) (bs := bs2 ++ []) w1 (List.getElem?_eq_getElem hli) (h1.val hva)
  exact Wd.put (cs := bs2) (bs := []) w2 (List.getElem?_eq_getElem (by rw [List.length_set]; exact hlj)) (h2.val hvb)
/-- a, b, c = x, y, z -/
def sPar3 (i j l : Nat) (tr : TL) : SM := fun ρ P => tr ρ (fun ds ρ' => match ds with
  | [d, e, f] => P.nx (wr (wr (wr ρ' i d) j e) l f)
  | _ => False) P.ex
theorem s_par3 (i j l : Nat) {x y z : Str} {px py pz pt pt2 : Pos} {kt k2} (hc : X.calm = true) (hN : X.N.Nodup) (ha : AOk X W C.ex Γ [a, b, c] Γ1 [τa, τb, τc] tr) (hnx : C.nx = ((Γ1.set i τa).set j τb).set l τc := by rfl) (hva : isVal τa = true := by rfl) (hvb : isVal τb = true := by rfl) (hvc : isVal τc = true := by rfl)
    (hi : X.N[i]? = some x := by rfl) (hj : X.N[j]? = some y := by rfl) (hl : X.N[l]? = some z := by rfl) (hij : i ≠ j := by decide) (hil : i ≠ l := by decide) (hjl : j ≠ l := by decide)
    (hx : X.env.scope.names.lookup x = some .local := by rfl) (hy : X.env.scope.names.lookup y = some .local := by rfl) (hz : X.env.scope.names.lookup z = some .local := by rfl) (hli : i < Γ1.length := by decide) (hlj : j < Γ1.length := by decide) (hll : l < Γ1.length := by decide) (hio : ios.contains i = false := by rfl) (hjo : ios.contains j = false := by rfl) (hlo : ios.contains l = false := by rfl)
    (hw : swappedStores [.Tuple [.Name x px, .Name y py, .Name z pz] kt pt] (.Tuple [a, b, c] k2 pt2) X.env = pure (some [x, y, z]) := by rfl)
    (hs : swapsWithSole [.Tuple [.Name x px, .Name y py, .Name z pz] kt pt] (.Tuple [a, b, c] k2 pt2) pos.line X.env = pure false := by rfl) :
    SOk X W ios σ0 Γ (.Assign [.Tuple [.Name x px, .Name y py, .Name z pz] kt pt] (.Tuple [a, b, c] k2 pt2) pos) C (sPar3 i j l tr) := by
  refine ⟨PS.imp (ps_par3 hc hN hi hj hl hij hil hjl hx hy hz ha.pa hw hs) fun D σ H ⟨F, S, ρ, P, w, io, q, cn⟩ => ?_⟩
  refine ⟨F, S, ρ, _, P.ex, w, q, fun ds ρ1 q1 F1 H1 vs bs g1 r1 w1 => ?_, ex_of cn io⟩
  obtain ⟨v, _, d, _, bs1, _, rfl, rfl, h1, ⟨u, _, d2, _, bs2, _, rfl, rfl, h2, ⟨u3, _, d3, _, bs3, _, rfl, rfl, h3, ⟨rfl, rfl, rfl⟩, rfl⟩, rfl⟩, rfl⟩ := r1
  refine ⟨v, u, u3, rfl, cn.nx _ q1 F1 H1 _ g1 (((io.set hio).set hjo).set hlo) ?_⟩
  rw [hnx]
  have w2 := Wd.put (cs := bs1) (bs := bs2 ++ (bs3 ++ [])) w1 (List.getElem?_eq_getElem hli) (h1.val hva)
  have w3 := Wd.put (cs := bs2) (bs := bs3 ++ []) w2 (List.getElem?_eq_getElem (by rw [List.length_set]; exact hlj)) (h2.val hvb)
  exact Wd.put (cs := bs3) (bs := []) w3 (List.getElem?_eq_getElem (by rw [List.length_set, List.length_set]; exact hll)) (h3.val hvc)
theorem od_iadd : OpD X (inplaceOp .Add) .fz (oI2 (fun _ _ => True) fun i j => .int (i + j)) := od_int0 iop_add
theorem od_isub : OpD X (inplaceOp .Sub) .fz (oI2 (fun _ _ => True) fun i j => .int (i - j)) := od_int0 iop_sub
theorem u64 {k : Nat} {A : Around} (h : Room k A) : A.units + 64 < cLine := by have := h.un; omega
theorem u1 {k : Nat} {A : Around} (h : Room k A) : A.units + 1 < cLine := by have := h.un; omega
theorem u65 {k : Nat} {A : Around} (h : Room k A) : A.units + 65 < cLine := by have := h.un; omega
end
end T2

namespace T2
open PySem PySem.Spec

/-! ### loops, plainly -/
theorem forD_inv {g : GM} {b : SM} {xs : List D} {ρ : List D} {P : Post} (I : List D → List D → Prop) (h0 : I [] ρ)
    (step : ∀ pre x post ρ k, xs = pre ++ x :: post → I pre ρ → (∀ ρ', I (pre ++ [x]) ρ' → k ρ') → g x ρ fun ρ1 => b ρ1 { P with nx := k, ct := k, bk := P.nx }) (hend : ∀ ρ, I xs ρ → P.nx ρ) : forD g b xs ρ P := by
  have key : ∀ post pre ρ, xs = pre ++ post → I pre ρ → forD g b post ρ P := by
    intro post
    induction post with
    | nil =>
      intro pre ρ e h
      rw [List.append_nil] at e
      subst e
      exact hend ρ h
    | cons x post ih =>
      intro pre ρ e h
      exact step pre x post ρ _ e h fun ρ' h' => ih (pre ++ [x]) ρ' (by rw [e, List.append_assoc]; rfl) h'
  exact key xs [] ρ rfl h0
theorem lcD_inv {g : GM} {c : TB} {te : TD} {Q : D → List D → Prop} {xs : List D} {ρ : List D} (I : List D → List D → List D → Prop) (h0 : I [] [] ρ)
    (step : ∀ pre x post acc ρ, xs = pre ++ x :: post → I pre acc ρ → ∀ k : List D → List D → Prop, (∀ acc' ρ', I (pre ++ [x]) acc' ρ' → k acc' ρ') →
      g x ρ fun ρ1 => c ρ1 (fun b ρ2 => if b = true then te ρ2 (fun d ρ3 => acc.length < sizeLine ∧ k (acc ++ [d]) ρ3) (fun _ _ => False) else k acc ρ2) (fun _ _ => False)) (hend : ∀ acc ρ, I xs acc ρ → Q (.list acc) ρ) : lcD g c te Q xs [] ρ := by
  have key : ∀ post pre acc ρ, xs = pre ++ post → I pre acc ρ → lcD g c te Q post acc ρ := by
    intro post
    induction post with
    | nil =>
      intro pre acc ρ e h
      rw [List.append_nil] at e
      subst e
      exact hend acc ρ h
    | cons x post ih =>
      intro pre acc ρ e h
      exact step pre x post acc ρ e h (fun acc ρ => lcD g c te Q post acc ρ) fun acc' ρ' h' => ih (pre ++ [x]) acc' ρ' (by rw [e, List.append_assoc]; rfl) h'
  exact key xs [] [] ρ rfl h0

/-! ### things that can be compared -/
def Ok (n : Nat) (d : D) : Prop := PyData.canLay0 d = true ∧ d.depth ≤ n
theorem Ok.mono {m n : Nat} {d : D} (h : Ok m d) (l : m ≤ n) : Ok n d := ⟨h.1, Nat.le_trans h.2 l⟩
theorem Ok.eq {n : Nat} {d : D} (h : Ok n d) (l : n ≤ 64 := by decide) : okEq d := by
  unfold okEq SeqAt.shaped
  rw [h.1, decide_eq_true (Nat.le_trans h.2 l)]
  rfl
theorem Ok.none : Ok 0 .none := ⟨rfl, Nat.le_refl _⟩
theorem Ok.bool (b : Bool) : Ok 0 (.bool b) := ⟨rfl, Nat.le_refl _⟩
theorem Ok.int (i : Int) : Ok 0 (.int i) := ⟨rfl, Nat.le_refl _⟩
theorem Ok.str {s : Str} (h : PyData.strOk s = true := by decide +kernel) : Ok 0 (.str s) := ⟨h, Nat.le_refl _⟩
theorem Ok.s {n : Nat} {s : Str} (h : PyData.strOk s = true := by decide +kernel) : Ok n (.str s) := ⟨h, Nat.zero_le _⟩
theorem Ok.i {n : Nat} {i : Int} : Ok n (.int i) := ⟨rfl, Nat.zero_le _⟩
theorem Ok.b {n : Nat} {i : Bool} : Ok n (.bool i) := ⟨rfl, Nat.zero_le _⟩
theorem Ok.n {n : Nat} : Ok n .none := ⟨rfl, Nat.zero_le _⟩
theorem Ok.all {n : Nat} : ∀ {ds : List D}, (∀ d ∈ ds, Ok n d) → PyData.canLayAll0 ds = true ∧ PyData.depthAll ds ≤ n
  | [], _ => ⟨rfl, Nat.zero_le _⟩
  | d :: ds, h => by
    obtain ⟨a, b⟩ := Ok.all fun x hx => h x (List.mem_cons_of_mem _ hx)
    obtain ⟨a', b'⟩ := h d List.mem_cons_self
    refine ⟨?_, ?_⟩
    · rw [PyData.canLayAll0, a, a']; rfl
    · rw [PyData.depthAll]; exact Nat.max_le.mpr ⟨b', b⟩
theorem Ok.list {n : Nat} {ds : List D} (h : ∀ d ∈ ds, Ok n d) : Ok (n + 1) (.list ds) := by
  obtain ⟨a, b⟩ := Ok.all h
  exact ⟨by rw [PyData.canLay0]; exact a, by rw [PyData.depth]; exact Nat.succ_le_succ b⟩
theorem Ok.tuple {n : Nat} {ds : List D} (h : ∀ d ∈ ds, Ok n d) : Ok (n + 1) (.tuple ds) := by
  obtain ⟨a, b⟩ := Ok.all h
  exact ⟨by rw [PyData.canLay0]; exact a, by rw [PyData.depth]; exact Nat.succ_le_succ b⟩
theorem Ok.refl {n : Nat} {d : D} (h : Ok n d) : PyData.eqv d d = true := SeqAt.eqv_refl d h.1
theorem Ok.mem {n : Nat} : ∀ {ds : List D}, PyData.canLayAll0 ds = true → PyData.depthAll ds ≤ n → ∀ d ∈ ds, Ok n d
  | [], _, _, d, h => by cases h
  | x :: xs, h1, h2, d, h => by
    rw [PyData.canLayAll0, Bool.and_eq_true] at h1
    rw [PyData.depthAll] at h2
    rcases List.mem_cons.mp h with rfl | h
    · exact ⟨h1.1, Nat.le_trans (Nat.le_max_left _ _) h2⟩
    · exact Ok.mem h1.2 (Nat.le_trans (Nat.le_max_right _ _) h2) d h
theorem Ok.ofList {n : Nat} {ds : List D} (h : Ok (n + 1) (.list ds)) : ∀ d ∈ ds, Ok n d := Ok.mem (by have := h.1; rwa [PyData.canLay0] at this) (by have := h.2; rw [PyData.depth] at this; exact Nat.le_of_succ_le_succ this)
theorem Ok.ofTuple {n : Nat} {ds : List D} (h : Ok (n + 1) (.tuple ds)) : ∀ d ∈ ds, Ok n d := Ok.mem (by have := h.1; rwa [PyData.canLay0] at this) (by have := h.2; rw [PyData.depth] at this; exact Nat.le_of_succ_le_succ this)
theorem Ok.mem' {n : Nat} {ds : List D} {d : D} (h : ∀ d ∈ ds, Ok n d) (hm : d ∈ ds) : Ok n d := h d hm
theorem strOk_of (s : String) : PyData.strOk (Str.ofString s) = true := by
  rw [Str.ofString_eq_toList]
  unfold PyData.strOk
  rw [List.all_toArray, List.all_eq_true]
  intro n hn
  obtain ⟨c, _, rfl⟩ := List.mem_map.mp hn
  refine decide_eq_true ?_
  have := c.valid
  rcases this with h | ⟨_, h⟩
  · exact Nat.lt_trans h (by decide)
  · exact h
theorem eqv_list_nil (ds : List D) : PyData.eqv (.list ds) (.list []) = ds.isEmpty := by cases ds <;> rfl

/-! ### places -/
theorem atI_of {α : Type} {xs : List α} {i : Int} (h : 0 ≤ i) : L2.atI xs i = xs[i.toNat]? := by
  unfold L2.atI L2.ixN
  rw [if_pos h]
  split
  · rfl
  · rw [List.getElem?_eq_none (by omega)]; rfl
theorem atI_lit {α : Type} (xs : List α) (n : Nat) : L2.atI xs (no_index (OfNat.ofNat n : Int)) = xs[n]? := atI_of (Int.natCast_nonneg n)
theorem atI_nat {α : Type} (xs : List α) (n : Nat) : L2.atI xs (n : Int) = xs[n]? := atI_of (Int.natCast_nonneg n)
theorem atI_neg1 {α : Type} (xs : List α) : L2.atI xs (-1) = xs.getLast? := by
  unfold L2.atI L2.ixN
  rw [if_neg (by decide), List.getLast?_eq_getElem?]
  cases xs with
  | nil => rfl
  | cons x xs =>
    rw [if_pos (by simp only [List.length_cons]; omega)]
    show (x :: xs)[(-1 + ((x :: xs).length : Int)).toNat]? = _
    congr 1
    simp only [List.length_cons]
    omega
theorem ixN_of {n : Nat} {i : Int} (h : 0 ≤ i) (hl : i < n) : L2.ixN n i = some i.toNat := by
  unfold L2.ixN
  rw [if_pos h, if_pos hl]
theorem ixN_lit (n k : Nat) : L2.ixN n (no_index (OfNat.ofNat k : Int)) = if k < n then some k else none := by
  show (if (0 : Int) ≤ (k : Int) then (if (k : Int) < (n : Int) then some k else none) else _) = _
  rw [if_pos (Int.natCast_nonneg k)]
  by_cases h : k < n
  · rw [if_pos h, if_pos (Int.ofNat_lt.mpr h)]
  · rw [if_neg h, if_neg (fun z => h (Int.ofNat_lt.mp z))]
theorem cut_init {α : Type} (xs : List α) : cutD xs none (some (-1)) = xs.dropLast := by
  unfold cutD
  simp only [HT.sIx]
  rw [if_pos (by decide), List.drop_zero, List.dropLast_eq_take]
  congr 1
  omega
theorem cut_to {α : Type} (xs : List α) {i : Int} (h : 0 ≤ i) : cutD xs none (some i) = xs.take i.toNat := by
  unfold cutD
  simp only [HT.sIx]
  rw [if_neg (by omega), List.drop_zero, Nat.sub_zero]
  by_cases hl : i.toNat ≤ xs.length
  · rw [Nat.min_eq_left hl]
  · rw [Nat.min_eq_right (by omega), List.take_length, List.take_of_length_le (by omega)]
theorem cut_from {α : Type} (xs : List α) {i : Int} (h : 0 ≤ i) : cutD xs (some i) none = xs.drop i.toNat := by
  unfold cutD
  simp only [HT.sIx]
  rw [if_neg (by omega)]
  by_cases hl : i.toNat ≤ xs.length
  · rw [Nat.min_eq_left hl, List.take_of_length_le (by rw [List.length_drop]; omega)]
  · rw [Nat.min_eq_right (by omega), List.drop_length, List.drop_of_length_le (by omega)]; simp

theorem Fit.of {i : Int} (h1 : -18446744073709551616 ≤ i) (h2 : i ≤ 18446744073709551616) : Fit i := by
  unfold Fit
  have : i.natAbs ≤ 18446744073709551616 := by omega
  exact Nat.lt_of_le_of_lt this (by decide)
theorem small3 {n : Nat} (h : n ≤ 1000) : n ≤ sizeLine := Nat.le_of_lt (L2.small1000 h)
/-! ### the deck -/
def deckD (a b t : Int) : D := .list [.int a, .int b, .int t]
def Deck (c : Int) (d : D) : Prop := ∃ a b t, d = deckD a b t ∧ 0 ≤ a ∧ 0 ≤ b ∧ b < 2147483579 ∧ 0 ≤ t ∧ t ≤ c
theorem Deck.mono {c c' : Int} {d : D} (h : Deck c d) (l : c ≤ c') : Deck c' d :=
  let ⟨a, b, t, e, h1, h2, h3, h4, h5⟩ := h
  ⟨a, b, t, e, h1, h2, h3, h4, Int.le_trans h5 l⟩
def c_deck : TD := fun ds q _ => ∃ cell turn : Int, ds = [.int cell, .int turn] ∧ 0 ≤ turn ∧ ∀ d, Deck turn d → q d []
def c_pick : TD := fun ds q _ => ∃ d many c, ds = [d, .int many] ∧ Deck c d ∧ c < 1073741824 ∧ 0 < many ∧ Fit many ∧ ∀ r d', 0 ≤ r → r < many → Deck (c + 1) d' → q (.int r) [d']
theorem pick_step {dk : D} {many c : Int} {q : D → List D → Prop} {e : DE} (hd : Deck c dk) (h : ∀ r d', 0 ≤ r → r < many → Deck (c + 1) d' → q (.int r) [d']) (hc : c < 1073741824 := by omega) (hm : 0 < many := by omega) (hf : Fit many := by exact Fit.of (by omega) (by omega)) : c_pick [dk, .int many] q e :=
  ⟨dk, many, c, rfl, hd, hc, hm, hf, h⟩
/-- a law: true at each script -/
def c_law : TD := fun ds q _ => ∃ ns : List Int, ds = [.list (ns.map .int)] ∧ ns.length ≤ 63 ∧ q (.bool true) []
end T2

namespace T2
open PySem PySem.Spec
section
variable {i j : Int} {x y : Str} {xs ys : List D} {q : D → Prop} {ql : List D → Prop} {d : D} {b c neg : Bool} {lo hi : Option Int}
theorem oAdd_i : oAdd (.int i) (.int j) q = q (.int (i + j)) := rfl
theorem oAdd_s : oAdd (.str x) (.str y) q = (x.length + y.length ≤ sizeLine ∧ q (.str (x ++ y))) := rfl
theorem oAdd_l : oAdd (.list xs) (.list ys) q = (xs.length + ys.length ≤ sizeLine ∧ q (.list (xs ++ ys))) := rfl
theorem oAdd_t : oAdd (.tuple xs) (.tuple ys) q = (xs.length + ys.length ≤ sizeLine ∧ q (.tuple (xs ++ ys))) := rfl
theorem oI2_i {C : Int → Int → Prop} {g : Int → Int → D} : oI2 C g (.int i) (.int j) q = (C i j ∧ q (g i j)) := rfl
theorem oC_i {p : Int → Int → Bool} : oC p (.int i) (.int j) q = q (.bool (p i j)) := rfl
theorem oIs_n : oIs neg d .none q = q (.bool (if neg then !isN d else isN d)) := rfl
theorem oIs_b : oIs neg (.bool b) (.bool c) q = q (.bool (if neg then !decide (b = c) else decide (b = c))) := rfl
theorem oIn_l : oIn neg d (.list xs) q = (okEq d ∧ okEq (.list xs) ∧ q (.bool (if neg then !(xs.any fun e => PyData.eqv e d) else xs.any fun e => PyData.eqv e d))) := rfl
theorem oIn_t : oIn neg d (.tuple xs) q = (flat d = true ∧ xs.all flat = true ∧ q (.bool (if neg then !(xs.any fun e => PyData.eqv e d) else xs.any fun e => PyData.eqv e d))) := rfl
theorem oIn_s : oIn neg (.str x) (.str y) q = q (.bool (if neg then !(!(Builtin.Str.occurrences y x 0 y.length 1).isEmpty) else !(Builtin.Str.occurrences y x 0 y.length 1).isEmpty)) := rfl
theorem oRep_l : oRep (.list xs) (.int j) q = (j < 2 ^ 63 ∧ -(2 ^ 63) ≤ j ∧ xs.length * j.toNat ≤ sizeLine ∧ q (.list (List.replicate j.toNat xs).flatten)) := rfl
theorem oIx_l : oIx (.list xs) (.int i) q = (∃ d, L2.atI xs i = some d ∧ q d) := rfl
theorem oIx_t : oIx (.tuple xs) (.int i) q = (∃ d, L2.atI xs i = some d ∧ q d) := rfl
theorem oSl_l : oSl (.list xs) lo hi q = q (.list (cutD xs lo hi)) := rfl
theorem oSl_t : oSl (.tuple xs) lo hi q = q (.tuple (cutD xs lo hi)) := rfl
theorem oLen_l : oLen [.list xs] q = q (.int xs.length) := rfl
theorem oLen_t : oLen [.tuple xs] q = q (.int xs.length) := rfl
theorem oLen_s : oLen [.str x] q = (x.length ≤ sizeLine ∧ q (.int x.length)) := rfl
theorem oList_l : oList [.list xs] q = q (.list xs) := rfl
theorem oList_t : oList [.tuple xs] q = q (.list xs) := rfl
theorem oTuple_l : oTuple [.list xs] q = q (.tuple xs) := rfl
theorem oTuple_t : oTuple [.tuple xs] q = q (.tuple xs) := rfl
theorem oInt_i : oInt [.int i] q = q (.int i) := rfl
theorem oInt_b : oInt [.bool b] q = q (.int (if b = true then 1 else 0)) := rfl
theorem oStr_i : oStr [.int i] q = (Fit i ∧ q (.str (toString i))) := rfl
theorem oMin2_i : oMin2 [.int i, .int j] q = q (.int (if j < i then j else i)) := rfl
theorem oMax2_i : oMax2 [.int i, .int j] q = q (.int (if j > i then j else i)) := rfl
theorem oAbs_i : oAbs [.int i] q = q (.int (if i < 0 then -i else i)) := rfl
theorem itemsOf_l : itemsOf (.list xs) ql = ql xs := rfl
theorem itemsOf_t : itemsOf (.tuple xs) ql = ql xs := rfl
theorem oRng_1 : oRng [.int j] ql = (sm62 j ∧ ql (rng 0 j)) := rfl
theorem oRng_2 : oRng [.int i, .int j] ql = (sm62 i ∧ sm62 j ∧ ql (rng i j)) := rfl
end
theorem atI_all {α : Type} {xs : List α} {r : Int} {P : α → Prop} (h0 : 0 ≤ r) (h1 : r < xs.length) (h : ∀ d ∈ xs, P d) : ∃ d, L2.atI xs r = some d ∧ P d := by
  rw [atI_of h0]
  have hl : r.toNat < xs.length := by omega
  exact ⟨xs[r.toNat], List.getElem?_eq_getElem hl, h _ (List.getElem_mem hl)⟩
theorem natAbs_lit (n : Nat) : (no_index (OfNat.ofNat n : Int)).natAbs = n := rfl
theorem okEq_i {i : Int} : okEq (.int i) = True := eq_true (Ok.int i).eq
theorem okEq_b {i : Bool} : okEq (.bool i) = True := eq_true (Ok.bool i).eq
theorem okEq_n : okEq .none = True := eq_true Ok.none.eq
theorem okEq_0 : okEq (.list []) = True := eq_true (Ok.list (n := 0) (by simp)).eq
theorem okS {s : Str} (h : PyData.strOk s = true := by decide +kernel) : okEq (.str s) := (Ok.str h).eq
theorem cast_lit (n : Nat) : ((no_index (OfNat.ofNat n : Nat) : Nat) : Int) = OfNat.ofNat n := rfl
theorem iteB {c : Prop} [Decidable c] {A B : Prop} (h1 : c → A) (h2 : ¬ c → B) : if c then A else B := by
  by_cases h : c
  · rw [if_pos h]; exact h1 h
  · rw [if_neg h]; exact h2 h
theorem ifP {c : Prop} [Decidable c] {A B : Prop} (h : c) (a : A) : if c then A else B := by
  rw [if_pos h]; exact a
end T2

namespace T2
open L2 PySem PySem.Spec PyProof.Rows

/-! ### the head: facts, and constant tuples -/
def tbOk (tb : List (Str × List He.Dv)) (K : PySem.W.Frag) : Bool := tb.all fun p => He.tupB K p.1 p.2
def obsBG (n : Nat) (fa : List He.Fa) (fn : List He.DefD) (tb : List (Str × List He.Dv)) (g : Addr → Option Obj) : He.AlD × Bool := (He.obsD fa fn (He.frG g (He.asD g n)), tbOk tb (He.frG g (He.asD g n)))
def SaysB (fa : List He.Fa) (fn : List He.DefD) (tb : List (Str × List He.Dv)) (K : PySem.W.Frag) : Prop := He.SaysD fa fn K ∧ tbOk tb K = true
def hookB (n : Nat) (fa : List He.Fa) (fn : List He.DefD) (tb : List (Str × List He.Dv)) : PySem.W.Hook where
  α := He.AlD × Bool
  obs := fun s => obsBG n fa fn tb s.heap.get?
  val := fun _ => (He.valD fn, true)
  says := fun _ h => ∃ K : PySem.W.Frag, K.In h ∧ SaysB fa fn tb K
  of := fun _ _ e => ⟨_, He.frG_in, (Prod.mk.inj e).1, (Prod.mk.inj e).2⟩
  keeps := fun _ _ _ ⟨K, hK, c⟩ k => ⟨K, PySem.W.Frag.In.keeps hK k, c⟩
theorem obsBG_eq {n : Nat} {fa : List He.Fa} {fn : List He.DefD} {tb : List (Str × List He.Dv)} {g : Addr → Option Obj} {s : Shared} (h : ∀ a, g a = s.heap.get? a) : obsBG n fa fn tb g = (hookB n fa fn tb).obs s := by
  have e : g = s.heap.get? := funext h
  rw [e] <;> rfl
theorem SaysB.tup {fa : List He.Fa} {fn : List He.DefD} {tb : List (Str × List He.Dv)} {K : PySem.W.Frag} (c : SaysB fa fn tb K) (i : Nat) {x : Str} {vs : List He.Dv} (h : tb[i]? = some (x, vs)) (H : Hp) : SqT K H (He.ga K x) (vs.map (He.Dv.v K)) :=
  He.tupB_ok (List.all_eq_true.mp c.2 (x, vs) (List.mem_of_getElem? h)) H
theorem fzTup {K : PySem.W.Frag} {x : Str} {ds : List D} {vs : List He.Dv} (h : ∀ H : Hp, SqT K H (He.ga K x) (vs.map (He.Dv.v K))) (hd : ∀ F, FzL K F ds (vs.map (He.Dv.v K))) : ∀ F, Fz K F (.tuple ds) (.ref (He.ga K x)) := fun F => by
  simp only [Fz]
  exact ⟨_, _, rfl, h F, hd F⟩
theorem fzInts {K : PySem.W.Frag} {F : Hp} : ∀ ns : List Int, FzL K F (ns.map .int) (ns.map V.int)
  | [] => by simp [FzL]
  | n :: ns => by
    simp only [List.map_cons, FzL]
    exact ⟨_, _, rfl, by simp only [Fz], fzInts ns⟩
theorem sp_law {K : PySem.W.Frag} {mg : Str → Option Value} {H : Hp} {a : Addr} {ns : List Int} (hS : SqL K H a (ns.map V.int)) (hn : ns.length ≤ 63) : spD K mg [.fz] [.bot] .fz c_law [.ref a] H (fun v _ => v = .bl true) (fun _ _ _ => False) := by
  refine ⟨rfl, H, fun _ => False, [.list (ns.map .int)], fun d _ => d = .bool true, fun _ _ => False, ⟨.refl _, fun _ h => h.elim, [], ?_, by simp, by simp⟩, ⟨ns, rfl, hn, rfl⟩, fun d ρ' hd F' H' v bs g r w => ?_, fun _ _ h => h.elim⟩
  · refine .cons (as := []) ⟨_, rfl, ?_⟩ .nil
    simp only [Rp, Fz, and_true]
    exact ⟨a, _, rfl, hS, fzInts ns⟩
  · subst hd
    simp only [Rp, Fz] at r
    exact r.1
theorem FnOk.cx0 {P : Program} {w : World} {K : PySem.W.Frag} {mg : Str → Option Value} {base : Heap} {k : Nat} {f : Addr} {fd : FuncData} {ps : List Str} {sp : Sp} (F : FnOk P w K mg base (L2N.CX P w) k f fd ps sp) :
    FnOk P w K mg base L2.CX0 k f fd ps (fun vs H Q _ => sp vs H Q fun _ _ _ => False) := by
  refine ⟨fun vs H Q E h => F.len vs H Q _ h, fun A outer s H args us vs Q E hr e0 hb hv h => codeAny_mono (F.run A outer s H args us vs Q _ hr e0 hb hv h) fun r s' hq => ?_⟩
  cases r with
  | error e =>
    obtain ⟨_, _, _, _, _, _, _, _, _, _, _, _, z⟩ := hq
    exact z.elim
  | ok fl => cases fl <;> exact hq
end T2

namespace T2
open PySem PySem.Spec PySem.W PySem.Calls PyProof.Rows

/-! ### sorted, of a list or a tuple of alike data -/
section
variable {prog : Program} {w : World} {A : Around} {E : Value → Shared → Prop} {s : Shared}
theorem sorted_seqD {l : Addr} {T : String} {o : Obj} {vs : List Value} {n : Nat} {bs : List PyData} {R : Value → PyData → Prop} {Q : Value → Shared → Prop} (hT : T = "list" ∨ T = "tuple") (ho : s.heap.get? l = some o) (hc : o.cls = .type T) (hd : o.data = .seq vs.toArray n)
    (e : EachIs R vs bs) (er : EachIs (fun v b => ∃ as, Reads s.heap v b as) vs bs) (hal : AllAlike bs) (hk : Sortable bs) (hL : bs.length ≤ sizeLine) (hu : ∀ b, b ∈ bs → A.units + 2 + b.depth < cLine)
    (h : ∀ (h1 : Heap), (∀ b o, s.heap.get? b = some o → h1.get? b = some o) → ∀ (out : List Value) (h' : Heap) (ep : Nat), EachIs R out (bs.mergeSort (dataLe false fun d => d)) → (∀ b o, h1.get? b = some o → h'.get? b = some o) → h'.get? h1.objs.size = some (seqObj "list" out.toArray ep) → Q (.ref h1.objs.size) { s with heap := h' }) :
    wpAny (model prog w) A (call (.builtin "sorted") [.ref l]) Q E s := by
  have hz : vs.length ≤ sizeLine := by rw [e.length]; exact hL
  have eid : bs.map (fun d => d) = bs := List.map_id' bs
  refine call_function_entry kind_sorted plain_sorted entry_sorted (args_sorted1 _) ?_
  unfold Builtin.«sorted»
  refine wpAny_bind (m := checkCount "sorted" 1 1 _) (wpAny_pure ?_)
  refine wpAny_bind (wpAny_collect_seq l hT ho hc hd (fun h1 k1 => ?_) (by rw [List.size_toArray]; exact hz))
  refine wpAny_bind (wpAny_newList ?_ hz)
  have hoL : (h1.push (seqObj "list" vs.toArray 0)).get? h1.objs.size = some (seqObj "list" vs.toArray 0) := Heap.get?_push_size _ rfl
  have old : ∀ b o, h1.get? b = some o → b ≠ h1.objs.size ∧ (h1.push (seqObj "list" vs.toArray 0)).get? b = some o := fun b o q => ⟨Nat.ne_of_lt (Heap.lt_size q), Heap.get?_push_of_some _ q⟩
  refine wpAny_bind (wpAny_holding (wpAny_call_entry slot_list_sort ⟨_, hoL, rfl⟩ entry_list_sort ?body (args_list_sort _)))
  case body =>
    have er' : EachIs (fun v b => ∃ as, Reads (sortingHeap (h1.push (seqObj "list" vs.toArray 0)) h1.objs.size vs) v b as) vs bs := er.mono fun _ _ ⟨as, r⟩ => ⟨as, PyProof.Rows.Reads.keeps (fun b o q => sortingHeap_old (old b o (k1 b o q)).1 (old b o (k1 b o q)).2) r⟩
    have S : SortsAt prog w A.in1.in1 { s with heap := sortingHeap (h1.push (seqObj "list" vs.toArray 0)) h1.objs.size vs } (dataKind (sortingHeap (h1.push (seqObj "list" vs.toArray 0)) h1.objs.size vs) bs) vs := SortsAt.data (s := { s with heap := sortingHeap (h1.push (seqObj "list" vs.toArray 0)) h1.objs.size vs }) er' hal hk fun d hd => hu d hd
    have sd := sortVals_data (h' := sortingHeap (h1.push (seqObj "list" vs.toArray 0)) h1.objs.size vs) (R := R) (enc := fun d => d) (vs := vs) (bs := bs) false e er' (by rw [eid]; exact hal)
    rw [eid] at sd
    obtain ⟨ep, hep⟩ := sortedHeap_at (vs := vs) (out := (sortVals (dataKind (sortingHeap (h1.push (seqObj "list" vs.toArray 0)) h1.objs.size vs) bs) false vs vs).toArray) hoL
    refine list_sort_vals (s := { s with heap := h1.push (seqObj "list" vs.toArray 0) }) hoL S hz ⟨_, rfl, wpAny_pure ⟨_, rfl, ?_⟩⟩
    refine h h1 k1 _ _ ep sd (fun b o q => ?_) hep
    obtain ⟨q1, q2⟩ := old b o q
    rw [sortedHeap_old q1 (Heap.lt_size q2)]
    exact q2
end
def sortD (ds : List D) : List D := ds.mergeSort (dataLe false fun d => d)
end T2
namespace T2
open PySem PySem.Spec PyProof.Rows L2
theorem each_of {K : PySem.W.Frag} {F : Hp} : ∀ {ds : List D} {us : List V} {vs : List Value}, FzL K F ds us → Vals us vs → PySem.W.EachIs (fun v d => ∃ x, Fz K F d x ∧ RelV x v) vs ds
  | [], _, _, h, r => by
    simp only [FzL] at h
    subst h
    cases r
    exact .nil
  | d :: ds, _, _, h, r => by
    simp only [FzL] at h
    obtain ⟨v, r', rfl, h1, h2⟩ := h
    cases r with
    | cons p q => exact .cons ⟨_, h1, p⟩ (each_of h2 q)
theorem of_each {K : PySem.W.Frag} {F : Hp} : ∀ {ds : List D} {vs : List Value}, PySem.W.EachIs (fun v d => ∃ x, Fz K F d x ∧ RelV x v) vs ds → ∃ us, FzL K F ds us ∧ Vals us vs
  | _, _, .nil => ⟨[], by simp [FzL], .nil⟩
  | _, _, .cons ⟨x, h1, h2⟩ t => by
    obtain ⟨us, i1, i2⟩ := of_each t
    exact ⟨x :: us, by simp only [FzL]; exact ⟨x, us, rfl, h1, i1⟩, .cons h2 i2⟩
def okSort (ds : List D) : Prop := PySem.W.AllAlike ds ∧ PySem.W.Sortable ds ∧ ∀ d ∈ ds, d.depth ≤ 60
def oSorted (xs : List D) (q : D → Prop) : Prop := match xs with
  | [.list ds] => okSort ds ∧ q (.list (sortD ds))
  | [.tuple ds] => okSort ds ∧ q (.list (sortD ds))
  | _ => False
def rSortD (K : PySem.W.Frag) : List V → Hp → VK → Prop := fun vs H Q => ∃ F a ds us, vs = [V.ref a] ∧ Sub F H ∧ (SqL K H a us ∨ SqT K H a us) ∧ FzL K F ds us ∧ okSort ds ∧ ∀ us' p, FzL K F (sortD ds) us' → H p = none → Q (.ref p) (upd H p (.lst us'))
section
variable {X : Cx}
mutual
theorem noD_alike : ∀ d : D, PySem.W.alike d d = true → noD d = true
  | .none, _ => rfl
  | .bool _, _ => rfl
  | .int _, _ => rfl
  | .str _, _ => rfl
  | .list xs, h => by rw [PySem.W.alike] at h; rw [noD]; exact noDs_alike xs h
  | .tuple xs, h => by rw [PySem.W.alike] at h; rw [noD]; exact noDs_alike xs h
  | .dict _, h => by simp [PySem.W.alike] at h
theorem noDs_alike : ∀ ds : List D, PySem.W.alikeAll ds ds = true → noDs ds = true
  | [], _ => rfl
  | d :: ds, h => by
    rw [PySem.W.alikeAll, Bool.and_eq_true] at h
    rw [noDs, noD_alike d h.1, noDs_alike ds h.2]
    rfl
end
theorem noDs_of : ∀ {ds : List D}, (∀ d ∈ ds, noD d = true) → noDs ds = true
  | [], _ => rfl
  | d :: ds, h => by rw [noDs, h d (by simp), noDs_of fun x hx => h x (by simp [hx])]; rfl
theorem reads_each {pins : List (Addr × Obj)} {σ : L2.St} {H : Hp} {s : Shared} (I : Inv X pins σ H s) : ∀ {ds : List D} {us : List V} {vs : List Value}, FzL X.K H ds us → noDs ds = true → Vals us vs → PySem.W.EachIs (fun v d => ∃ as, Reads s.heap v d as) vs ds
  | [], _, _, h, _, r => by
    simp only [FzL] at h
    subst h
    cases r
    exact .nil
  | d :: ds, _, _, h, n, r => by
    obtain ⟨v, us, rfl, h1, h2⟩ := h
    rw [noDs, Bool.and_eq_true] at n
    cases r with
    | cons r1 r2 => exact .cons (Dp.reads I d v _ (Fz.dp n.1 h1) r1) (reads_each I h2 n.2 r2)
theorem cr_sortD (hu : X.A.units + 65 < cLine) : CallR X (.builtin "sorted") (rSortD X.K) := by
  intro pins s σ H vs us Q I r h
  obtain ⟨F, a, ds, xs, rfl, sb, hs, hf, ⟨ok1, ok2, ok3⟩, q⟩ := h
  rw [Vals.ref1 r]
  obtain ⟨T, hT, o, n, its, rv, ho, hc, hd, hz⟩ : ∃ T : String, (T = "list" ∨ T = "tuple") ∧ ∃ (o : Obj) (n : Nat) (its : List Value), Vals xs its ∧ s.heap.get? a = some o ∧ o.cls = .type T ∧ o.data = .seq its.toArray n ∧ xs.length ≤ sizeLine := by
    rcases hs with hs | hs
    · obtain ⟨its, rv, ⟨o, n, e, hc, _, hd⟩, hz⟩ := I.list hs
      exact ⟨"list", .inl rfl, o, n, its, rv, e, hc, hd, hz⟩
    · obtain ⟨its, rv, ⟨o, e, hc, n, hd⟩, hz⟩ := I.tuple hs
      exact ⟨"tuple", .inr rfl, o, n, its, rv, e, hc, hd, hz⟩
  refine sorted_seqD hT ho hc hd (each_of hf rv) ?_ ok1 ok2 (by rw [hf.length]; exact hz) (fun d hd => by have := ok3 d hd; omega) fun h1 k1 out h' ep e k2 hep => ?_
  · have no : noDs ds = true := noDs_of fun d hd => noD_alike d (ok1 d hd d hd)
    exact reads_each I (hf.mono sb) no rv
  · obtain ⟨us', f', r'⟩ := of_each e
    have I1 : Inv X pins σ H { s with heap := h1 } := I.kept (t' := s.toks) k1
    have hn : H h1.objs.size = none := I1.hok.fresh (Nat.le_refl _)
    have hlen : us'.length ≤ sizeLine := by
      have l1 := f'.length
      have l2 := hf.length
      rw [List.length_mergeSort] at l1
      omega
    exact ⟨.ref _, _, I1.laid (o := .lst us') (t' := s.toks) k2 (Nat.le_refl _) ⟨hlen, out, ep, r', hep⟩, rfl, q us' _ f' hn⟩
theorem cd_sorted (hu : X.A.units + 65 < cLine) : CalD X (.builtin "sorted") .ow oSorted := by
  refine ⟨_, cr_sortD hu, fun F H S Γ σ ρ bs xs vs q Q w hx h f => ?_⟩
  unfold oSorted at h
  split at h
  · obtain ⟨v, rfl, hv⟩ := hx.one
    obtain ⟨a, us, rfl, h1, h2⟩ := hv.list
    exact ⟨F, a, _, us, rfl, w.sub, .inl h1, h2, h.1, fun us' p hf np => Fin.nl f w np h.2 hf⟩
  · obtain ⟨v, rfl, hv⟩ := hx.one
    obtain ⟨a, us, rfl, h1, h2⟩ := hv.tuple w.sub
    exact ⟨F, a, _, us, rfl, w.sub, .inr h1, h2, h.1, fun us' p hf np => Fin.nl f w np h.2 hf⟩
  · exact h.elim
end
section
variable {X : Cx} {W : WX} {Γx Γ Γ1 Γ' : List Ty} {a e e2 e3 tg : Expr} {τ : Ty} {t : TD} {tr : TL} {pos p : Pos}
def rngC (i c : Int) (n : Nat) : List D := (List.range n).map fun k => .int (i + (k : Nat) * c)
theorem rngC_len (i c : Int) (n : Nat) : (rngC i c n).length = n := by simp [rngC]
theorem itD_rngC {K : PySem.W.Frag} {S : AS} {F H : Hp} (i c : Int) (n : Nat) : ItD K (Itc i c n) S F H (rngC i c n) where
  go := fun F' H' s s' j h => by rw [rngC_len] at h; exact h
  stop := fun F' H' s s' => by rw [rngC_len]; exact Nat.le_refl _
  yld := fun F' H' S' Γ σ ρ bs s hs w j x H2 h ⟨e, y⟩ => by
    subst e
    rw [rngC_len] at h
    refine ⟨.int (i + (j : Nat) * c), F', ?_, .refl, w, by simp only [Fz]; exact y⟩
    unfold rngC
    rw [List.getElem?_map, List.getElem?_range h]
    rfl
def oRng3 (xs : List D) (q : List D → Prop) : Prop := match xs with
  | [.int i, .int j, .int c] => sm62 i ∧ sm62 j ∧ c = -1 ∧ q (rngC i (-1) (i - j).toNat)
  | _ => False
def iR3 (tr : TL) : TL := fun ρ Q E => tr ρ (fun ds ρ' => oRng3 ds fun xs => Q xs ρ') E
theorem FzL.three {K : PySem.W.Frag} {F : Hp} {d e f : D} {vs : List V} (h : FzL K F [d, e, f] vs) : ∃ v u w, vs = [v, u, w] ∧ Fz K F d v ∧ Fz K F e u ∧ Fz K F f w := by
  simp only [FzL] at h
  obtain ⟨v, r, rfl, h1, u, r2, rfl, h2, w, r3, rfl, h3, rfl⟩ := h
  exact ⟨v, u, w, rfl, h1, h2, h3⟩
theorem i_range3 (h : AOk X W Γx Γ [e, e2, e3] Γ' [.fz, .fz, .fz] tr) (hg : Gl X "range") (hm : X.mg "range" = none) (hs : starEach [e, e2, e3] X.env = (false, eval e X.env) :: starEach [e2, e3] X.env := by rfl) (hpl : (backTo pos (starEach [e2, e3] X.env)).any (·.1) = false := by rfl) :
    IOk X W Γx Γ tg (.Call (.Name "range" p) [e, e2, e3] [] pos) Γ' (iR3 tr) := by
  refine ⟨PI.imp (pi_range3 hg hm h.pa hs hpl) fun σ H R ⟨F, S, ρ, Qd, Ed, w, q, pp, px⟩ => ?_⟩
  refine ⟨F, S, ρ, _, Ed, w, q, fun ds ρ' hd F' H' vs bs g r w' => ?_, px⟩
  obtain ⟨r1, rfl⟩ := r.fz rfl
  unfold oRng3 at hd
  split at hd
  · obtain ⟨v, u, z, rfl, h1, h2, h3⟩ := r1.three
    cases h1.int; cases h2.int; cases h3.int
    obtain ⟨s1, s2, rfl, hd⟩ := hd
    exact ⟨_, _, _, _, rfl, RgC.neg s1.1 s1.2 s2.1 s2.2, pp _ ρ' hd F' H' _ g w' (itD_rngC _ _ _)⟩
  · exact hd.elim
def tRev (τ : Ty) (t : TD) : TD := fun ρ Q E => t ρ (fun d ρ' => match see τ ρ' d with
  | .list ds => Q (.list ds.reverse) ρ'
  | _ => False) E
theorem FzL.reverse {K : PySem.W.Frag} {F : Hp} : ∀ {ds : List D} {vs : List V}, FzL K F ds vs → FzL K F ds.reverse vs.reverse
  | [], _, h => by
    simp only [FzL] at h
    subst h
    simp [FzL]
  | d :: ds, _, h => by
    simp only [FzL] at h
    obtain ⟨v, r, rfl, h1, h2⟩ := h
    rw [List.reverse_cons, List.reverse_cons]
    exact (FzL.reverse h2).append (by simp only [FzL]; exact ⟨v, [], rfl, h1, rfl⟩)
/-- xs[::-1], of a list -/
theorem e_rev {k : Nat} {p1 p2 p3 : Pos} (h : EOk X W Γx Γ a Γ' τ t) (va : opd Γ' τ = true := by rfl) : EOk X W Γx Γ (.Subscript a (.Slice none none (some (.UnaryOp .USub (.Constant (.int 1) k p1) p2)) p3) pos) Γ' .ow (tRev τ t) := by
  refine ⟨PE.imp (pe_revL h.pe) fun σ H Q ⟨F, S, ρ, Qd, Ed, w, q, pp, px⟩ => ?_⟩
  refine ⟨F, S, ρ, _, Ed, w, q, fun d ρ' hd F' H' v bs g r w' => ?_, px⟩
  have x1 := w'.view va r
  revert hd x1
  generalize see τ ρ' d = da
  intro hd x1
  cases da with
  | list ds =>
    obtain ⟨l, us, rfl, h1, h2⟩ := x1.list
    have f : Fin X.K F' H' S Γ' σ ρ' bs .ow (fun d => Qd d ρ') Q := fun d hd F2 H2 z cs g2 rz w2 => pp d ρ' hd F2 H2 z cs (g.trans g2 fun _ => .inl) rz (w2.perm List.perm_append_comm).drop
    exact ⟨l, us, rfl, h1, fun p np => Fin.nl f w' np hd h2.reverse⟩
  | _ => exact hd.elim
end
end T2

namespace T2
open PySem PySem.Spec
section
variable {i j c : Int} {xs : List D} {q : D → Prop} {ql : List D → Prop}
theorem oSorted_l : oSorted [.list xs] q = (okSort xs ∧ q (.list (sortD xs))) := rfl
theorem oSorted_t : oSorted [.tuple xs] q = (okSort xs ∧ q (.list (sortD xs))) := rfl
theorem oRng3_3 : oRng3 [.int i, .int j, .int c] ql = (sm62 i ∧ sm62 j ∧ c = -1 ∧ ql (rngC i (-1) (i - j).toNat)) := rfl
end
theorem okSort_ints (ns : List Int) : okSort (ns.map .int) := by
  refine ⟨fun d hd d' hd' => ?_, .inr fun d hd => ?_, fun d hd => ?_⟩
  · obtain ⟨a, _, rfl⟩ := List.mem_map.mp hd
    obtain ⟨b, _, rfl⟩ := List.mem_map.mp hd'
    rfl
  · obtain ⟨a, _, rfl⟩ := List.mem_map.mp hd
    exact ⟨(by simp), (by simp)⟩
  · obtain ⟨a, _, rfl⟩ := List.mem_map.mp hd
    exact Nat.zero_le _
theorem sortD_perm (ds : List D) : (sortD ds).Perm ds := List.mergeSort_perm _ _
theorem sortD_ints (ns : List Int) : sortD (ns.map .int) = (ns.mergeSort fun a b => decide (a ≤ b)).map .int := by
  unfold sortD
  rw [List.map_mergeSort (r := fun a b => decide (a ≤ b)) (s := PySem.W.dataLe false fun d => d)]
  intro a ha b hb
  have := congrFun (congrFun (PySem.W.dataLe_int (β := Int) fun n => n) a) b
  rw [← this]
  rfl
theorem sortI_le (ns : List Int) : (ns.mergeSort fun a b => decide (a ≤ b)).Pairwise (· ≤ ·) := by
  have := List.pairwise_mergeSort (le := fun a b : Int => decide (a ≤ b)) (fun a b c h1 h2 => by simp only [decide_eq_true_eq] at *; omega) (fun a b => by simp only [Bool.or_eq_true, decide_eq_true_eq]; omega) ns
  exact this.imp fun h => by simpa using h
theorem cutD_len {α : Type} (xs : List α) (lo hi : Option Int) : (cutD xs lo hi).length ≤ xs.length := by
  unfold cutD
  rw [List.length_take, List.length_drop]
  omega
theorem cutD_mem {α : Type} {xs : List α} {lo hi : Option Int} {x : α} (h : x ∈ cutD xs lo hi) : x ∈ xs := List.mem_of_mem_drop (List.mem_of_mem_take h)
end T2

namespace T2H
open PySem PySem.Spec PyProof.Rows L2 HotX L2H
section
variable {prog : Program} {w : World} {A : Around} {E : Value → Shared → Prop} {s : Shared}
/-- StopIteration made while x1 is handled -/
theorem stop_hot {α : Type} {x1 : Addr} {Q : α → Shared → Prop} (hot : HotAt A x1 s.heap)
    (hE : ∀ h' e, (∀ b o, s.heap.get? b = some o → h'.get? b = some o) → (∃ o, h'.get? e = some o ∧ o.cls = .type "StopIteration") → E (.ref e) { s with heap := h' }) :
    wpAny (model prog w) A (Builtin.SmallTypes.stopIteration : Sem α) Q E s := by
  obtain ⟨hh, o1, vs1, g1, d1, c1⟩ := hot
  unfold Builtin.SmallTypes.stopIteration
  refine wpAny_bind ?_
  simp only [newExc, newTuple]
  refine wpAny_bind (wpAny_newObj_type ?_ (by size_fits))
  refine wpAny_bind (m := firstArgMember _ _) (wpAny_of_eq (a := Value.none) (by first | rfl | (simp only [firstArgMember]; rfl)) ?_)
  refine wpAny_newObj_type ?_ (by size_fits)
  refine raiseNew_hot (x1 := x1) ⟨hh, o1, vs1, Heap.get?_push_of_some _ (Heap.get?_push_of_some _ g1), d1, c1⟩ (Nat.ne_of_lt (Heap.lt_size (Heap.get?_push_of_some _ g1))) (Heap.get?_push_size _ rfl) rfl (by first | (simp; done) | (simp; omega)) ?_
  refine hE _ _ (fun b o q => ?_) ⟨_, Heap.get?_update_self _ (Heap.get?_push_size _ rfl) rfl, rfl⟩
  rw [Heap.get?_update_other _ _ (Nat.ne_of_gt (Heap.lt_size (Heap.get?_push_of_some _ q)))]
  exact Heap.get?_push_of_some _ (Heap.get?_push_of_some _ q)
/-- a list's iterator at its end -/
theorem list_end_hot {it l x1 : Addr} {i : Nat} {items : Array Value} {Q : Value → Shared → Prop} (hot : HotAt A x1 s.heap) (hne : x1 ≠ it) (hit : s.heap.IsListIter it l i) (hl : s.heap.IsList l items) (hx : items[i]? = none)
    (hE : ∀ h' e, Heap.ExtBut it s.heap h' → (∃ o, h'.get? e = some o ∧ o.cls = .type "StopIteration") → E (.ref e) { s with heap := h' }) : wpAny (model prog w) A (Builtin.SmallTypes.nextOf (.ref it)) Q E s := by
  obtain ⟨oi, gi, ci, di⟩ := id hit
  obtain ⟨ol, gl, _, nl, dl⟩ := hl
  obtain ⟨hh, o1, vs1, g1, d1, c1⟩ := hot
  unfold Builtin.SmallTypes.nextOf
  have body : ∀ (Q' : PySem.Fin → Shared → Prop), wpAny (model prog w) A.in1 (Builtin.«list_iterator.__next__» ⟨[.ref it], []⟩) Q' E s := fun Q' => by
    show wpAny _ _ (field (.ref it) 0 >>= _) _ _ s; refine wpAny_bind (wpAny_field gi di (x := .ref l) rfl ?_)
    show wpAny _ _ (if (Value.ref l == Value.none) = true then _ else _) _ _ s; rw [if_neg (by exact Bool.false_ne_true)]
    show wpAny _ _ (field (.ref it) 1 >>= _) _ _ s; refine wpAny_bind (wpAny_field gi di (x := .int i 0) rfl ?_)
    show wpAny _ _ (seqItems? (.ref l) >>= _) _ _ s; refine wpAny_bind (wpAny_seqItems gl dl ?_)
    simp only [Int.toNat_natCast, hx]
    refine wpAny_bind (wpAny_rule (wpAny_bind (wpAny_setField gi di (by simp) ?_)))
    have sb : Heap.SameBut it s.heap (s.heap.update it (Obj.mapFields (·.setIfInBounds 0 .none))) := Heap.SameBut.update ..
    refine stop_hot (x1 := x1) ⟨hh, o1, vs1, (sb.2 _ hne).trans g1, d1, c1⟩ fun h' e k he => hE h' e (fun b o hb q => k b o ((sb.2 b hb).trans q)) he
  exact wpAny_bind (wpAny_callSpecial?_slot (name := Str.ofString "__next__") hit.typeIs slot_listiter_next (wpAny_call_entry slot_listiter_next hit.typeIs entry_listiter_next (body _) (args_listiter_next _)))
/-- zip's end: its lists are as long as one another or not -/
theorem zip_end_hot {z TI TO i1 i2 l1 l2 x1 : Addr} {k1 k2 : Nat} {xs ys : Array Value} {a b : Value} {Q : PySem.Fin → Shared → Prop} (hot : HotAt A x1 s.heap) (nx : x1 ≠ z ∧ x1 ≠ TO ∧ x1 ≠ i1 ∧ x1 ≠ i2) (D : ZipApart z TI TO i1 i2 l1 l2)
    (hz : IsZip s.heap z TI TO .none) (hTI : IsPair s.heap TI (.ref i1) (.ref i2)) (hTO : IsPair s.heap TO a b) (h1 : s.heap.IsListIter i1 l1 k1) (h2 : s.heap.IsListIter i2 l2 k2) (hl1 : s.heap.IsList l1 xs) (hl2 : s.heap.IsList l2 ys)
    (hend : xs[k1]? = none ∨ ys[k2]? = none) (hE : ∀ h' e, (∀ c o, c ≠ z → c ≠ TO → c ≠ i1 → c ≠ i2 → s.heap.get? c = some o → h'.get? c = some o) → (∃ o, h'.get? e = some o ∧ o.cls = .type "StopIteration") → E (.ref e) { s with heap := h' }) :
    wpAny (model prog w) A (Builtin.«zip.__next__» ⟨[.ref z], []⟩) Q E s := by
  obtain ⟨hh, o1, vs1, g1, d1, c1⟩ := hot
  show wpAny _ _ (field (.ref z) 2 >>= _) _ _ _; refine wpAny_bind (wpAny_field hz rfl (x := .bool false) rfl ?_)
  show wpAny _ _ (field (.ref z) 3 >>= _) _ _ _; refine wpAny_bind (wpAny_field hz rfl (x := .ref TI) rfl (wpAny_bind (wpAny_seqItems hTI rfl ?_)))
  show wpAny _ _ (Builtin.SmallTypes.ownedTupleIsFree (.ref z) >>= _) _ _ _; unfold Builtin.SmallTypes.ownedTupleIsFree
  refine wpAny_bind (wpAny_bind (wpAny_field hz rfl (x := .none) rfl (wpAny_pure ?_))); simp only [if_true]
  refine wpAny_bind (wpAny_rule (wpAny_bind (wpAny_field hz rfl (x := .ref TO) rfl (wpAny_bind (wpAny_setField_rec hz (by simp) fun ha hza sa => ?_)))))
  replace hza : IsZip ha z TI TO .ellipsis := hza
  have g1a : ha.get? x1 = some o1 := sa.extBut _ _ nx.1 g1
  refine wpAny_bind ?_; simp only [List.zipIdx_cons, List.zipIdx_nil, List.forIn_cons, List.forIn_nil]
  refine wpAny_bind (wpAny_bind (wpAny_onRaise ?_)); show wpAny _ _ (Builtin.SmallTypes.nextOf (.ref i1) >>= _) _ _ _
  have fin : ∀ {hb : Heap} {e : Addr}, (∀ c o, c ≠ z → c ≠ TO → c ≠ i1 → c ≠ i2 → s.heap.get? c = some o → hb.get? c = some o) → IsZip hb z TI TO .ellipsis → (∃ o, hb.get? e = some o ∧ o.cls = .type "StopIteration") →
      wpAny (model prog w) A (setField (.ref z) 0 .none) (fun _ s' => E (.ref e) s') E { s with heap := hb } := fun {hb e} kb zb ⟨oe, ge, ce⟩ => by
    have hez : e ≠ z := fun y => by subst y; rw [zb] at ge; cases ge; simp at ce
    exact wpAny_setField_rec zb (by simp) fun hc _ sc => hE hc e (fun c o c1 c2 c3 c4 q => sc.extBut _ _ c1 (kb c o c1 c2 c3 c4 q)) ⟨oe, sc.extBut _ _ hez ge, ce⟩
  cases hx : xs[k1]? with
  | none =>
    refine wpAny_bind (list_end_hot (x1 := x1) ⟨hh, o1, vs1, g1a, d1, c1⟩ nx.2.2.1 (h1.extBut sa.extBut D.i1z) (hl1.extBut sa.extBut D.l1z) hx fun hb e sb he => ?_)
    exact fin (fun c o c1 _ c3 _ q => sb _ _ c3 (sa.extBut _ _ c1 q)) (sb _ _ D.i1z.symm hza) he
  | some x =>
    have hy : ys[k2]? = none := hend.resolve_left (by rw [hx]; simp)
    refine wpAny_bind (wpAny_nextOf_list_item (h1.extBut sa.extBut D.i1z) (hl1.extBut sa.extBut D.l1z) hx fun hb h1b sb => wpAny_pure ?_)
    have tob : IsPair hb TO a b := sb.extBut _ _ D.TOi1 (sa.extBut _ _ D.TOz hTO)
    refine wpAny_bind (wpAny_seqItems tob rfl (wpAny_bind (wpAny_updateSeq_pair tob fun hc toc sc => wpAny_bind (wpAny_letGo (wpAny_pure (wpAny_bind (wpAny_bind (wpAny_onRaise ?_))))))))
    show wpAny _ _ (Builtin.SmallTypes.nextOf (.ref i2) >>= _) _ _ _
    have g1c : hc.get? x1 = some o1 := sc.extBut _ _ nx.2.1 (sb.extBut _ _ nx.2.2.1 g1a)
    refine wpAny_bind (list_end_hot (x1 := x1) ⟨hh, o1, vs1, g1c, d1, c1⟩ nx.2.2.2 (((h2.extBut sa.extBut D.i2z).extBut sb.extBut D.i12.symm).extBut sc.extBut D.TOi2.symm) (((hl2.extBut sa.extBut D.l2z).extBut sb.extBut D.l2i1).extBut sc.extBut D.l2TO) hy fun hd e sd he => ?_)
    exact fin (fun c o c1 c2 c3 c4 q => sd _ _ c4 (sc.extBut _ _ c2 (sb.extBut _ _ c3 (sa.extBut _ _ c1 q)))) (sd _ _ D.i2z.symm (sc.extBut _ _ D.TOz.symm (sb.extBut _ _ D.i1z.symm hza))) he
theorem zip_next_hot {z TI TO i1 i2 l1 l2 x1 : Addr} {k1 k2 : Nat} {xs ys : Array Value} {a b : Value} {Q : Option Value → Shared → Prop} (hot : HotAt A x1 s.heap) (nx : x1 ≠ z ∧ x1 ≠ TO ∧ x1 ≠ i1 ∧ x1 ≠ i2) (D : ZipApart z TI TO i1 i2 l1 l2)
    (hz : IsZip s.heap z TI TO .none) (hTI : IsPair s.heap TI (.ref i1) (.ref i2)) (hTO : IsPair s.heap TO a b) (h1 : s.heap.IsListIter i1 l1 k1) (h2 : s.heap.IsListIter i2 l2 k2) (hl1 : s.heap.IsList l1 xs) (hl2 : s.heap.IsList l2 ys)
    (hend : xs[k1]? = none ∨ ys[k2]? = none) (hQ : ∀ h', (∀ c o, c ≠ z → c ≠ TO → c ≠ i1 → c ≠ i2 → s.heap.get? c = some o → h'.get? c = some o) → Q none { s with heap := h' }) : wpAny (model prog w) A (pyNext (.ref z)) Q E s := by
  have hT : s.TypeIs (.ref z) "zip" := ⟨_, hz, rfl⟩
  unfold pyNext
  refine wpAny_bind (wpAny_attempt (wpAny_callSpecial?_slot (name := Str.ofString "__next__") hT F.slot_zip_next (wpAny_call_entry F.slot_zip_next hT F.entry_zip_next (zip_end_hot (x1 := x1) hot nx D hz hTI hTO h1 h2 hl1 hl2 hend fun h' e k he => ?_) (F.args_zip_next_1 _))))
  obtain ⟨o, g, c⟩ := he
  exact wpAny_bind (wpAny_isInstance (T := "StopIteration") (b := true) ⟨o, g, c⟩ isSubtype_stop (wpAny_pure (hQ _ k)))
/-! ### a tuple taken apart -/
theorem tup_end_hot {it t x1 : Addr} {i : Nat} {items : Array Value} {Q : Option Value → Shared → Prop} (hot : HotAt A x1 s.heap) (hne : x1 ≠ it) (hit : IsTupIter s.heap it t i) (ht : IsTup s.heap t items) (hx : items[i]? = none)
    (hQ : ∀ h', Heap.ExtBut it s.heap h' → Q none { s with heap := h' }) : wpAny (model prog w) A (pyNext (.ref it)) Q E s := by
  obtain ⟨oi, gi, ci, di⟩ := id hit
  obtain ⟨ol, gl, _, nl, dl⟩ := ht
  obtain ⟨hh, o1, vs1, g1, d1, c1⟩ := hot
  unfold pyNext
  refine wpAny_bind (wpAny_attempt (wpAny_callSpecial?_slot (name := Str.ofString "__next__") hit.typeIs slot_tupleiter_next (wpAny_call_entry slot_tupleiter_next hit.typeIs entry_tupleiter_next ?_ (args_tupleiter_next _))))
  show wpAny _ _ (field (.ref it) 0 >>= _) _ _ s; refine wpAny_bind (wpAny_field gi di (x := .ref t) rfl ?_)
  show wpAny _ _ (if (Value.ref t == Value.none) = true then _ else _) _ _ s; rw [if_neg (by exact Bool.false_ne_true)]
  show wpAny _ _ (field (.ref it) 1 >>= _) _ _ s; refine wpAny_bind (wpAny_field gi di (x := .int i 0) rfl ?_)
  show wpAny _ _ (seqItems? (.ref t) >>= _) _ _ s; refine wpAny_bind (wpAny_seqItems gl dl ?_)
  simp only [Int.toNat_natCast, hx]
  refine wpAny_bind (wpAny_rule (wpAny_bind (wpAny_setField gi di (by simp) ?_)))
  have sb : Heap.SameBut it s.heap (s.heap.update it (Obj.mapFields (·.setIfInBounds 0 .none))) := Heap.SameBut.update ..
  refine stop_hot (x1 := x1) ⟨hh, o1, vs1, (sb.2 _ hne).trans g1, d1, c1⟩ fun h' e k ⟨o, g, c⟩ => ?_
  exact wpAny_bind (wpAny_isInstance (T := "StopIteration") (b := true) ⟨o, g, c⟩ isSubtype_stop (wpAny_pure (hQ _ fun b o hb q => k b o ((sb.2 b hb).trans q))))
theorem items_hot {t x1 : Addr} {items : Array Value} {Q : List Value → Shared → Prop} (hot : HotAt A x1 s.heap) (ht : IsTup s.heap t items)
    (hQ : ∀ h', Heap.ExtBut s.heap.objs.size s.heap h' → Q items.toList { s with heap := h' }) : wpAny (model prog w) A (unpackItems (.ref t) items.size none) Q E s := by
  have hlt : t ≠ s.heap.objs.size := by obtain ⟨o, ho, _⟩ := ht; exact Nat.ne_of_lt (Heap.lt_size ho)
  obtain ⟨hh, o1, vs1, g1, d1, c1⟩ := hot
  have nx : x1 ≠ s.heap.objs.size := Nat.ne_of_lt (Heap.lt_size g1)
  unfold unpackItems notIterableAtAll
  refine wpAny_bind (wpAny_bind (wpAny_specialOf ht.typeIs slot_tuple_iter.lookup (wpAny_pure ?_)))
  simp only [Bool.false_eq_true, if_false]
  refine wpAny_bind (wpAny_holding (iter_tuple ht (wpAny_bind (wpAny_holding (draw_tuple hlt items.size 0 _ _ ⟨_, Heap.get?_push_size _ rfl, rfl, rfl⟩ (ht.push _) (by omega) fun ha hita sa => ?_)))))
  have hall : List.take items.size (List.drop 0 items.toList) = items.toList := by
    rw [List.drop_zero, List.take_of_length_le (by simp)]
  rw [hall, if_neg (by simp)]
  have hta : IsTup ha t items := (ht.push _).extBut sa.extBut hlt
  have g1a : ha.get? x1 = some o1 := sa.extBut _ _ nx (Heap.get?_push_of_some _ g1)
  refine wpAny_bind (wpAny_holding (tup_end_hot (x1 := x1) ⟨hh, o1, vs1, g1a, d1, c1⟩ nx hita hta (by simp) fun hb sb => ?_))
  simp only [Option.isSome_none, Bool.false_eq_true, if_false]
  exact wpAny_pure (hQ hb fun b o n q => sb b o n (sa.extBut b o n (Heap.get?_push_of_some _ q)))
end
end T2H

namespace T2H
open PySem PySem.Spec PyProof.Rows L2 HotX L2H
/-! ### a tuple's targets, zip, a comprehension, all within an except suite -/
section
variable {X : Cx}
theorem pg_tupH {es : List Expr} {k : Nat} {t : TGs} {n : Nat} {pos : Pos} (hc : HotC X) (h : PGs X es t) (hn : (assignEach es X.env).length = n := by rfl) (hst : (assignEach es X.env).findIdx? (·.1) = none := by rfl) : PG X (.Tuple es k pos) (gTup X.K n t) := by
  refine ⟨fun pins s σ H v u Q I r ⟨a, xs, e1, hq, hl, hw⟩ => ?_⟩
  subst e1
  cases r
  obtain ⟨its, rv, ht, hz⟩ := I.tuple hq
  obtain ⟨x1, hot⟩ := hc.at I
  have hsz : (assignEach es X.env).length = its.toArray.size := by rw [hn, ← hl, List.size_toArray, rv.length]
  rw [assign_Tuple]
  refine wpAny_bind (wpAny_standAt ?_)
  unfold unpack
  rw [hsz, hst]
  refine wpAny_bind (wpAny_holding (items_hot (x1 := x1) hot ht fun h' hx => ?_))
  have I1 : Inv X pins σ H { s with heap := h' } := I.kept (t' := s.toks) fun b o e => hx b o (Nat.ne_of_lt (Heap.lt_size e)) e
  exact h.run pins _ σ H xs _ Q I1 (by simpa using rv) hw
theorem turn_zipH {P : Program} {w : World} {K : PySem.W.Frag} {elts : List Expr} {kk : Nat} {tpos : Pos} {a b z TI TO i1 i2 : Addr} (D : ZipApart z TI TO i1 i2 a b) :
    TurnH P w K (.Tuple elts kk tpos) (Itz K a b) [z, TI, TO, i1, i2] z (fun i h => IsZip h z TI TO .none ∧ IsPair h TI (.ref i1) (.ref i2) ∧ (∃ x y, IsPair h TO x y) ∧ h.IsListIter i1 a i ∧ h.IsListIter i2 b i) where
  mem := (turn_zip (P := P) (w := w) (K := K) (elts := elts) (kk := kk) (tpos := tpos) D).mem
  obj := (turn_zip (P := P) (w := w) (K := K) (elts := elts) (kk := kk) (tpos := tpos) D).obj
  keep := (turn_zip (P := P) (w := w) (K := K) (elts := elts) (kk := kk) (tpos := tpos) D).keep
  self := (turn_zip (P := P) (w := w) (K := K) (elts := elts) (kk := kk) (tpos := tpos) D).self
  item := by
    intro X hP hw hK hc i pins s σ H E I hf st hg
    subst hP hw hK
    obtain ⟨zh, pi, ⟨x0, y0, po⟩, g1, g2⟩ := st
    obtain ⟨xs, ys, x, y, qx, qy, hx, hy⟩ := hg
    obtain ⟨us, ru, pu, _⟩ := I.list qx
    obtain ⟨vs, rv, pv, _⟩ := I.list qy
    obtain ⟨u, hu, r1⟩ := ru.get hx
    obtain ⟨v, hv, r2⟩ := rv.get hy
    have lz : z < s.heap.objs.size := Heap.lt_size zh
    have lt : ∀ c ∈ [z, TI, TO, i1, i2], c < s.heap.objs.size := fun c hm => by
      simp only [List.mem_cons, List.not_mem_nil, or_false] at hm
      rcases hm with q | q | q | q | q
      · rw [q]; exact lz
      · rw [q]; exact Heap.lt_size pi
      · rw [q]; exact Heap.lt_size po
      · rw [q]; exact Heap.lt_size g1.choose_spec.1
      · rw [q]; exact Heap.lt_size g2.choose_spec.1
    refine wpAny_pyNext_zip_item D zh pi po g1 g2 pu.isList pv.isList (x := u) (y := v) (by simpa using hu) (by simpa using hv) fun ha za ta g1a g2a pa _ ka => ⟨_, rfl, wpAny_letOwnedTupleGo_zip (s := { s with heap := ha }) za fun hb zb sb => ?_⟩
    have pb : hb.get? s.heap.objs.size = some { cls := .type "tuple", data := .seq #[u, v] } := (sb.2 _ (Nat.ne_of_gt lz)).trans pa
    have kb : ∀ c o, c ∉ [z, TI, TO, i1, i2] → s.heap.get? c = some o → hb.get? c = some o := fun c o hm q => by
      simp only [List.mem_cons, List.not_mem_nil, or_false, not_or] at hm
      exact (sb.2 c hm.1).trans (ka c o hm.1 hm.2.2.1 hm.2.2.2.1 hm.2.2.2.2 q)
    have I1 : Inv X pins σ (upd H s.heap.objs.size (.tup [x, y])) { s with heap := hb } :=
      I.turnedNew (t' := s.toks) (ch := [z, TI, TO, i1, i2]) kb hf (Nat.le_refl _) ⟨by show 2 ≤ sizeLine; decide, [u, v], .cons r1 (.cons r2 .nil), ⟨_, pb, rfl, _, rfl⟩⟩
    refine ⟨.ref s.heap.objs.size, _, I1, rfl, ⟨_, x, y, rfl, I.hok.fresh (Nat.le_refl _), rfl, fun l hl => by rw [I.list_inj hl qx]; exact hx, fun l hl => by rw [I.list_inj hl qy]; exact hy⟩, ⟨zb, ?_, ⟨u, v, (sb.2 _ D.TOz).trans ta⟩, g1a.at fun o q => (sb.2 _ D.i1z).trans q, g2a.at fun o q => (sb.2 _ D.i2z).trans q⟩, fun c hm => ?_⟩
    · exact (sb.2 _ D.TIz).trans (ka _ _ D.TIz D.TITO D.TIi1 D.TIi2 pi)
    · rw [upd_ne (Nat.ne_of_lt (lt c hm))]
      exact (hf c hm).1
  done := by
    intro X hP hw hK hc i pins s σ H E I hf st hg
    subst hP hw hK
    obtain ⟨zh, pi, ⟨x0, y0, po⟩, g1, g2⟩ := st
    obtain ⟨xs, ys, qx, qy, hend⟩ := hg
    obtain ⟨us, ru, pu, _⟩ := I.list qx
    obtain ⟨vs, rv, pv, _⟩ := I.list qy
    have l1 := ru.length
    have l2 := rv.length
    have he : us.toArray[i]? = none ∨ vs.toArray[i]? = none := by
      rcases hend with q | q
      · exact .inl (by simp; omega)
      · exact .inr (by simp; omega)
    obtain ⟨p, ⟨hh, w1, e1, c1⟩, hp⟩ := hc
    have P1 := I.pin p (List.mem_append_left _ hp)
    have nx : ∀ c ∈ [z, TI, TO, i1, i2], p.1 ≠ c := fun c hm q => (hf c hm).2.2.2.2.2 p (List.mem_append_left _ hp) q
    exact zip_next_hot (x1 := p.1) ⟨hh, p.2, w1, P1.1, e1, c1⟩ ⟨nx z (by simp), nx TO (by simp), nx i1 (by simp), nx i2 (by simp)⟩ D zh pi po g1 g2 pu.isList pv.isList he fun h' hk =>
      ⟨rfl, I.turnedL (t' := s.toks) (ch := [z, TI, TO, i1, i2]) (fun c o hb q => by
        simp only [List.mem_cons, List.not_mem_nil, or_false, not_or] at hb
        exact hk c o hb.1 hb.2.2.1 hb.2.2.2.1 hb.2.2.2.2 q) hf⟩
theorem pi_zipH {e e2 : Expr} {ta : TA} {p pos tpos : Pos} {elts : List Expr} {kk : Nat} (hg : Gl X "zip") (hm : X.mg "zip" = none) (ha : PA X [e, e2] ta)
    (hs : starEach [e, e2] X.env = (false, eval e X.env) :: starEach [e2] X.env := by rfl) (hpl : (backTo pos (starEach [e2] X.env)).any (·.1) = false := by rfl) : PIH X (.Tuple elts kk tpos) (.Call (.Name "zip" p) [e, e2] [] pos) (iZip X.K ta) := by
  refine ⟨fun pins s σ H R I h => Call_ (ld_blt I hg hm PyProof.Rows.boot_zip (PyProof.Rows.callWith_type1 (thn (ha.run pos pins s σ H _ I h) fun us s1 ⟨vs, H1, I1, r1, a, b, xs, ys, ex, qx, qy, q⟩ => ?_) hs hpl))⟩
  subst ex
  obtain ⟨u, rr, rfl, ru, rest⟩ : ∃ u rr, us = u :: rr ∧ RelV (.ref a) u ∧ Vals [.ref b] rr := by cases r1 with | cons p q => exact ⟨_, _, rfl, p, q⟩
  obtain ⟨v, rfl, rv⟩ : ∃ v, rr = [v] ∧ RelV (.ref b) v := by cases rest with | cons p q => cases q; exact ⟨_, rfl, p⟩
  cases ru
  cases rv
  obtain ⟨its, r2, p1, _⟩ := I1.list qx
  obtain ⟨its2, r3, p2, _⟩ := I1.list qy
  refine call_zip_2 p1.isList p2.isList fun h' hz hTI hTO g1 g2 _ hk => wpAny_pyIter_zip hz ?_
  have I2 : Inv X pins σ H1 { s1 with heap := h' } := I1.kept (t' := s1.toks) hk
  refine ⟨s1.heap.objs.size + 4, [s1.heap.objs.size + 4, s1.heap.objs.size + 2, s1.heap.objs.size + 3, s1.heap.objs.size, s1.heap.objs.size + 1], _, _, H1, rfl, I2, turn_zipH (PySem.W.ktu_apart s1.heap.objs.size a b p1.lt p2.lt), ⟨hz, hTI, ⟨_, _, hTO⟩, g1, g2⟩, fun c hm => ?_, q⟩
  have hle : s1.heap.objs.size ≤ c := by
    simp only [List.mem_cons, List.not_mem_nil, or_false] at hm
    rcases hm with z | z | z | z | z <;> (rw [z]; first | exact Nat.le_refl _ | exact Nat.le_add_right _ _)
  exact I1.fpOk hle (I1.hok.fresh hle)
/-- a block's context that bears what its surroundings pin -/
abbrev blkH (X : Cx) (s : Shared) (H : Hp) (scope : Scope) (cenv : Env) (fp : List Addr) : Cx := { X.blk s H scope cenv fp with pn := X.pn }
theorem blkH_of {s0 : Shared} {H0 : Hp} {scope : Scope} {cenv : Env} {fp : List Addr} {σ : L2.St} {H : Hp} {s : Shared} (I : Inv (X.blk s0 H0 scope cenv fp) [] σ H s) (hp : ∀ p ∈ X.pn, s.heap.get? p.1 = some p.2 ∧ H p.1 = none ∧ p.1 ≠ cenv.locals ∧ p.1 ∉ frs X.stack ∧ ∀ v, p.2.data ≠ .cell v) :
    Inv (blkH X s0 H0 scope cenv fp) [] σ H s := by
  obtain ⟨ok, a2, a3, a4, a5, a6, a7, a8, a9, a10, a11⟩ := I
  obtain ⟨o1, o2, o3, o4, o5, o6, o7, o8, o9, o10, o11, o12, o13, o14, o15, o16, o17, o18⟩ := ok
  refine ⟨⟨o1, o2, o3, o4, o5, o6, o7, o8, o9, o10, o11, o12, o13, o14, o15, o16, o17, o18⟩, a2, a3, a4, a5, a6, a7, a8, fun p hm => ?_, a10, a11⟩
  exact hp p (by simpa using (show p ∈ X.pn ++ ([] : List (Addr × Obj)) from hm))
theorem pe_lcH {elt tg iter : Expr} {ifs : List Expr} {scope : Scope} {own : List (Str × Nat)} {pos : Pos} {wi : TI} {g : TG} {tt : TT} {te : TE} (hc : HotC X) (hN : X.N.Nodup) (hi : PIH X tg iter wi) (ok : BlkOk X.N X.env.scope scope own)
    (hg : ∀ (s : Shared) (H : Hp) (C : Addr) (cl : List (Str × Addr)) (fp : List Addr), PG (blkH X s H scope (compEnvC scope cl C X.env) fp) tg g) (ht : ∀ (s : Shared) (H : Hp) (C : Addr) (cl : List (Str × Addr)) (fp : List Addr), PTs (blkH X s H scope (compEnvC scope cl C X.env) fp) ifs tt)
    (he : ∀ (s : Shared) (H : Hp) (C : Addr) (cl : List (Str × Addr)) (fp : List Addr), PE (blkH X s H scope (compEnvC scope cl C X.env) fp) elt te) (hs : ∀ x, foldedSetIterable iter X.env x = pure x := by intro _; rfl) :
    PE X (.ListComp elt [⟨tg, iter, ifs, 0⟩] scope pos) (tLc wi g tt te (own.map (·.2))) := by
  refine ⟨fun pins s σ H Q I h => ?_⟩
  rw [eval_ListComp]
  have hfree : ∀ y ∈ scope.names, y.2 = .free → ∃ c, X.env.cells.lookup y.1 = some c := fun y hy e => (ok.free y hy e).elim (fun k => I.ok.has _ (.inl k)) fun k => I.ok.has _ (.inr k)
  refine wpAny_comprehension_free (use := none) rfl hs (closure_ok hfree) ok.kind (fun y hy e => by rw [ok.uniq y hy, e]) (thn (hi.run pins s σ H _ I h) fun xv s1 hx => thn hx fun itv s2 ⟨it, fp, tn, J, Ha, e, Ia, T, sta, fa, q⟩ => ?_)
  subst e
  refine wpAny_newObj_type (newEnv_comp ?_) (by show 0 ≤ sizeLine; decide)
  -- the new list, at D
  obtain ⟨D, hD⟩ : ∃ D, D = s2.heap.objs.size := ⟨_, rfl⟩
  obtain ⟨W, ⟨m0, w0⟩, turn⟩ := q D (Ia.hok.fresh (Nat.le_of_eq hD.symm))
  rw [← hD]
  have kD : ∀ b o, s2.heap.get? b = some o → (s2.heap.push { cls := .type "list", data := .seq ([] : List Value).toArray }).get? b = some o := fun b o e => Heap.get?_push_of_some _ e
  have gD : (s2.heap.push { cls := .type "list", data := .seq ([] : List Value).toArray }).get? D = some { cls := .type "list", data := .seq ([] : List Value).toArray } := by rw [hD]; exact Heap.get?_push_size _ rfl
  have Ib : Inv X pins σ (upd Ha D (.lst [])) { s2 with heap := s2.heap.push { cls := .type "list", data := .seq ([] : List Value).toArray } } := Ia.laid (t' := s2.toks) kD (Nat.le_of_eq hD.symm) ⟨Nat.zero_le _, [], 0, .nil, gD⟩
  have szD : (s2.heap.push { cls := .type "list", data := .seq ([] : List Value).toArray }).objs.size = s2.heap.objs.size + 1 := Heap.size_push ..
  have fb : ∀ b ∈ fp, FpOk X pins (upd Ha D (.lst [])) b ∧ b < (s2.heap.push { cls := .type "list", data := .seq ([] : List Value).toArray }).objs.size := fun b hb => by
    obtain ⟨o, e, _⟩ := T.obj _ _ sta b hb
    have lt := Heap.lt_size e
    exact ⟨⟨by rw [upd_ne (by rw [hD]; exact Nat.ne_of_lt lt)]; exact (fa b hb).1, (fa b hb).2⟩, by rw [szD]; exact Nat.lt_succ_of_lt lt⟩
  generalize hsb : s2.heap.push { cls := .type "list", data := .seq ([] : List Value).toArray } = hpb at Ib fb kD gD szD ⊢
  have Ic := block_start Ib ok hN fb
  have pinb : ∀ p ∈ X.pn, (pushCells (hpb.push { cls := .type "dict", data := .dict #[] }) scope.names).get? p.1 = some p.2 ∧ (upd Ha D (.lst [])) p.1 = none ∧ p.1 ≠ (compEnvC scope (cellsFrom (hpb.objs.size + 1) scope.names (cloFrom X.env.cells scope.names [])) hpb.objs.size X.env).locals ∧ p.1 ∉ frs X.stack ∧ ∀ v, p.2.data ≠ .cell v := fun p hp => by
    have P := Ib.pin p (List.mem_append_left _ hp)
    refine ⟨pushCells_keeps _ _ _ _ (Heap.get?_push_of_some _ P.1), P.2.1, ?_, fun hm => (List.mem_cons.mp (Ib.stkSub p.1 hm)).elim P.2.2.1 P.2.2.2.1, P.2.2.2.2⟩
    show p.1 ≠ hpb.objs.size
    exact Nat.ne_of_lt (Heap.lt_size P.1)
  have Id := blkH_of Ic pinb
  obtain ⟨sb, esb⟩ : ∃ x : Shared, x = { s2 with heap := hpb } := ⟨_, rfl⟩
  have zsb : sb.heap = hpb := by rw [esb]
  obtain ⟨B0, eB0⟩ : ∃ x : Hp, x = upd Ha D (.lst []) := ⟨_, rfl⟩
  rw [← eB0] at Ib Id fb pinb
  obtain ⟨cl, ecl⟩ : ∃ x, x = cellsFrom (hpb.objs.size + 1) scope.names (cloFrom X.env.cells scope.names []) := ⟨_, rfl⟩
  have q1 := hg sb B0 hpb.objs.size cl fp; have q2 := ht sb B0 hpb.objs.size cl fp
  have q3 := he sb B0 hpb.objs.size cl fp
  rw [← ecl] at pinb ⊢
  obtain ⟨sc, esc⟩ : ∃ x : Shared, x = { s2 with heap := pushCells (hpb.push { cls := .type "dict", data := .dict #[] }) scope.names } := ⟨_, rfl⟩
  have Ie : Inv (blkH X sb B0 scope (compEnvC scope cl hpb.objs.size X.env) fp) [] (wipe σ (own.map (·.2))) B0 sc := by rw [esb, ecl, esc]; exact Id
  have t0 : tn 0 sc.heap := T.keep _ _ _ sta fun b _ o e => by rw [esc]; exact pushCells_keeps _ _ _ _ (Heap.get?_push_of_some _ (kD b o e))
  rw [← eB0] at w0
  show codeAny _ _ (.compStart (.ListComp elt [⟨tg, iter, ifs, 0⟩] scope pos) 0 (.ref it) (.ref D) (compEnvC scope cl hpb.objs.size X.env)) _ { s2 with heap := pushCells (hpb.push { cls := .type "dict", data := .dict #[] }) scope.names }
  rw [← esc]
  obtain ⟨cv, ecv⟩ : ∃ x, x = compEnvC scope cl hpb.objs.size X.env := ⟨_, rfl⟩
  have lcv : cv.locals = hpb.objs.size := by rw [ecv]; rfl
  rw [← ecv] at q1 q2 q3 Ie ⊢
  have hcB : HotC (blkH X sb B0 scope cv fp) := hc
  have offB : ∀ {σ' : L2.St} {H' : Hp} {s' : Shared}, Inv (blkH X sb B0 scope cv fp) [] σ' H' s' → (∀ b ∈ fp, H' b = none) → ∀ b ∈ fp, FpOk (blkH X sb B0 scope cv fp) [] H' b := by
    intro σ' H' s' J hn b hb
    refine ⟨hn b hb, (J.ok.exf b hb).1, J.ok.exfs b hb, .inl hb, fun x c e => (J.ok.exf b hb).2 x c e, fun p hp => ?_⟩
    have hp' : p ∈ X.pn := by simpa using (show p ∈ X.pn ++ ([] : List (Addr × Obj)) from hp)
    exact (fa b hb).2.2.2.2.2 p (List.mem_append_left _ hp')
  have outB : ∀ {σ' : L2.St} {H' : Hp} {s' : Shared}, Inv (blkH X sb B0 scope cv fp) [] σ' H' s' → Q (.ref D) H' → compPost (model X.prog X.w) X.A X.xe none (EP X pins σ Q) (.ref D) hpb.objs.size (.ok .next) s' := by
    intro σ' H' s' J hq
    have K1 : Inv X pins σ H' s' := Ib.call' (ch := fp) (by rw [J.os]; show sb.os = _; rw [esb]) (by have := J.base; rw [esb] at this; exact this) J.hok J.bare fun b hb => ⟨(fb b hb).1.2.2.2.1, (fb b hb).1.2.1, (fb b hb).1.2.2.2.2.1, (fb b hb).1.2.2.2.2.2⟩
    have fr : H' hpb.objs.size = none := by have z : H' cv.locals = none := J.free; rw [lcv] at z; exact z
    obtain ⟨m, hn, _⟩ := J.loc
    have hn' : s'.heap.Ns cv.locals m := hn
    rw [lcv] at hn'
    obtain ⟨f0, f1, f2, f3, f4, f5⟩ := Ib.fpOk (Nat.le_refl _) fr
    exact ⟨m, hn', fun h'' up => ⟨.ref D, H', K1.turned (t' := s'.toks) (fun b o hb e => (up.2 b hb).trans e) f0 f1 f3 f4 f5, rfl, hq⟩⟩
  have run : codeAny (model X.prog X.w) X.A (.compLoop (.ListComp elt [⟨tg, iter, ifs, 0⟩] scope pos) 0 (.ref it) (.ref D) cv) (compPost (model X.prog X.w) X.A X.xe none (EP X pins σ Q) (.ref D) hpb.objs.size) sc := by
    refine compLoop_any (fun m s' => ∃ i G, Inv (blkH X sb B0 scope cv fp) [] (wipe σ (own.map (·.2))) G s' ∧ tn i s'.heap ∧ (∀ b ∈ fp, G b = none) ∧ W i m G) ?_ m0 ⟨0, B0, Ie, t0, fun b hb => (fb b hb).1.1, w0⟩
    rintro m sd ⟨i, G, If, td, nd, wd⟩
    rcases turn i m G wd with ⟨stop, hq⟩ | ⟨go, Nx, dn, step⟩
    · refine thnF (T.done (blkH X sb B0 scope cv fp) rfl rfl rfl hcB i [] sd _ G (fun _ _ => False) If (offB If nd) td stop) fun r se ⟨hr, Ig⟩ => ?_
      subst hr; exact outB Ig hq
    · refine thnF (T.item (blkH X sb B0 scope cv fp) rfl rfl rfl hcB i [] sd _ G (fun _ _ => False) If (offB If nd) td go) fun r se ⟨u, hr, h6⟩ => ?_
      subst hr
      refine thnF h6 fun _ sf ⟨x, G1, Ig, rx, yx, tf, nf⟩ => thnF (q1.run _ sf _ G1 x u _ (Ig.pinned (offB Ig nf) (T.obj _ _ tf)) rx (step x G1 yx)) fun _ sg ⟨σg, Gg, Ih, hw, hq⟩ => thnF (q2.run _ sg σg Gg _ Ih hq) fun b sh ⟨Gh, Ii, q9⟩ => ?_
      have close : ∀ {s' : Shared} {H' : Hp}, Inv (blkH X sb B0 scope cv fp) ([] ++ pinsAt fp sf.heap) σg H' s' → Nx H' → ∃ m', m' < m ∧ ∃ i' G', Inv (blkH X sb B0 scope cv fp) [] (wipe σ (own.map (·.2))) G' s' ∧ tn i' s'.heap ∧ (∀ b ∈ fp, G' b = none) ∧ W i' m' G' := by
        intro s' H' J nx
        obtain ⟨m', lt, w'⟩ := dn H' nx
        have pf : ∀ b ∈ fp, ∀ o, sf.heap.get? b = some o → s'.heap.get? b = some o ∧ H' b = none := fun b hb o e => ⟨(J.pin (b, o) (List.mem_append_right _ (List.mem_append_right _ (mem_pinsAt hb e)))).1, (J.pin (b, o) (List.mem_append_right _ (List.mem_append_right _ (mem_pinsAt hb e)))).2.1⟩
        refine ⟨m', lt, i + 1, H', (J.unpinned (pins := [])).weak (by rw [← hw, wipe_length]) (fun j v e => (wipe_some (by rw [← hw] at e; exact e)).1), T.keep _ _ _ tf fun b hb o e => (pf b hb o e).1, fun b hb => ?_, w'⟩
        obtain ⟨o, e, _⟩ := T.obj _ _ tf b hb
        exact (pf b hb o e).2
      cases b with
      | false => exact close Ii (by simpa using q9)
      | true =>
        have q9' := q9; simp only [if_true] at q9' ⊢
        refine thnF (q3.run _ sh σg Gh _ Ii q9') fun z si ⟨yv, Gi, Ij, ry, acc, gd, ln, nx⟩ => app_ok (X := blkH X sb B0 scope cv fp) Ij gd ln ry fun sj Ik => close Ik nx
  exact codeAny_compStart_list run (T.self X.A 0 _ _ _ t0 run)
end
end T2H

namespace T2
open L2 PySem PySem.Spec PyProof.Rows

/-! ### own exceptions -/
theorem takesN {X : Cx} : L2N.Takes X WN := fun _ _ x => by
  obtain ⟨_, _, _, _, _, _, _, _, _, _, _, _, _, _, _, _, w⟩ := x; exact w.elim
def sRaise (x : Str) : SM := fun ρ P => P.ex { name := x } ρ
/-- an own class over ValueError, without __init__ -/
structure OwnX (K : PySem.W.Frag) (mg : Str → Option Value) (x : Str) : Prop where
  ex : ∃ C : Addr, mg x = some (.ref C) ∧ PySem.W.excIn K C He.veBase "ValueError.__new__" = true ∧ PySem.W.keepIn K (.ref C) = true ∧ PySem.W.subIn K (.ref C) (.type "BaseException") = some true ∧ PySem.W.typeIn K (.ref C) = some (.type "type")
section
variable {X : Cx} {W : WX} {ios : List Nat} {σ0 : St} {Γ : List Ty} {C : TC}
theorem s_raise {x m : Str} {j : Nat} {p p2 pos pos2 : Pos} (o : OwnX X.K X.mg x) (hc : X.calm = true) (tk : L2N.Takes X W) (hg : Gl X x) (hx : tyLe Γ C.ex = true := by rfl) (hdb : (x == ("__debug__" : Str)) = false := by decide) :
    SOk X W ios σ0 Γ (.Raise (some (.Call (.Name x p) [.Constant (.str m) j p2] [] pos)) none pos2) C (sRaise x) := by
  obtain ⟨c, gC, q, kC, h1, h2⟩ := o.ex
  refine ⟨PS.imp (L2N.ps_raise hc tk (L2N.pmk_own PySem.F.excBase_ValueError q gC kC (raises_own h1 h2) hg hdb)) fun D σ H ⟨F, S, ρ, P, w, io, hp, cn⟩ => ?_⟩
  obtain ⟨F1, s1, w1⟩ := w.weak hx
  exact cn.ex _ ρ hp F1 H σ (.ref c) none ⟨s1, fun _ _ => rfl⟩ io ⟨gC, rfl⟩ w1
/-- what a bot slot holds is all one -/
theorem Wd.free {K : PySem.W.Frag} {F H : Hp} {S : AS} {Γ : List Ty} {σ : St} {ρ : List D} {bs : List Addr} {i : Nat} (w : Wd K F H S Γ σ ρ bs) (h : Γ[i]? = some .bot) (o : Option V) : Wd K F H S Γ (σ.set i o) ρ bs := by
  obtain ⟨as, r, nd, f⟩ := w.ex
  refine ⟨w.sub, w.out, as, ?_, nd, f⟩
  clear nd f w
  induction r generalizing i with
  | nil => simp at h
  | @cons t o1 d as Γ σ ρ cs h1 h2 ih =>
    cases i with
    | zero =>
      simp only [List.getElem?_cons_zero, Option.some.injEq] at h
      subst h
      exact .cons h1 h2
    | succ i => exact .cons h1 (ih (by simpa using h))
def free1 (Γ : List Ty) (i : Nat) : Bool := match Γ[i]? with
  | none => true
  | some t => isBot t
theorem Wd.free1 {K : PySem.W.Frag} {F H : Hp} {S : AS} {Γ : List Ty} {σ : St} {ρ : List D} {bs : List Addr} {i : Nat} (w : Wd K F H S Γ σ ρ bs) (h : T2.free1 Γ i = true) (o : Option V) : Wd K F H S Γ (σ.set i o) ρ bs := by
  unfold T2.free1 at h
  cases q : Γ[i]? with
  | none =>
    have hl : σ.length ≤ i := by rw [← w.len.1]; exact List.getElem?_eq_none_iff.mp q
    rw [List.set_eq_of_length_le hl]
    exact w
  | some t =>
    rw [q] at h
    cases t <;> first
      | exact w.free q o
      | cases h
/-- try: body, except K as e: suite; xs: what the body may raise, each of that class; slot i is e's -/
def sTry (i : Nat) (xs : List Str) (b : SM) (su : Str → Nat → SM) : SM := fun ρ P => b ρ { P with ex := fun x ρ' => x.num = none ∧ x.name ∈ xs ∧ ∀ a : Nat, su x.name a (ρ'.set i (.int a)) { P with ex := fun _ _ => False } }
theorem s_try (i : Nat) (xs : List Str) (Γe : List Ty) {x n : Str} {c : Value} {body suite : List Stmt} {b₀ : Stmt} {np pos pos' : Pos} {mb : SM} {ms : Str → Nat → SM} (hs : X.stack = X.env :: X.outer) (hf : X.env.frame = some X.env.locals) (hN : X.N.Nodup) (hcn : Names X x c) (tk : L2N.Takes X W)
    (hcat : ∀ y ∈ xs, ∃ C : Addr, X.mg y = some (.ref C) ∧ PySem.W.exmOne X.K (.ref C) c = some true)
    (hb : ∀ (W' : WX) (pn : List (Addr × Obj)) (xe : Value → Shared → Prop), L2N.Takes (X.tr pn xe) W' → PassesOwn (model X.prog X.w) X.A X.env xe → BOk (X.tr pn xe) W' ios σ0 Γ body { C with ex := Γe } mb)
    (hsu : ∀ y ∈ xs, ∀ (a : Addr) (oe : Obj) (Dc : Addr) (pn : List (Addr × Obj)), X.mg y = some (.ref Dc) → L2N.Zn (.ref Dc) none oe → (∃ vs, oe.data = .fields vs) → BOk (X.suite a ((a, oe) :: pn)) WN ios σ0 (Γe.set i .xh) (b₀ :: suite) C (ms y a))
    (hi : X.N[i]? = some n := by rfl) (hln : X.env.kindOf n = some .local := by rfl) (hlt : i < Γe.length := by decide) (hio : ios.contains i = false := by rfl) (h1 : T2.free1 C.nx i = true := by rfl) (h2 : T2.free1 C.bk i = true := by rfl) (h3 : T2.free1 C.ct i = true := by rfl) :
    SOk X W ios σ0 Γ (.Try body [.ExceptHandler (some (.Name x np)) (some n) (b₀ :: suite) pos'] [] [] pos) C (sTry i xs mb ms) := by
  refine ⟨PS.imp (L2N.ps_try_as (tb := fun W' => liftS X W' ios σ0 Γ { C with ex := Γe } mb) (ts := fun a cls d D σ H => ∃ y ∈ xs, X.mg y = some cls ∧ d = none ∧ liftS X WN ios σ0 (Γe.set i .xh) C (ms y a) D σ H) hs hf hN hi hln hcn tk
    (fun W' pn xe t p => PSs.imp (hb W' pn xe t p).ps fun D σ H ⟨F, S, ρ, P, w, io, hp, cn⟩ => ⟨F, S, ρ, P, w, io, hp, ⟨cn.nx, cn.rt, cn.bk, cn.ct, cn.ex⟩⟩) (fun a oe cls d pn z hv => ⟨fun pins s σ H D I ⟨y, hy, e, ed, q⟩ => ?_⟩)) fun D σ H ⟨F, S, ρ, P, w, io, hp, cn⟩ => ?_⟩
  · obtain ⟨Cy, e1, _⟩ := hcat y hy
    rw [e] at e1; cases e1
    subst ed
    obtain ⟨F, S, ρ, P, w, io, hp, cn⟩ := q
    exact (hsu y hy a oe Cy pn e z hv).ps.run pins s σ H D I ⟨F, S, ρ, P, w, io, hp, ⟨cn.nx, cn.rt, cn.bk, cn.ct, cn.ex⟩⟩
  · refine ⟨F, S, ρ, _, w, io, hp, ⟨cn.nx, cn.rt, cn.bk, cn.ct, fun x ρ' ⟨hn, hm, ha⟩ F' H' σ' cls dx g io' hr w' => ?_⟩⟩
    obtain ⟨Cy, e1, e2⟩ := hcat _ hm
    have r1 := hr.1; have r2 := hr.2
    rw [hn] at r2
    have r2 : dx = none := r2
    rw [e1] at r1; cases r1
    refine ⟨true, e2, fun _ a na => ⟨x.name, hm, e1, r2, F', S, _, _, Wd.put (cs := []) (bs := []) (t := .xh) (v := .ref a) (d := .int a) w' (List.getElem?_eq_getElem hlt) (⟨a, rfl, rfl, rfl⟩), io'.set hio, ha a, ?_⟩, fun z => by cases z⟩
    have c2 := cn.later g
    exact ⟨fun ρ2 h F2 H2 σ2 g2 i2 w2 => c2.nx ρ2 h F2 H2 _ g2 (i2.set hio) (w2.free1 h1 none), fun d ρ2 h F2 H2 σ2 v bs g2 i2 r w2 => c2.rt d ρ2 h F2 H2 σ2 v bs g2 i2 r w2, fun ρ2 h F2 H2 σ2 g2 i2 w2 => c2.bk ρ2 h F2 H2 _ g2 (i2.set hio) (w2.free1 h2 none),
      fun ρ2 h F2 H2 σ2 g2 i2 w2 => c2.ct ρ2 h F2 H2 _ g2 (i2.set hio) (w2.free1 h3 none), fun _ _ z => z.elim⟩
end
end T2

namespace T2
open L2 PySem PySem.Spec PyProof.Rows

/-! ### a def that an except suite calls -/
structure FnX (P : Program) (w : World) (K : PySem.W.Frag) (mg : Str → Option Value) (base : Heap) (k : Nat) (x : Str) (ins outs : List Ty) (ret : Ty) (G : Addr × Obj → Prop) (sem : Nat → TD) : Prop where
  ex : ∃ (f : Addr) (fd : FuncData) (ps : List Str), mg x = some (.ref f) ∧ PySem.W.keepIn K (.ref f) = true ∧ Binds K fd ps [] ∧ ps.length = ins.length ∧
    ∀ (A : Around) (out : List Env) (s : Shared) (H : Hp) (as : Args) (us : List Value) (vs : List V) (Q : VK) (E : XK) (p : Addr × Obj), G p → L2H.RoomH k A → L2H.Hot1 A p → L2H.PinOk out H s p → Env0 P w K mg base A out s H → BindsTo s fd as (ps.zip us) → Vals vs us → spD K mg ins outs ret (sem p.1) vs H Q E →
      codeAny (model P w) A (.call (.ref f) as) (CR (L2N.CX P w) out P w H s Q E) s
theorem FnX.mono {P : Program} {w : World} {K : PySem.W.Frag} {mg : Str → Option Value} {base : Heap} {j k : Nat} {x : Str} {ins outs : List Ty} {ret : Ty} {G : Addr × Obj → Prop} {sem : Nat → TD} (h : FnX P w K mg base j x ins outs ret G sem) (hk : j ≤ k) : FnX P w K mg base k x ins outs ret G sem :=
  let ⟨f, fd, ps, a, b, c, d, r⟩ := h.ex
  ⟨f, fd, ps, a, b, c, d, fun A out s H as us vs Q E p g rm => r A out s H as us vs Q E p g (rm.mono hk)⟩
theorem FnX.imp {P : Program} {w : World} {K : PySem.W.Frag} {mg : Str → Option Value} {base : Heap} {k : Nat} {x : Str} {ins outs : List Ty} {ret : Ty} {G : Addr × Obj → Prop} {sem sem' : Nat → TD} (h : FnX P w K mg base k x ins outs ret G sem) (hs : ∀ p, G p → ∀ ds q e, sem' p.1 ds q e → sem p.1 ds q e) : FnX P w K mg base k x ins outs ret G sem' :=
  let ⟨f, fd, ps, a, b, c, d, r⟩ := h.ex
  ⟨f, fd, ps, a, b, c, d, fun A out s H as us vs Q E p g rm h1 h2 h3 h4 h5 ⟨l, F, S, ds, q, e, w, z, y⟩ => r A out s H as us vs Q E p g rm h1 h2 h3 h4 h5 ⟨l, F, S, ds, q, e, w, hs p g _ _ _ z, y⟩⟩
section
variable {X : Cx} {W : WX} {Γx Γ Γ1 Γ' : List Ty} {e : Expr} {es : List Expr} {τs ins outs : List Ty} {ret : Ty} {tr : TL} {k : Nat} {x : Str} {p pos : Pos}
theorem e_callX {G : Addr × Obj → Prop} {sem : Nat → TD} (p0 : Addr × Obj) (fn : FnX X.prog X.w X.K X.mg X.base k x ins outs ret G sem) (hG : G p0) (hot : L2H.Hot1 X.A p0) (hin : p0 ∈ X.pn) (tk : L2N.Takes X W) (hr : L2H.RoomH k X.A) (hg : Gl X x) (ha : AOk X W Γx Γ (e :: es) Γ1 τs tr) (hi : insT Γ1 τs = ins := by rfl)
    (ho : okT Γ1 τs = true := by rfl) (hΓ : Γ' = putT (takeT Γ1 τs) τs outs := by rfl) (hx : tyLe Γ' Γx = true := by rfl)
    (hp : plainTy ret = true := by rfl) (hdb : (x == ("__debug__" : Str)) = false := by decide) (he : starEach (e :: es) X.env = (false, eval e X.env) :: starEach es X.env := by rfl) (hpl : (backTo pos (starEach es X.env)).any (·.1) = false := by rfl) :
    EOk X W Γx Γ (.Call (.Name x p) (e :: es) [] pos) Γ' ret (tCallD τs outs (sem p0.1) tr) := by
  obtain ⟨f, fd, ps, hm, hk, hb, hl, run⟩ := fn.ex
  refine ⟨⟨fun pins s σ H Q I h => ?_⟩⟩
  have h' := call_pure hi ho hΓ hx hp h
  refine wpAny_Call_Name_kw (ld_glob I hg hm ?_ hdb)
  refine PySem.W.callWith_K (h₀ := X.base) I.ok.mod.kin hk (thn (ha.pa.run pos pins s σ H _ I h') fun us s1 ⟨vs, H1, I1, r, q⟩ => ⟨I1.kIn, ?_⟩) he hpl
  have P1 := I1.pin p0 (List.mem_append_left _ hin)
  have lu : us.length = ps.length := by rw [← r.length, hl]; exact q.1
  have bd := hb s1 us I1.kIn (by rw [List.append_nil]; exact lu)
  rw [List.append_nil] at bd
  refine wpAny_call (codeAny_mono (run X.A X.stack s1 H1 ⟨us, []⟩ us vs Q _ p0 hG hr hot ⟨P1.1, P1.2.1, fun hm => (List.mem_cons.mp (I1.stkSub p0.1 hm)).elim P1.2.2.1 P1.2.2.2.1, P1.2.2.2.2⟩ I1.env0 bd r q) fun r2 s' hq => ?_)
  cases r2 with
  | error ev => exact L2N.passAt tk σ pins H1 s1 ev s' I1 hq
  | ok fl => cases fl <;> first
      | exact I1.after hq
      | exact hq.elim
end
section
variable {x : Str} {k : Nat} {ins outs : List Ty} {ret : Ty}
theorem fnX_ok {P : Program} {w : World} {K : PySem.W.Frag} {mg : Str → Option Value} {base : Heap} {qual : Str} {params : Arguments} {body : List Stmt} {scope : Scope} {kws : List (Str × V)} {f : Addr} {fd : FuncData} {N ps : List Str} {ios : List Nat} {G : Addr × Obj → Prop} {sm : Nat → SM} (n : Nat)
    (FD : FunD K x qual params body scope [] kws f fd) (hm : mg x = some (.ref f)) (S : FnScope N ps scope)
    (hbind : ∀ (kV doc pm : Value) (an : Option Addr) (cdv ct : Value) (us : List Value), us.length = ps.length → bindArgs (PySem.W.fnOf x qual params body scope .none kV doc pm an cdv ct) ⟨us, []⟩ = pure (ps.zip us))
    (hb : ∀ (cdv : Value) (A : Around) (outer : List Env) (s : Shared) (H : Hp) (E : XK) (σ0 : St) (p : Addr × Obj), G p → L2H.Hot1 A p →
      BOk (L2H.cxH (L2N.CX P w) P w K mg base N qual scope f cdv A outer s H E p) (fun cls d _ H' => E cls d H') ios σ0 (ins ++ List.replicate n .bot) body (tcOf n outs ret) (sm p.1))
    (hN : N.length = ps.length + n) (hi : ins.length = ps.length) (hol : outs.length = ps.length) (hio : iosOk outs ios = true) : FnX P w K mg base (k + 1) x ins outs ret G (fun a => semOf n outs (nulls ret) (sm a)) := by
  refine ⟨f, fd, ps, hm, FD.kp, FD.bindsN hbind, hi.symm, fun A out s H as us vs Q E p hG rm hot pin e0 bd r hsp => ?_⟩
  obtain ⟨oc, od, dV, kV, doc, pm, an, cdv, ct, osl, rfl, lk, hcd, _, _⟩ := FD.ex
  obtain ⟨hl, F, S', ds, q, e, w0, hs, hq, he⟩ := hsp
  have hl : vs.length = ps.length := hl.trans hi
  have kin : K.In s.heap := e0.mod.kin.keeps fun b o e => (e0.bs b o e).1
  have kindL : ∀ y ∈ ps.zip us, scope.names.lookup y.1 = some .local ∨ (scope.names.lookup y.1 = some .cell ∧ ((cellsFrom (s.heap.objs.size + 1) scope.names []).lookup y.1).isSome = true) := fun ⟨n, v⟩ hy => (S.par n (List.of_mem_zip hy).1).imp id fun c => ⟨c, PySem.W.cellsFrom_some _ _ _ (.inl c)⟩
  refine codeAny_call_function rm.depth (kin _ _ lk) rfl S.co S.gen rfl (PySem.W.codeRec_of kin hcd) (bd _ _ _ _ (wpAny_newFunctionEnv_cells S.kind kindL fun env hen s1 ic => ?_))
  subst hen
  refine ⟨(e0.mod.nolimit.keeps fun b o e => (e0.bs b o e).1).keeps ic.toInCall.keep, codeAny_func ?_⟩
  have I := L2H.inv_startH (CX := L2N.CX P w) (E := E) (qual := qual) (f := f) (cd := cdv) S pin e0 hl r ic
  have est : L2.start N vs = vs.map some ++ List.replicate n none := by
    unfold L2.start
    have : N.length - vs.length = n := by omega
    rw [this]
  rw [est] at I
  have hlo : (vs.map some).length = outs.length := by rw [List.length_map]; omega
  refine wpAny_mono ((hb cdv A out s H E (vs.map some ++ List.replicate n none) p hG hot).ps.run [] s1 _ H { nx := fun _ H' => Q .non H', rt := Q } I
    ⟨F, S', ds ++ List.replicate n PyData.none, { nx := fun ρ' => nulls ret = true ∧ q .none (sel outs ρ'), rt := fun d ρ' => q d (sel outs ρ'), bk := fun _ => False, ct := fun _ => False, ex := fun x ρ' => e x (sel outs ρ') }, w0.start n, fun _ _ => rfl, hs,
      ⟨fun ρ' h F' H' σ' g io w' => ?_, fun d ρ' h F' H' σ' v bs g io r w' => ?_, fun _ h => h.elim, fun _ h => h.elim, fun xx ρ' h F' H' σ' cls dx g io hrel w' => ?_⟩⟩) (fun fl s' hsx => ?_) fun _ _ z => z
  · obtain ⟨ρ1, e1, w1⟩ := Wd.stop (us := vs.map some) w' io hio hlo
    have h : nulls ret = true ∧ q PyData.none (sel outs ρ') := h
    rw [← e1] at h
    refine hq .none ρ1 h.2 F' H' .non [] g ?_ w1
    have h0 := h.1
    cases ret <;> first
      | (simp [nulls] at h0; done)
      | (simp [Rp, Fz]; done)
  · obtain ⟨ρ1, e1, w1⟩ := Wd.stop (us := vs.map some) w' io hio hlo
    have h : q d (sel outs ρ') := h
    rw [← e1] at h
    exact hq d ρ1 h F' H' v bs g r w1
  · obtain ⟨ρ1, e1, w1⟩ := Wd.stop (us := vs.map some) w' io hio hlo
    have h : e xx (sel outs ρ') := h
    rw [← e1] at h
    exact he xx ρ1 h F' H' cls dx g hrel w1
  · cases fl with
    | next =>
      obtain ⟨σ', H', J, q⟩ := hsx
      exact ⟨V.non, H', J.os, J.bare, J.base, J.hok, rfl, q⟩
    | ret u =>
      obtain ⟨v, σ', H', J, rv, q⟩ := hsx
      exact ⟨v, H', J.os, J.bare, J.base, J.hok, rv, q⟩
    | brk =>
      obtain ⟨_, _, _, z⟩ := hsx
      exact z.elim
    | cont =>
      obtain ⟨_, _, _, z⟩ := hsx
      exact z.elim
end
end T2

namespace T2
open L2 PySem PySem.Spec PyProof.Rows

/-! ### zip of two lists -/
def zipT (xs ys : List D) : List D := List.zipWith (fun a b => PyData.tuple [a, b]) xs ys
def tZip (tr : TL) : TL := fun ρ q E => tr ρ (fun ds ρ' => ∃ xs ys, ds = [.list xs, .list ys] ∧ q (zipT xs ys) ρ') E
theorem itD_zip {K : PySem.W.Frag} {S : AS} {F H : Hp} {a b : Addr} {us vs : List V} {xs ys : List D} (sb : Sub F H) (ha : SqL K F a us) (hb : SqL K F b vs) (r1 : FzL K F xs us) (r2 : FzL K F ys vs) : ItD K (Itz K a b) S F H (zipT xs ys) where
  go := fun F' H' s s' i hi => by
    unfold zipT at hi; rw [List.length_zipWith] at hi
    obtain ⟨v, e, _⟩ := r1.get (List.getElem?_eq_getElem (show i < xs.length by omega))
    obtain ⟨v2, e2, _⟩ := r2.get (List.getElem?_eq_getElem (show i < ys.length by omega))
    exact ⟨us, vs, v, v2, s'.sql (s.fz.sql ha), s'.sql (s.fz.sql hb), e, e2⟩
  stop := fun F' H' s s' => by
    have l1 := r1.length; have l2 := r2.length
    refine ⟨us, vs, s'.sql (s.fz.sql ha), s'.sql (s.fz.sql hb), ?_⟩
    unfold zipT; rw [List.length_zipWith]; omega
  yld := fun F' H' S' Γ σ ρ bs s hs w i x H2 hi ⟨T, x1, x2, e, n, e2, h1, h2⟩ => by
    subst e; subst e2
    obtain ⟨d1, q1, f1⟩ := r1.getV (h1 us (w.sub.sql (s.fz.sql ha)))
    obtain ⟨d2, q2, f2⟩ := r2.getV (h2 vs (w.sub.sql (s.fz.sql hb)))
    obtain ⟨w2, s2⟩ := w.allocF (o := .tup [x1, x2]) n
    refine ⟨.tuple [d1, d2], _, ?_, w.grF n, w2, ?_⟩
    · unfold zipT; rw [List.getElem?_zipWith, q1, q2]
    · simp only [Fz]
      exact ⟨T, [x1, x2], rfl, SqT.of upd_same, ⟨x1, [x2], rfl, (f1.mono s.fz).mono s2, ⟨x2, [], rfl, (f2.mono s.fz).mono s2, rfl⟩⟩⟩
section
variable {X : Cx} {W : WX} {Γx Γ Γ1 Γ2 Γ3 Γ4 Γb Γ' : List Ty} {e e2 : Expr} {tr : TL} {p pos tpos : Pos} {elts ifs es : List Expr} {kk : Nat} {tg elt iter : Expr} {ti : TL} {g : GM} {tc : TB} {te : TD} {ios : List Nat} {σ0 : St} {gs : GMs}
theorem zip_pure {σ : St} {H : Hp} {R : It → Hp → Prop} (h : liftI X W Γx Γ Γ1 (tZip tr) σ H R) : iZip X.K (liftA X W Γx Γ Γ1 [.fz, .fz] tr) σ H R := by
  obtain ⟨F, S, ρ, Qd, Ed, w, q, p, px⟩ := h
  refine ⟨F, S, ρ, _, Ed, w, q, fun ds ρ' ⟨xs, ys, ed, hq⟩ F' H' vs bs g r w' => ?_, px⟩
  subst ed
  obtain ⟨r1, rfl⟩ := r.fz rfl
  obtain ⟨v1, vr, rfl, f1, v2, vr2, rfl, f2, e3⟩ := r1
  cases e3
  simp only [Fz] at f1 f2
  obtain ⟨a, us, rfl, h1, h2⟩ := f1
  obtain ⟨b, ws, rfl, h3, h4⟩ := f2
  exact ⟨a, b, us, ws, rfl, w'.sub.sql h1, w'.sub.sql h3, p _ ρ' hq F' H' _ g w' (itD_zip w'.sub h1 h3 h2 h4)⟩
theorem i_zip (hg : Gl X "zip") (hm : X.mg "zip" = none) (ha : AOk X W Γx Γ [e, e2] Γ1 [.fz, .fz] tr)
    (hs : starEach [e, e2] X.env = (false, eval e X.env) :: starEach [e2] X.env := by rfl) (hpl : (backTo pos (starEach [e2] X.env)).any (·.1) = false := by rfl) : IOk X W Γx Γ (.Tuple elts kk tpos) (.Call (.Name "zip" p) [e, e2] [] pos) Γ1 (tZip tr) :=
  ⟨PI.imp (pi_zip hg hm ha.pa hs hpl) fun σ H R h => zip_pure h⟩
/-! ### the same within an except suite -/
structure IOkH (X : Cx) (W : WX) (Γx Γ : List Ty) (tg iter : Expr) (Γ' : List Ty) (t : TL) : Prop where
  pi : L2H.PIH X tg iter (liftI X W Γx Γ Γ' t)
theorem i_zipH (hg : Gl X "zip") (hm : X.mg "zip" = none) (ha : AOk X W Γx Γ [e, e2] Γ1 [.fz, .fz] tr)
    (hs : starEach [e, e2] X.env = (false, eval e X.env) :: starEach [e2] X.env := by rfl) (hpl : (backTo pos (starEach [e2] X.env)).any (·.1) = false := by rfl) : IOkH X W Γx Γ (.Tuple elts kk tpos) (.Call (.Name "zip" p) [e, e2] [] pos) Γ1 (tZip tr) :=
  ⟨⟨fun pins s σ H R I h => (T2H.pi_zipH hg hm ha.pa hs hpl).run pins s σ H R I (zip_pure h)⟩⟩
theorem g_tupH (n : Nat) {k} (hc : L2H.HotC X) (h : GsOk X ios σ0 Γ es Γ' gs) (hn : (assignEach es X.env).length = n := by rfl) (hst : (assignEach es X.env).findIdx? (·.1) = none := by rfl) : GOk X ios σ0 Γ (.Tuple es k pos) Γ' (gT n gs) := by
  refine ⟨PG.imp (T2H.pg_tupH hc h.pg hn hst) fun v σ H Q ⟨F, S, ρ, d, q, w, io, r, hq, f⟩ => ?_⟩
  cases d with
  | tuple ds =>
    simp only [Fz] at r
    obtain ⟨a, vs, rfl, r1, r2⟩ := r
    exact ⟨a, vs, rfl, w.sub.sqt r1, by rw [← r2.length]; exact hq.1, F, S, ρ, ds, q, w, io, r2, hq.2, f⟩
  | _ => exact hq.elim
theorem e_lcH {scope : Scope} {pos : Pos} (own : List (Str × Nat)) (hc : L2H.HotC X) (hN : X.N.Nodup) (hi : IOkH X W Γx Γ tg iter Γ1 ti) (ok : BlkOk X.N X.env.scope scope own)
    (hg : ∀ (s : Shared) (H : Hp) (C : Addr) (cl : List (Str × Addr)) (fp : List Addr) (σ0 : St), GOk (T2H.blkH X s H scope (compEnvC scope cl C X.env) fp) (rest Γb.length (own.map (·.2))) σ0 Γb tg Γ2 g)
    (ht : ∀ (s : Shared) (H : Hp) (C : Addr) (cl : List (Str × Addr)) (fp : List Addr), COk (T2H.blkH X s H scope (compEnvC scope cl C X.env) fp) Γ2 ifs Γ3 tc)
    (he : ∀ (s : Shared) (H : Hp) (C : Addr) (cl : List (Str × Addr)) (fp : List Addr), EOk (T2H.blkH X s H scope (compEnvC scope cl C X.env) fp) WN Γ3 Γ3 elt Γ4 .fz te)
    (hlen : Γ2.length = Γb.length := by rfl) (hb : botAt Γb (own.map (·.2)) = true := by rfl) (hl : tyLe Γ1 Γb = true := by rfl) (h3 : tyLe Γ3 Γb = true := by rfl) (h4 : tyLe Γ4 Γb = true := by rfl) (hs : ∀ x, foldedSetIterable iter X.env x = pure x := by intro _; rfl) :
    EOk X W Γx Γ (.ListComp elt [⟨tg, iter, ifs, 0⟩] scope pos) Γb .ow (tLC ti g tc te) :=
  ⟨PE.imp (T2H.pe_lcH (g := fun v σ H Q => liftG X (rest Γb.length (own.map fun p : Str × Nat => p.2)) σ Γb Γ2 g v σ H Q) (tt := liftT X WN Γ2 Γ2 Γ3 tc) (te := liftE X WN Γ3 Γ3 Γ4 .fz te) hc hN hi.pi ok (fun s H C cl fp => ⟨fun pins s' σ H' v u Q I r q => (hg s H C cl fp σ).pg.run pins s' σ H' v u Q I r q⟩) (fun s H C cl fp => (ht s H C cl fp).pt) (fun s H C cl fp => (he s H C cl fp).pe) hs) fun σ H Q h => lc_pure hlen hb hl h3 h4 h⟩
end
end T2

namespace T2
open L2 PySem PySem.Spec PyProof.Rows

/-! ### the handled exception looked at; texts joined -/
section
variable {X : Cx} {W : WX} {Γx Γ Γ1 Γ' : List Ty}
theorem call_isX {D : Addr} {q : Addr × Obj} (hin : q ∈ X.pn) (C : ExcC X.K D) (hz : L2N.Zn (.ref D) none q.2) (hf : ∃ vs, q.2.data = .fields vs) : CallR X (.builtin "isinstance") (rIsE X.K D q.1) := by
  intro pins s σ H xs us Q I r h
  obtain ⟨c, cv, b, ex, hcv, e, q1⟩ := h
  subst ex
  obtain ⟨u1, u2, rfl, r1, r2⟩ := vals2 r
  obtain rfl : u1 = Value.ref q.1 := r1
  rw [hcv u2 r2]
  have hget := (I.pin q (List.mem_append_left _ hin)).1
  have J : PySem.W.InstAt s.heap q.1 q.2 D none := by
    obtain ⟨a, oc, od, oda, osl⟩ := q
    obtain ⟨vs, hv⟩ := hf
    obtain ⟨h1, h2, _⟩ := hz
    dsimp only at h1 h2 hv; subst h1 h2 hv
    exact ⟨hget, rfl, rfl, trivial⟩
  exact PySem.W.kia_one (PySem.W.handS_kitx_exc C.hg C.hk C.hs C.hd C.ha C.hn C.ht C.hm) I.kIn J e (fun z => nomatch z) fun tk => ⟨.bl b, H, I.kept (t' := tk) fun _ _ z => z, rfl, q1⟩
theorem e_isE (i : Nat) {D : Addr} {q : Addr × Obj} {x y : Str} {ce : Expr} {p py pos : Pos} {cv : V} {cu : Value} (b : Bool) (hin : q ∈ X.pn) (C : ExcC X.K D) (hz : L2N.Zn (.ref D) none q.2) (hf : ∃ vs, q.2.data = .fields vs) (hce : PE X ce (tC cv)) (hcu : ∀ u, RelV cv u → u = cu) (hk : PySem.W.kitOne X.K (.ref D) cu = some b)
    (hg : Gl X x) (hm : X.mg x = none) (hv : bootBuiltins x = some (.builtin "isinstance")) (hti : Γ[i]? = some .xh := by rfl) (hN : X.N[i]? = some y := by rfl) (hvi : Vis X.env.scope y := by first | exact Or.inl rfl | exact Or.inr (Or.inl rfl) | exact Or.inr (Or.inr rfl))
    (hdy : (y == ("__debug__" : Str)) = false := by decide) (hcd : (y == ("__classdict__" : Str)) = false := by decide) (hn : x ≠ "__name__" := by decide) (hdb : (x == ("__debug__" : Str)) = false := by decide)
    (he : starEach (.Name y py :: [ce]) X.env = (false, eval (.Name y py) X.env) :: starEach [ce] X.env := by rfl) (hec : starEach (ce :: []) X.env = (false, eval ce X.env) :: starEach [] X.env := by rfl) (hpl : (backTo pos (starEach [ce] X.env)).any (·.1) = false := by rfl) :
    EOk X W Γx Γ (.Call (.Name x p) [.Name y py, ce] [] pos) Γ .fz (fun ρ Q _ => rd ρ i = .int q.1 ∧ Q (.bool b) ρ) := by
  refine ⟨PE.imp (pe_callB (call_isX hin C hz hf) hg hm hv (pa_cons (pe_var hN hvi hdy hcd) (pa_cons hce pa_nil hec) he) hn hdb he hpl) fun σ H Q ⟨F, S, ρ, Qd, Ed, w, ⟨hr, hq⟩, pp, px⟩ => ?_⟩
  obtain ⟨as, r, _, _⟩ := w.ex
  obtain ⟨o, d, b1, rest, e1, e2, e3, _⟩ := r.focus hti
  obtain ⟨v, rfl, e3⟩ := e3
  simp only [Rp] at e3
  obtain ⟨a, rfl, rfl, _⟩ := e3
  have ed : rd ρ i = .int (a : Nat) := by unfold rd; rw [List.getD_eq_getElem?_getD, e2]; rfl
  rw [hr] at ed
  have ea : a = q.1 := Int.ofNat_inj.mp (by simpa using ed.symm)
  subst ea
  exact ⟨_, e1, cv, cu, b, rfl, hcu, hk, pp _ ρ hq F H _ [] .refl ⟨rfl, rfl⟩ w⟩
theorem FzL.strs {K : PySem.W.Frag} {F : Hp} : ∀ {ys : List Str} {vs : List V}, FzL K F (ys.map PyData.str) vs → vs = ys.map V.str
  | [], _, h => by simpa [FzL] using h
  | y :: ys, _, h => by
    obtain ⟨v, r, rfl, h1, h2⟩ := h
    rw [List.map_cons, FzL.strs h2]
    have : v = .str y := h1
    rw [this]
def tJoin (z : Str) (τ : Ty) (t : TD) : TD := fun ρ Q E => t ρ (fun d ρ' => ∃ ys : List Str, see τ ρ' d = .list (ys.map .str) ∧ (ys.map (·.length)).sum + ys.length * z.length ≤ 16777216 ∧ Q (.str (Txt.join z ys)) ρ') E
theorem e_join {z : Str} {k : Nat} {e : Expr} {pz apos pos : Pos} {τ : Ty} {t : TD} (he : EOk X W Γx Γ e Γ' τ t) (ho : opd Γ' τ = true := by rfl) (hs : starEach [e] X.env = [(false, eval e X.env)] := by rfl) (hbase : attributeBase (.Constant (.str z) k pz) "join" X.env (eval (.Constant (.str z) k pz) X.env) = eval (.Constant (.str z) k pz) X.env := by rfl)
    (hline : (apos.endLine == pos.line) = true := by rfl) : EOk X W Γx Γ (.Call (.Attribute (.Constant (.str z) k pz) "join" apos) [e] [] pos) Γ' .fz (tJoin z τ t) := by
  refine ⟨PE.imp (pe_join pe_str he.pe hs hbase hline) fun σ H Q ⟨F, S, ρ, Qd, Ed, w, q, pp, px⟩ => ⟨⟨z, rfl⟩, F, S, ρ, _, Ed, w, q, fun d ρ' ⟨ys, e1, hl, hq⟩ F' H' v bs g r w' => ?_, px⟩⟩
  have vw := w'.view ho r
  rw [e1] at vw
  obtain ⟨a, vs, rfl, h1, h2⟩ := vw.list
  exact ⟨z, a, ys, rfl, rfl, .inl (by rw [← FzL.strs h2]; exact h1), hl, pp _ ρ' hq F' H' _ [] g ⟨rfl, rfl⟩ w'.drop0⟩
end
end T2

namespace T2
open L2 PySem PySem.Spec PyProof.Rows

/-! ### what the head tells of own exceptions -/
/-- ys: own classes that are raised; cs: classes that isinstance asks for; top: the class of the clauses -/
structure XT where
  ys : List Str
  cs : List Str
  top : Str
  isa : Str → Str → Bool
def cvl (K : PySem.W.Frag) (c : Str) : Value := if c == ("ValueError" : Str) then .type "ValueError" else .ref (He.ga K c)
def ecB (K : PySem.W.Frag) (D : Addr) : Bool :=
  decide (PySem.W.findIn K (.ref D) "__getattribute__" = some (some (.builtin "BaseException.__getattribute__"))) && (decide (PySem.W.findIn K (.ref D) "__getattr__" = some none) && (decide (PySem.W.subIn K (.ref D) (.type "BaseException") = some true) && (PySem.W.hasDictIn K D &&
    (decide (PySem.W.findIn K (.ref D) "__class__" = some (some (.builtin "object.__class__"))) && (decide (PySem.W.specialIn K (.builtin "object.__class__") "__get__" = some (some (.builtin "getset_descriptor.__get__"))) && (decide (PySem.W.takesIn K (.builtin "object.__class__") = some true) && decide (PySem.W.mroIn K D (.type "object") = some true)))))))
theorem ecB_ok {K : PySem.W.Frag} {D : Addr} (h : ecB K D = true) : ExcC K D := by
  simp only [ecB, Bool.and_eq_true, decide_eq_true_eq] at h
  obtain ⟨a, b, c, d, e, f, g, i⟩ := h
  exact ⟨a, b, c, d, e, f, g, i⟩
def XT.okY (x : XT) (K : PySem.W.Frag) (y : Str) : Bool :=
  (He.Fa.glo y).ok K && ((He.Fa.exc y).ok K && ((He.Fa.exm y x.top true).ok K && ((He.Fa.exm y y true).ok K && (ecB K (He.ga K y) && x.cs.all fun c => decide (PySem.W.kitOne K (.ref (He.ga K y)) (cvl K c) = some (x.isa y c))))))
def XT.ok (x : XT) (K : PySem.W.Frag) : Bool := x.ys.all (x.okY K)
/-- what a walk is told of them -/
structure XFacts (x : XT) (K : PySem.W.Frag) (mg : Str → Option Value) : Prop where
  own : ∀ y ∈ x.ys, OwnX K mg y
  cat : ∀ y ∈ x.ys, mg y = some (.ref (He.ga K y)) ∧ PySem.W.exmOne K (.ref (He.ga K y)) (.ref (He.ga K x.top)) = some true
  self : ∀ y ∈ x.ys, mg y = some (.ref (He.ga K y)) ∧ PySem.W.exmOne K (.ref (He.ga K y)) (.ref (He.ga K y)) = some true
  exc : ∀ y ∈ x.ys, ExcC K (He.ga K y)
  kit : ∀ y ∈ x.ys, ∀ c ∈ x.cs, PySem.W.kitOne K (.ref (He.ga K y)) (cvl K c) = some (x.isa y c)
theorem XT.facts {x : XT} {K : PySem.W.Frag} {h : Heap} {mg : Str → Option Value} (X : K.In h) (G : h.Ns mainGlobals mg) (c : x.ok K = true) : XFacts x K mg := by
  have go : ∀ y ∈ x.ys, mg y = some (.ref (He.ga K y)) ∧ OwnX K mg y ∧ PySem.W.exmOne K (.ref (He.ga K y)) (.ref (He.ga K x.top)) = some true ∧ PySem.W.exmOne K (.ref (He.ga K y)) (.ref (He.ga K y)) = some true ∧ ExcC K (He.ga K y) ∧ ∀ c ∈ x.cs, PySem.W.kitOne K (.ref (He.ga K y)) (cvl K c) = some (x.isa y c) := fun y hy => by
    have z := List.all_eq_true.mp c y hy
    unfold XT.okY at z
    obtain ⟨z1, z⟩ := He.ba z
    obtain ⟨z2, z⟩ := He.ba z
    obtain ⟨z3, z⟩ := He.ba z
    obtain ⟨z3', z⟩ := He.ba z
    obtain ⟨z4, z5⟩ := He.ba z
    have e := He.glo_ok X G z1
    obtain ⟨a1, a2, a3, a4⟩ := He.exc_ok z2
    exact ⟨e, ⟨⟨_, e, a1, a2, a3, a4⟩⟩, He.exm_ok z3, He.exm_ok z3', ecB_ok z4, fun c hc => of_decide_eq_true (List.all_eq_true.mp z5 c hc)⟩
  exact ⟨fun y hy => (go y hy).2.1, fun y hy => ⟨(go y hy).1, (go y hy).2.2.1⟩, fun y hy => ⟨(go y hy).1, (go y hy).2.2.2.1⟩, fun y hy => (go y hy).2.2.2.2.1, fun y hy => (go y hy).2.2.2.2.2⟩
theorem XFacts.one {x : XT} {K : PySem.W.Frag} {mg : Str → Option Value} (f : XFacts x K mg) {y : Str} (hy : y ∈ x.ys) : ∀ z ∈ [y], ∃ D : Addr, mg z = some (.ref D) ∧ PySem.W.exmOne K (.ref D) (.ref (He.ga K y)) = some true := fun z hz => by
  rw [List.mem_singleton] at hz
  subst hz
  exact ⟨_, f.self z hy⟩
def obsXG (n : Nat) (fa : List He.Fa) (fn : List He.DefD) (tb : List (Str × List He.Dv)) (x : XT) (g : Addr → Option Obj) : He.AlD × Bool := (He.obsD fa fn (He.frG g (He.asD g n)), tbOk tb (He.frG g (He.asD g n)) && x.ok (He.frG g (He.asD g n)))
def SaysX (fa : List He.Fa) (fn : List He.DefD) (tb : List (Str × List He.Dv)) (x : XT) (K : PySem.W.Frag) : Prop := SaysB fa fn tb K ∧ x.ok K = true
def hookX (n : Nat) (fa : List He.Fa) (fn : List He.DefD) (tb : List (Str × List He.Dv)) (x : XT) : PySem.W.Hook where
  α := He.AlD × Bool
  obs := fun s => obsXG n fa fn tb x s.heap.get?
  val := fun _ => (He.valD fn, true)
  says := fun _ h => ∃ K : PySem.W.Frag, K.In h ∧ SaysX fa fn tb x K
  of := fun _ _ e => ⟨_, He.frG_in, ⟨(Prod.mk.inj e).1, (He.ba (Prod.mk.inj e).2).1⟩, (He.ba (Prod.mk.inj e).2).2⟩
  keeps := fun _ _ _ ⟨K, hK, c⟩ k => ⟨K, PySem.W.Frag.In.keeps hK k, c⟩
theorem obsXG_eq {n : Nat} {fa : List He.Fa} {fn : List He.DefD} {tb : List (Str × List He.Dv)} {x : XT} {g : Addr → Option Obj} {s : Shared} (h : ∀ a, g a = s.heap.get? a) : obsXG n fa fn tb x g = (hookX n fa fn tb x).obs s := by
  have e : g = s.heap.get? := funext h
  rw [e] <;> rfl
def isaF (y c : Str) : Bool := y == c || c == ("ValueError" : Str)
/-! ### in a suite -/
/-- the handled one is of the class y -/
def GX (K : PySem.W.Frag) (y : Str) (p : Addr × Obj) : Prop := L2N.Zn (.ref (He.ga K y)) none p.2 ∧ ∃ vs, p.2.data = .fields vs
def tIsE (i a : Nat) (b : Bool) : TD := fun ρ Q _ => rd ρ i = .int a ∧ Q (.bool b) ρ
section
variable {X : Cx} {W : WX} {Γx Γ : List Ty}
theorem hotA {A : Around} {a : Addr} {oe : Obj} {cls : Value} (hz : L2N.Zn cls none oe) (hv : ∃ vs, oe.data = .fields vs) : L2H.Hot1 (A.mark (some (.ref a))) (a, oe) := ⟨rfl, hv.imp fun vs e => ⟨e, hz.2.2 vs e⟩⟩
theorem gx_of {x : XT} {y : Str} (xf : XFacts x X.K X.mg) (hy : y ∈ x.ys) {p : Addr × Obj} {D : Addr} (hD : X.mg y = some (.ref D)) (hz : L2N.Zn (.ref D) none p.2) (hv : ∃ vs, p.2.data = .fields vs) : GX X.K y p := by
  have e := (xf.cat y hy).1
  rw [hD] at e
  cases e
  exact ⟨hz, hv⟩
theorem e_xh (i : Nat) {x : Str} {pos : Pos} (hti : Γ[i]? = some .xh := by rfl) (hN : X.N[i]? = some x := by rfl) (hv : Vis X.env.scope x := by first | exact Or.inl rfl | exact Or.inr (Or.inl rfl) | exact Or.inr (Or.inr rfl)) (hd : (x == ("__debug__" : Str)) = false := by decide) (hcd : (x == ("__classdict__" : Str)) = false := by decide) :
    EOk X W Γx Γ (.Name x pos) Γ (.pk i) (tPk i) := by
  refine ⟨PE.imp (pe_var hN hv hd hcd) fun σ H Q ⟨F, S, ρ, Qd, Ed, w, q, p, _⟩ => ?_⟩
  obtain ⟨as, r, _, _⟩ := w.ex
  obtain ⟨o, d', b', rest, e1, e2, ⟨v, e, _⟩, _⟩ := r.focus hti
  subst e
  exact ⟨v, e1, p .none ρ q F H v [] .refl ⟨e1, rfl⟩ w⟩
theorem isE (i : Nat) {x : XT} {y c z w : Str} {q : Addr × Obj} {p py pc pos : Pos} (xf : XFacts x X.K X.mg) (hy : y ∈ x.ys) (g : GX X.K y q) (hin : q ∈ X.pn) (hgc : Gl X c) (hce : (c = ("ValueError" : Str) ∧ X.mg c = none) ∨ (c ≠ ("ValueError" : Str) ∧ X.mg c = some (.ref (He.ga X.K c)))) (hg : Gl X z) (hm : X.mg z = none) (hv : bootBuiltins z = some (.builtin "isinstance"))
    (hcm : c ∈ x.cs := by decide) (hti : Γ[i]? = some .xh := by rfl) (hN : X.N[i]? = some w := by rfl) (hvi : Vis X.env.scope w := by first | exact Or.inl rfl | exact Or.inr (Or.inl rfl) | exact Or.inr (Or.inr rfl))
    (hdy : (w == ("__debug__" : Str)) = false := by decide) (hcd : (w == ("__classdict__" : Str)) = false := by decide) (hn : z ≠ "__name__" := by decide) (hdb : (z == ("__debug__" : Str)) = false := by decide) (hdc : (c == ("__debug__" : Str)) = false := by decide)
    (he : starEach (.Name w py :: [.Name c pc]) X.env = (false, eval (.Name w py) X.env) :: starEach [.Name c pc] X.env := by rfl) (hec : starEach (.Name c pc :: []) X.env = (false, eval (.Name c pc) X.env) :: starEach [] X.env := by rfl) (hpl : (backTo pos (starEach [.Name c pc] X.env)).any (·.1) = false := by rfl) :
    EOk X W Γx Γ (.Call (.Name z p) [.Name w py, .Name c pc] [] pos) Γ .fz (tIsE i q.1 (x.isa y c)) := by
  have k := xf.kit y hy c hcm
  rcases hce with ⟨e, m⟩ | ⟨e, m⟩
  · subst e
    exact e_isE i (cv := .ty "ValueError") (cu := .type "ValueError") _ hin (xf.exc y hy) g.1 g.2 (pe_bltn hgc m PyProof.Rows.Boot.«ValueError» rfl (by decide) hdc) (fun u r => r) k hg hm hv hti hN hvi hdy hcd hn hdb he hec hpl
  · have ec : cvl X.K c = .ref (He.ga X.K c) := by unfold cvl; rw [if_neg (by simpa using e)]
    rw [ec] at k
    exact e_isE i (cv := .ref (He.ga X.K c)) (cu := .ref (He.ga X.K c)) _ hin (xf.exc y hy) g.1 g.2 (pe_glob hgc m rfl hdc) (fun u r => r) k hg hm hv hti hN hvi hdy hcd hn hdb he hec hpl
end
end T2

namespace T2
open L2 PySem PySem.Spec PyProof.Rows

/-! ### sum; an item of a list changed by op=; tuples with an owned part -/
section
variable {X : Cx} {W : WX} {ios : List Nat} {σ0 : St} {Γx Γ Γ1 Γ2 Γ' : List Ty} {C : TC} {e i' : Expr} {es : List Expr} {τs : List Ty} {tr : TL} {t ta : TD} {pos p : Pos}
def oSum (xs : List D) (q : D → Prop) : Prop := ∃ ns : List Int, xs = [.list (ns.map .int)] ∧ q (.int ns.sum)
theorem FzL.ints {K : PySem.W.Frag} {F : Hp} : ∀ {ns : List Int} {vs : List V}, FzL K F (ns.map PyData.int) vs → vs = ns.map V.int
  | [], _, h => by simpa [FzL] using h
  | y :: ys, _, h => by
    obtain ⟨v, r, rfl, h1, h2⟩ := h
    rw [List.map_cons, FzL.ints h2]
    have : v = .int y := h1
    rw [this]
theorem cd_sum (hc : X.calm = true) : CalD X (.builtin "sum") .fz oSum := by
  refine ⟨_, cr_sum hc, fun F H S Γ σ ρ bs xs vs q Q w hx ⟨ns, ex, h⟩ f => ?_⟩
  subst ex
  obtain ⟨v, rfl, hv⟩ := hx.one
  obtain ⟨a, us, rfl, h1, h2⟩ := hv.list
  exact ⟨a, ns, rfl, by rw [← FzL.ints h2]; exact h1, Fin.fz f w h rfl⟩
theorem pget_list : PGet X (rIxL X.K) := by
  intro pins s σ H x y v u Q I rx ry ⟨p, xs, i, z, ex, ey, hq, he, q⟩
  subst ex ey
  obtain rfl : v = Value.ref p := rx
  obtain ⟨t, rfl⟩ := ry
  obtain ⟨its, r, pl, hz⟩ := I.list hq
  obtain ⟨j, h1, h2, h3, h4, h5⟩ := atI_get he
  obtain ⟨w, ew, rw'⟩ := r.get h2
  have hl := r.length; have hn := line63
  rcases (show i < 0 ∨ 0 ≤ i by omega) with h0 | h0
  · have hj : (i + (its.toArray.size : Int)).toNat = j := by
      rw [seqIndex_neg h0 h4] at h1; rw [List.size_toArray, ← hl]; exact Option.some.inj h1
    exact wpAny_getItem_list_neg pl.isList h0 (by rw [List.size_toArray]; omega) (by omega) (by rw [hj]; simpa using ew) ⟨z, H, I, rw', q⟩
  · have hj : i.toNat = j := by
      rw [seqIndex_of h0 h5] at h1; exact Option.some.inj h1
    exact wpAny_getItem_list pl.isList h0 (by omega) (by rw [hj]; simpa using ew) ⟨z, H, I, rw', q⟩
/-- x[i'] op= e, x an owned list in slot i -/
def sAugS (i : Nat) (o : D → D → (D → Prop) → Prop) (ti te : TD) : SM := fun ρ P => ti ρ (fun k ρ1 => ∃ xs n j d, rd ρ1 i = .list xs ∧ k = .int n ∧ ixN xs.length n = some j ∧ xs[j]? = some d ∧
  te ρ1 (fun d2 ρ2 => rd ρ2 i = .list xs ∧ o d d2 fun z => P.nx (wr ρ2 i (.list (xs.set j z)))) P.ex) P.ex
theorem s_augS (i : Nat) {op : Operator} {o : D → D → (D → Prop) → Prop} {x : Str} {px tpos : Pos} (ho : OpD X (inplaceOp op) .fz o) (hi : EOk X W C.ex Γ i' Γ1 .fz ta) (he : EOk X W C.ex Γ1 e C.nx .fz t) (ht : C.nx[i]? = some .ow := by rfl) (ht1 : Γ1[i]? = some .ow := by rfl) (ht0 : Γ[i]? = some .ow := by rfl) (hN : X.N[i]? = some x := by rfl)
    (hv : Vis X.env.scope x := by first | exact Or.inl rfl | exact Or.inr (Or.inl rfl) | exact Or.inr (Or.inr rfl)) (hd : (x == ("__debug__" : Str)) = false := by decide) (hcd : (x == ("__classdict__" : Str)) = false := by decide)
    (ha : ∀ ov iv new, augStore i' ov iv new = (do holding [new, ov, iv] (setItem ov iv new); release [new, ov, iv] []; pure .next) := by intros; rfl) : SOk X W ios σ0 Γ (.AugAssign (.Subscript (.Name x px) i' tpos) op e pos) C (sAugS i o ta t) := by
  obtain ⟨r, hr, hf⟩ := ho
  refine ⟨PS.imp (ps_augS (tget := rIxL X.K) (tip := r) (pe_var hN hv hd hcd) hi.pe pget_list he.pe (fun pins s σ H x y v u Q I rx ry q => hr pins s σ H x y v u Q I rx ry q) set_list ha) fun D σ H ⟨F, S, ρ, P, w, io, q, cn⟩ => ?_⟩
  obtain ⟨v0, cs0, e0, _, _⟩ := w.take ht0 (by intro h; cases h)
  refine ⟨v0, e0, F, S, ρ, _, P.ex, w, q, fun k ρ1 ⟨xs, n, j, d, hx, hk, hj, hd, q1⟩ F1 H1 u bs g1 r1 w1 => ?_, ex_of cn io⟩
  subst hk
  obtain ⟨r1, rfl⟩ := r1
  obtain ⟨l, us, h1, h2, h3, _⟩ := w1.mutL ht1 hx
  rw [h1] at e0
  cases e0
  obtain ⟨dv, hdv, fdv⟩ := h3.get hd
  refine ⟨l, us, n, dv, rfl, r1.int, .inl (.inl h2), by unfold atI; rw [← h3.length, hj]; exact hdv, ?_⟩
  refine ⟨F1, S, ρ1, _, P.ex, w1, q1, fun d2 ρ2 ⟨hx2, q2⟩ F2 H2 u2 bs2 g2 r2 w2 => ?_, ex_of (cn.later g1) io⟩
  obtain ⟨r2, rfl⟩ := r2
  refine hf F2 H2 S C.nx σ ρ2 [] d d2 dv u2 _ _ w2 (Fz.vw w2.sub (fdv.mono g2.fz)) (Fz.vw w2.sub r2) q2 fun z hz F3 H3 y cs g3 rz w3 => ?_
  obtain ⟨rz, rfl⟩ := rz
  have w3 : Wd X.K F3 H3 S C.nx σ ρ2 [] := w3.drop0
  obtain ⟨l3, us3, k1, k2, k3, k4⟩ := w3.mutL ht hx2
  rw [h1] at k1
  cases k1
  obtain ⟨w4, g4⟩ := k4 (xs.set j z) (us3.set j y) (k3.set rz j)
  refine ⟨l, us3, n, j, rfl, r1.int, k2, by rw [← k3.length]; exact hj, cn.nx _ hz F3 _ σ ?_ io w4⟩
  exact ((g1.trans g2 fun _ h => h).trans g3 fun _ => .inl).trans g4 fun _ h => h
end
end T2

namespace T2
open L2 PySem PySem.Spec PyProof.Rows

/-! ### tuples with owned parts -/
theorem RpVs.tp {K : PySem.W.Frag} {F H : Hp} {σ : St} : ∀ {τs : List Ty} {vs : List V} {ds : List D} {bs : List Addr}, τs.all isVal = true → RpVs K F H σ τs vs ds bs → RpT K F H τs vs ds bs
  | [], _, _, _, _, h => by simp only [RpT]; exact h
  | t :: ts, _, _, _, ok, ⟨v, r, d, e, bs, cs, e1, e2, h1, h2, e3⟩ => by
    simp only [List.all_cons, Bool.and_eq_true] at ok
    simp only [RpT]
    exact ⟨v, r, d, e, bs, cs, e1, e2, h1.val ok.1, RpVs.tp ok.2 h2, e3⟩
section
variable {X : Cx} {W : WX} {ios : List Nat} {σ0 : St} {Γx Γ Γ1 Γ2 Γ' : List Ty} {C : TC} {e : Expr} {es : List Expr} {τa τb : Ty} {τs : List Ty} {tr : TL} {t : TD} {pos : Pos}
theorem e_tupT {k} (h : AOk X W Γx Γ es Γ' τs tr) (hf : τs.all isVal = true := by rfl) : EOk X W Γx Γ (.Tuple es k pos) Γ' (.tp τs) (tTup tr) := by
  refine ⟨PE.imp (pe_tup h.pa) fun σ H Q ⟨F, S, ρ, Qd, Ed, w, q, p, px⟩ => ?_⟩
  refine ⟨F, S, ρ, _, Ed, w, q, fun ds ρ' hd F' H' vs bs g r w' => ?_, px⟩
  have r1 := r.tp hf
  have hl : vs.length = ds.length := (RpS.ofT r1).len.2 ▸ by have := (RpS.ofT r1).len.1; simpa using this.symm
  refine ⟨by rw [hl]; exact hd.1, fun l np => ?_⟩
  obtain ⟨w2, s⟩ := w'.allocF (o := .tup vs) np
  refine p _ ρ' hd.2 _ _ (.ref l) bs (g.trans (w'.grF np) fun _ => .inl) ?_ w2
  show Rp X.K (upd F' l (.tup vs)) (upd H' l (.tup vs)) (.tp τs) (.ref l) (.tuple ds) bs
  simp only [Rp]
  exact ⟨l, vs, ds, rfl, rfl, SqT.of upd_same, RpT.mono s τs (fun a ha => upd_ne fun z => RpT.there τs r1 a ha (by rw [z]; exact np)) r1⟩
/-- a, b = e, e's value a tuple of two, owned as told -/
def sUnp (i j : Nat) (t : TD) : SM := fun ρ P => t ρ (fun d ρ' => ∃ x y, d = .tuple [x, y] ∧ P.nx (wr (wr ρ' i x) j y)) P.ex
theorem s_unp (i j : Nat) {x y : Str} {px py pt : Pos} {kt} (hc : X.calm = true) (hN : X.N.Nodup) (he : EOk X W C.ex Γ e Γ1 (.tp [τa, τb]) t) (hnx : C.nx = (Γ1.set i τa).set j τb := by rfl) (hi : X.N[i]? = some x := by rfl) (hj : X.N[j]? = some y := by rfl)
    (hx : Loc X.env.scope x := by first | exact Or.inl rfl | exact Or.inr rfl) (hy : Loc X.env.scope y := by first | exact Or.inl rfl | exact Or.inr rfl) (hfx : X.fn x = true ∨ X.env.scope.names.lookup x = some .local := by first | exact .inl rfl | exact .inr rfl | assumption) (hfy : X.fn y = true ∨ X.env.scope.names.lookup y = some .local := by first | exact .inl rfl | exact .inr rfl | assumption)
    (hli : i < Γ1.length := by decide) (hlj : j < Γ1.length := by decide) (hio : ios.contains i = false := by rfl) (hjo : ios.contains j = false := by rfl)
    (hn : (assignEach [.Name x px, .Name y py] X.env).length = 2 := by rfl) (hst : (assignEach [.Name x px, .Name y py] X.env).findIdx? (·.1) = none := by rfl) (hs1 : (assignEach [.Name x px, .Name y py] X.env).map (·.2) = assign (.Name x px) X.env :: (assignEach [.Name y py] X.env).map (·.2) := by rfl)
    (hs2 : (assignEach [.Name y py] X.env).map (·.2) = assign (.Name y py) X.env :: (assignEach [] X.env).map (·.2) := by rfl)
    (hs : swapsWithSole [.Tuple [.Name x px, .Name y py] kt pt] e pos.line X.env = pure false := by rfl) (hw : swappedStores [.Tuple [.Name x px, .Name y py] kt pt] e X.env = pure none := by rfl)
    (h1 : (assignEach [.Tuple [.Name x px, .Name y py] kt pt] X.env).map (·.2) = [assign (.Tuple [.Name x px, .Name y py] kt pt) X.env] := by rfl) : SOk X W ios σ0 Γ (.Assign [.Tuple [.Name x px, .Name y py] kt pt] e pos) C (sUnp i j t) := by
  refine ⟨PS.imp (ps_asg he.pe (pg_tup hc (pgs_cons (pg_name hN hi hx hfx) (pgs_cons (pg_name hN hj hy hfy) pgs_nil hs2) hs1) hn hst) hs hw h1) fun D σ H ⟨F, S, ρ, P, w, io, q, cn⟩ => ?_⟩
  refine ⟨F, S, ρ, _, P.ex, w, q, fun d ρ1 ⟨dx, dy, ed, q1⟩ F1 H1 v bs g1 r1 w1 => ?_, ex_of cn io⟩
  subst ed
  have r1 : Rp X.K F1 H1 (.tp [τa, τb]) v (.tuple [dx, dy]) bs := r1
  simp only [Rp, RpT] at r1
  obtain ⟨a, vs, ds, rfl, e2, sq, v1, vr, d1, dr, b1, br, rfl, rfl, k1, ⟨v2, vr2, d2, dr2, b2, br2, rfl, rfl, k2, ⟨rfl, rfl, rfl⟩, rfl⟩, rfl⟩ := r1
  cases e2
  refine ⟨a, [v1, v2], rfl, w1.sub.sqt sq, rfl, v1, [v2], rfl, v2, [], rfl, rfl, ?_⟩
  refine cn.nx _ q1 F1 H1 _ g1 ((io.set hio).set hjo) ?_
  rw [hnx]
  have w2 := Wd.put (cs := b1) (bs := b2 ++ []) w1 (List.getElem?_eq_getElem hli) k1
  exact Wd.put (cs := b2) (bs := []) w2 (List.getElem?_eq_getElem (by rw [List.length_set]; exact hlj)) k2
end
end T2

namespace T2
open L2 PySem PySem.Spec PyProof.Rows

/-! ### for over a list that a slot owns: the slot is lent meanwhile -/
section
variable {X : Cx} {W : WX} {ios : List Nat} {σ0 : St} {Γ Γb Γ2 : List Ty} {C : TC} {tg : Expr} {body : List Stmt} {g : GM} {m : SM} {pos : Pos}
theorem for_body {J : It} {F1 H1 : Hp} {S : AS} {σ : St} {ρ1 : List D} {xs : List D} {P : Post} {D : Ends} (J1 : ItD X.K J S F1 H1 xs) (w1 : Wd X.K F1 H1 S Γb σ ρ1 []) (io : Io ios σ0 σ) (f : forD g m xs ρ1 P) (cn : Cn X W ios σ0 { C with nx := Γb, bk := Γb, ct := Γb } F1 H1 S P D) :
    tFor (fun σ H R => R J H) (liftG X ios σ0 Γb Γ2 g) (liftS X W ios σ0 Γ2 { C with nx := Γb, bk := Γb, ct := Γb } m) D σ H1 := by
  refine ⟨fun i n σ' H' => n = xs.length - i ∧ i ≤ xs.length ∧ ∃ F' ρ', Gr S F1 H1 F' H' ∧ Wd X.K F' H' S Γb σ' ρ' [] ∧ Io ios σ0 σ' ∧ forD g m (xs.drop i) ρ' P, ⟨xs.length, by simp, Nat.zero_le _, F1, ρ1, .refl, w1, io, by simpa using f⟩, ?_⟩
  rintro i n σ3 H3 ⟨rfl, hi, F3, ρ3, s3, w3, io3, f3⟩
  by_cases hlt : i < xs.length
  · refine .inr ⟨J1.go F3 H3 s3 w3.sub i hlt, fun σ' H' => ∃ F' ρ', Gr S F1 H1 F' H' ∧ Wd X.K F' H' S Γb σ' ρ' [] ∧ Io ios σ0 σ' ∧ forD g m (xs.drop (i + 1)) ρ' P, fun σ' H' h => ⟨xs.length - (i + 1), by omega, rfl, hlt, h⟩, fun x H4 hy => ?_⟩
    obtain ⟨d, F4, e4, g4, w4, r4⟩ := J1.yld F3 H3 S Γb σ3 ρ3 [] s3 (fun _ h => h) w3 i x H4 hlt hy
    have ed : xs.drop i = d :: xs.drop (i + 1) := by
      rw [List.drop_eq_getElem_cons hlt]
      rw [List.getElem?_eq_getElem hlt] at e4
      cases e4
      rfl
    rw [ed] at f3
    have g34 : Gr S F1 H1 F4 H4 := s3.trans g4 fun _ => .inl
    refine ⟨F4, S, ρ3, d, _, w4, io3, r4, f3, fun ρ5 σ5 h5 io5 w5 => ?_⟩
    have cn4 := cn.later g34
    refine ⟨F4, S, ρ5, _, w5, io5, h5, ⟨fun ρ6 h6 F6 H6 σ6 g6 io6 w6 => ?_, cn4.rt, cn4.nx, fun ρ6 h6 F6 H6 σ6 g6 io6 w6 => ?_, cn4.ex⟩⟩
    · exact ⟨F6, ρ6, g34.trans g6 fun _ h => h, w6, io6, h6⟩
    · exact ⟨F6, ρ6, g34.trans g6 fun _ h => h, w6, io6, h6⟩
  · have e : i = xs.length := by omega
    subst e
    refine .inl ⟨J1.stop F3 H3 s3 w3.sub, ?_⟩
    rw [List.drop_length] at f3
    exact cn.nx ρ3 f3 F3 H3 σ3 s3 io3 w3
def sForP (i : Nat) (g : GM) (b : SM) : SM := fun ρ P => ∃ xs, rd ρ i = .list xs ∧ forD g b xs ρ { nx := fun ρ' => P.nx (wr ρ' i (.list xs)), rt := fun d ρ' => P.rt d (wr ρ' i (.list xs)), bk := fun _ => False, ct := fun _ => False, ex := fun x ρ' => P.ex x (wr ρ' i (.list xs)) }
/-- slot i comes back owned, or is let go -/
def backT (Γ : List Ty) (i : Nat) : Bool := match Γ[i]? with
  | some .ow => true
  | some .bot => true
  | _ => false
theorem Wd.backT {K : PySem.W.Frag} {F H : Hp} {S : AS} {Γ : List Ty} {σ : St} {ρ : List D} {bs : List Addr} {i a : Nat} {us : List V} {xs : List D} (h : T2.backT Γ i = true) (w : Wd K F H S (Γ.set i .bot) σ ρ ([a] ++ bs)) (e : σ[i]? = some (some (.ref a))) (ha : H a = some (.lst us)) (hf : FzL K F xs us) :
    Wd K F H S Γ σ (wr ρ i (.list xs)) bs := by
  unfold T2.backT at h
  cases q : Γ[i]? with
  | none => rw [q] at h; cases h
  | some t =>
    have hi : i < Γ.length := (List.getElem?_eq_some_iff.mp q).1
    have w3 : ∀ t cs, Rp K F H t (.ref a) (.list xs) cs → Wd K F H S (Γ.set i .bot) σ ρ (cs ++ bs) → Wd K F H S (Γ.set i t) σ (wr ρ i (.list xs)) bs := fun t cs r w => by
      have z := Wd.put (cs := cs) (bs := bs) (t := t) (v := .ref a) (d := .list xs) w (List.getElem?_eq_getElem (by rw [List.length_set]; exact hi)) r
      rw [Wd.setσ e, List.set_set] at z
      exact z
    have sm : Γ.set i t = Γ := by
      rw [List.getElem?_eq_getElem hi] at q
      cases q
      exact List.set_getElem_self hi
    rw [q] at h
    rw [← sm]
    cases t with
    | ow => exact w3 .ow [a] (by simp only [Rp]; exact ⟨a, us, rfl, ha, hf, rfl⟩) w
    | bot => exact w3 .bot [] (by simp only [Rp]) w.drop
    | _ => cases h
theorem s_forP (i : Nat) {x : Str} {p : Pos} (Γb : List Ty) (hp : PassesOwn (model X.prog X.w) X.A X.env X.xe) (hc : X.calm = true)
    (hg : ∀ σ1, GOk X (i :: ios) σ1 Γb tg Γ2 g) (hb : ∀ σ1, BOk X W (i :: ios) σ1 Γ2 body { nx := Γb, rt := C.rt.set i .bot, rty := C.rty, bk := Γb, ct := Γb, ex := C.ex.set i .bot } m)
    (hti : Γ[i]? = some .ow := by rfl) (hl : tyLe (Γ.set i .bot) Γb = true := by rfl) (hn : C.nx = Γb.set i .ow := by rfl) (hbi : Γb[i]? = some .bot := by rfl) (hr : T2.backT C.rt i = true := by rfl) (hx : T2.backT C.ex i = true := by rfl)
    (hNi : X.N[i]? = some x := by rfl) (hv : Vis X.env.scope x := by first | exact Or.inl rfl | exact Or.inr (Or.inl rfl) | exact Or.inr (Or.inr rfl)) (hd : (x == ("__debug__" : Str)) = false := by decide) (hcd : (x == ("__classdict__" : Str)) = false := by decide)
    (hs : ∀ y, foldedSetIterable (.Name x p) X.env y = pure y := by intro _; rfl) : SOk X W ios σ0 Γ (.For tg (.Name x p) body [] pos) C (sForP i g m) := by
  refine ⟨⟨fun pins s σ H D I ⟨F, S, ρ, P, w, io, ⟨xs, ex, q⟩, cn⟩ => ?_⟩⟩
  obtain ⟨v, cs, e1, hr1, w1⟩ := w.take hti (by intro h; cases h)
  rw [ex] at hr1
  simp only [Rp] at hr1
  obtain ⟨a, us, rfl, h1, h2, rfl⟩ := hr1
  rw [List.append_nil] at w1
  obtain ⟨F2, s2, w2⟩ := w1.lend0.weak hl
  obtain ⟨nd, ns⟩ := w1.held
  have bk : ∀ {F' H' : Hp} {σ' : St} {ρ' : List PyData} {bs : List Addr} {Γ' : List Ty}, Gr (fun b => S b ∨ b ∈ [a]) F2 H F' H' → Io (i :: ios) σ σ' → T2.backT Γ' i = true → Wd X.K F' H' (fun b => S b ∨ b ∈ [a]) (Γ'.set i .bot) σ' ρ' bs → Wd X.K F' H' S Γ' σ' (wr ρ' i (.list xs)) bs := fun {F' H' σ' ρ' bs Γ'} g io' hb' w' => by
    have wb := w'.back nd ns
    exact Wd.backT hb' wb (by rw [io' i (by simp)]; exact e1) ((g.eq a (.inr (by simp))).trans h1) (h2.mono (s2.trans g.fz))
  have gg : ∀ {F' H' : Hp}, Gr (fun b => S b ∨ b ∈ [a]) F2 H F' H' → Gr S F H F' H' := fun {F' H'} g => ⟨s2.trans g.fz, fun b hb => g.eq b (.inl hb)⟩
  have ii : ∀ {σ' : St}, Io (i :: ios) σ σ' → Io ios σ0 σ' := fun {σ'} h j hj => (h j (List.mem_cons_of_mem _ hj)).trans (io j hj)
  have cb : Cn X W (i :: ios) σ { nx := Γb, rt := C.rt.set i .bot, rty := C.rty, bk := Γb, ct := Γb, ex := C.ex.set i .bot } F2 H (fun b => S b ∨ b ∈ [a]) { nx := fun ρ' => P.nx (wr ρ' i (.list xs)), rt := fun d ρ' => P.rt d (wr ρ' i (.list xs)), bk := fun _ => False, ct := fun _ => False, ex := fun x ρ' => P.ex x (wr ρ' i (.list xs)) } D := by
    refine ⟨fun ρ' h F' H' σ' g io' w' => cn.nx _ h F' H' σ' (gg g) (ii io') ?_, fun d ρ' h F' H' σ' v bs g io' r w' => cn.rt d _ h F' H' σ' v bs (gg g) (ii io') r (bk g io' hr w'), fun _ h => h.elim, fun _ h => h.elim, fun x ρ' h F' H' σ' cls dx g io' xr w' => cn.ex x _ h F' H' σ' cls dx (gg g) (ii io') xr (bk g io' hx w')⟩
    rw [hn]
    refine bk g io' ?_ ?_
    · unfold T2.backT
      rw [List.getElem?_set_self (List.getElem?_eq_some_iff.mp hbi).1]
    · rw [List.set_set]
      have : Γb.set i .bot = Γb := by
        have hi := (List.getElem?_eq_some_iff.mp hbi).1
        rw [List.getElem?_eq_getElem hi] at hbi
        cases hbi2 : Γb[i] with
        | bot => rw [← hbi2]; exact List.set_getElem_self hi
        | _ => rw [hbi2] at hbi; cases hbi
      rw [this]
      exact w'
  have fb := for_body (C := { nx := Γb, rt := C.rt.set i .bot, rty := C.rty, bk := Γb, ct := Γb, ex := C.ex.set i .bot }) (Γ2 := Γ2) (ios := i :: ios) (σ0 := σ) (itD_own (K := X.K) (S := fun b => S b ∨ b ∈ [a]) (F := F2) (H := H) (.inr (by simp)) h1 (h2.mono s2)) w2 (fun _ _ => rfl) q cb
  exact (ps_for hp hc (pi_own (Γ := Γ) i hNi hv hd hcd) (hg σ).pg (hb σ).ps hs).run pins s σ H D I ⟨F, fun b => S b ∨ b ∈ [a], ρ, a, us, xs, w1.lend0, e1, .inr (by simp), h1, h2, fb⟩
end
end T2

namespace T2
open L2 PySem PySem.Spec PyProof.Rows

/-! ### a tuple with owned parts, frozen -/
def frzs (τs : List Ty) : Bool := τs.all fun t => match t with
  | .fz => true
  | .ow => true
  | _ => false
theorem Wd.frzT {K : PySem.W.Frag} {H : Hp} {S : AS} {Γ : List Ty} {σ : St} {ρ : List D} {bs0 : List Addr} : ∀ {τs : List Ty} {F : Hp} {vs : List V} {ds : List D} {bs : List Addr}, frzs τs = true → RpT K F H τs vs ds bs → Wd K F H S Γ σ ρ (bs ++ bs0) → ∃ F2, Sub F F2 ∧ Wd K F2 H S Γ σ ρ bs0 ∧ FzL K F2 ds vs
  | [], F, _, _, _, _, h, w => by
    simp only [RpT] at h
    obtain ⟨rfl, rfl, rfl⟩ := h
    exact ⟨F, .refl _, w, by simp only [FzL]⟩
  | t :: ts, F, _, _, _, ok, h, w => by
    simp only [RpT] at h
    obtain ⟨v, r, d, e, b1, cs, rfl, rfl, h1, h2, rfl⟩ := h
    simp only [frzs, List.all_cons, Bool.and_eq_true] at ok
    obtain ⟨ok1, ok2⟩ := ok
    have step : ∃ F1, Sub F F1 ∧ Wd K F1 H S Γ σ ρ (cs ++ bs0) ∧ Fz K F1 d v := by
      cases t with
      | fz =>
        simp only [Rp] at h1
        obtain ⟨f, rfl⟩ := h1
        exact ⟨F, .refl _, by simpa using w, f⟩
      | ow => exact Wd.frz (cs := b1) (bs := cs ++ bs0) (by rw [← List.append_assoc]; exact w) h1
      | _ => cases ok1
    obtain ⟨F1, s1, w1, f1⟩ := step
    obtain ⟨F2, s2, w2, f2⟩ := Wd.frzT (τs := ts) ok2 (RpT.mono s1 ts (fun _ _ => rfl) h2) w1
    exact ⟨F2, s1.trans s2, w2, by simp only [FzL]; exact ⟨v, r, rfl, f1.mono s2, f2⟩⟩
section
variable {X : Cx} {W : WX} {Γx Γ Γ' : List Ty} {e : Expr} {t : TD} {τs : List Ty}
theorem e_frzT (h : EOk X W Γx Γ e Γ' (.tp τs) t) (hf : frzs τs = true := by rfl) : EOk X W Γx Γ e Γ' .fz t := by
  refine ⟨PE.imp h.pe fun σ H Q ⟨F, S, ρ, Qd, Ed, w, q, p, px⟩ => ⟨F, S, ρ, Qd, Ed, w, q, fun d ρ' hq F' H' v bs g r w' => ?_, px⟩⟩
  have r : Rp X.K F' H' (.tp τs) v d bs := r
  simp only [Rp] at r
  obtain ⟨a, vs, ds, rfl, rfl, sq, r⟩ := r
  obtain ⟨F2, s, w2, f⟩ := Wd.frzT (bs0 := []) hf r (by rw [List.append_nil]; exact w')
  refine p _ ρ' hq F2 H' (.ref a) [] ⟨g.fz.trans s, g.eq⟩ ⟨?_, rfl⟩ w2
  simp only [Fz]
  exact ⟨a, vs, rfl, s.sqt sq, f⟩
end
end T2

namespace T2
open L2 PySem PySem.Spec PyProof.Rows

/-! ### a text taken no times, or once -/
section
variable {X : Cx}
def rRep01 : R2 := fun x y H Q => ∃ z n, x = .str z ∧ y = .int n ∧ ((n = 0 ∧ Q (.str Str.empty) H) ∨ (n = 1 ∧ Q (.str z) H))
theorem op_rep01 : OpR X (binaryOp .Mult) rRep01 := by
  intro pins s σ H x y v u Q I rx ry ⟨z, n, ex, ey, h⟩
  subst ex ey
  obtain ⟨t, rfl⟩ := rx
  obtain ⟨t2, rfl⟩ := ry
  rcases h with ⟨rfl, h⟩ | ⟨rfl, h⟩
  · exact P.mul_str_none (by decide) (by decide) ⟨.str Str.empty, H, I.tok _, ⟨_, rfl⟩, h⟩
  · refine P.mul_str (by decide) (fun _ h => by simp at h) (fun _ h => by simp at h) ?_
    rw [if_neg (by decide), if_pos (by simp)]
    exact ⟨.str z, H, I, ⟨_, rfl⟩, h⟩
def oRepS (a b : D) (q : D → Prop) : Prop := match a, b with
  | .str z, .int n => (n = 0 ∧ q (.str Str.empty)) ∨ (n = 1 ∧ q (.str z))
  | _, _ => False
theorem od_repS : OpD X (binaryOp .Mult) .fz oRepS := by
  refine ⟨_, op_rep01, fun F H S Γ σ ρ bs x y v u q Q w hx hy h f => ?_⟩
  cases x <;> cases y <;> first
    | exact False.elim h
    | skip
  cases hx.str; cases hy.int
  exact ⟨_, _, rfl, rfl, h.imp (fun k => ⟨k.1, Fin.fz f w k.2 (by simp only [Fz])⟩) fun k => ⟨k.1, Fin.fz f w k.2 (by simp only [Fz])⟩⟩
end
end T2

namespace T2
open L2 PySem PySem.Spec PyProof.Rows

/-! ### set(list of ints) -/
section
variable {P : Program} {w : World} {A : Around} {E : Value → Shared → Prop} {s : Shared}
/-- the new set's object -/
abbrev set0 (w : World) : Obj := { cls := .type "set", dict := none, data := .set #[] 0 (.fresh 0 0 (!w.params.followText "set-order")) }
theorem set_list_ints {l : Addr} {its : Array Value} (ns : List Int) {Q : Value → Shared → Prop} (hh : A.handled = none) (hl : s.heap.IsList l its) (hi : IntsAre its.toList ns) (hb : ns.length + 1 < scanBound)
    (h : ∀ (h' : Heap) (tk c : Nat), SetR w h' s.heap.objs.size (fun j => decide (j ∈ ns)) c → c ≤ ns.length → (∀ b o, s.heap.get? b = some o → h'.get? b = some o) → Q (.ref s.heap.objs.size) { s with heap := h', toks := tk }) :
    wpAny (model P w) A (call (.type "set") [.ref l]) Q E s := by
  have sz : its.size = ns.length := by rw [← Array.length_toList]; exact IntsAre.length hi
  obtain ⟨c, tl, e0⟩ := F.called_set.mro
  have e1 := F.called_set.made; have e2 := F.called_set.sub
  refine wpAny_call (codeAny_of_tree ?_); show wpAny _ _ (callAny (.type "set") _) _ _ _
  refine wpAny_pure ⟨Code.quiet_builtin _ (by decide +kernel), codeAny_builtin F.entry_type_call ?_⟩
  rw [Around.under_plain (weight_type_call_type "set" [.ref l] []) rfl]
  have e3 := F.called_set.notType; have e4 := F.called_set.canCreate
  have e5 := F.typeCall_set_1 (.ref l)
  repeat (any_goals (first | assumption | wp_step))
  refine codeAny_mono (code_set_led1 (.ref l) (E := E) (Q₁ := fun obj s₁ => obj = .ref s.heap.objs.size ∧ s₁ = { s with heap := s.heap.push (set0 w) }) ⟨rfl, rfl⟩) fun r s₁ hr => ?_
  cases r with
  | error e => exact hr
  | ok fl =>
    cases fl with
    | ret obj =>
      obtain ⟨rfl, rfl⟩ := hr
      have gS : (s.heap.push (set0 w)).get? s.heap.objs.size = some (set0 w) := Heap.get?_push_size _ rfl
      have tS : Shared.TypeIs { s with heap := s.heap.push (set0 w) } (.ref s.heap.objs.size) "set" := ⟨_, gS, rfl⟩
      have e6 := F.called_set.init.lookup; have e7 := F.called_set.init.bind (.ref s.heap.objs.size)
      repeat (any_goals (first | assumption | wp_step))
      refine codeAny_mono (codeAny_call_builtin (R := wants (fun r s₂ => r = .none ∧ ∃ h' tk c, s₂ = { s with heap := h', toks := tk } ∧ SetR w h' s.heap.objs.size (fun j => decide (j ∈ ns)) c ∧ c ≤ ns.length ∧ (∀ b o, s.heap.get? b = some o → h'.get? b = some o)) E) F.called_set.init.plain F.entry_set_init (check_set_init_1 tS ?_)) fun r₂ s₂ hr₂ => ?_
      · have hlp : (s.heap.push (set0 w)).IsList l its := hl.push _
        obtain ⟨⟨oc, odi, oda, osl⟩, hol, hcl, nl, hdl⟩ := hlp
        simp only at hcl hdl
        subst hcl; subst hdl
        have f1 := PySem.F.sub_list_set; have f2 := PySem.F.sub_list_frozenset
        have f3 : (Value.type "list" == Value.type "dict") = false := by decide
        have hlp : (s.heap.push (set0 w)).IsList l its := hl.push _
        have lt : l < s.heap.objs.size := by obtain ⟨_, e, _⟩ := hl; exact Heap.lt_size e
        unfold Builtin.«set.__init__» noKeywords Builtin.Frozenset.updateFrom
        generalize hPI : pyIter = PI
        wp_walk
        subst hPI
        refine wpAny_pyIter_list hlp ?_
        refine wpAny_bind (wpAny_runValue ?_)
        have z1 : (s.heap.push (set0 w)).objs.size = s.heap.objs.size + 1 := Heap.size_push ..
        have ap : l ≠ (s.heap.push (set0 w)).objs.size := by rw [z1]; exact Nat.ne_of_lt (Nat.lt_succ_of_lt lt)
        have vals : ∀ (i : Nat) (v : Value), its[i]? = some v → ∃ k t, ns[i]? = some k ∧ v = .int k t := fun i v hv => by
          have hi' : i < ns.length := by rw [← sz]; exact (Array.getElem?_eq_some_iff.mp hv).1
          obtain ⟨t, e⟩ := PyProof.Rows.IntsAre.int_at hi i v (by rw [Array.getElem?_toList]; exact hv)
          exact ⟨ns[i], t, List.getElem?_eq_getElem hi', by rw [e, List.getD_eq_getElem?_getD, List.getElem?_eq_getElem hi'] <;> rfl⟩
        refine set_update_ints ((Walks.list (by simp [hh]) _ l ap its).toS) s.heap.objs.size (by rw [z1]; simp only [List.mem_cons, List.not_mem_nil, or_false, not_or]; exact ⟨Nat.ne_of_lt (Nat.lt_succ_self _), Nat.ne_of_gt lt⟩) ns sz hb vals (its.size - 0) 0 _ (by omega) (Nat.zero_le _) ⟨⟨_, Heap.get?_push_size _ rfl, rfl, rfl⟩, hlp.push _⟩ ⟨0, Nat.le_refl 0, setR_new_at (Heap.get?_push_of_some _ gS)⟩ fun s' c' mv hc' hS' => ?_
        obtain ⟨h', g2, d', tk', os'⟩ := s'
        obtain rfl : g2 = s.gens := mv.gens; obtain rfl : d' = s.drawn := mv.drawn
        obtain rfl : os' = s.os := mv.os
        show wpAny _ _ _ _ _ _
        refine wpAny_pure ?_; show wpAny _ _ (ret Value.none) _ _ _
        refine wpAny_pure ⟨rfl, h', tk', c', rfl, hS', by rw [← sz]; exact hc', fun b o e => ?_⟩
        have b0 := Heap.lt_size e
        exact mv.heap b o (by rw [z1]; simp only [List.mem_cons, List.not_mem_nil, or_false, not_or]; exact ⟨Nat.ne_of_lt b0, Nat.ne_of_lt (Nat.lt_succ_of_lt b0)⟩) (Heap.get?_push_of_some _ (Heap.get?_push_of_some _ e))
      · cases r₂ with
        | error e => exact hr₂
        | ok f2 =>
          cases f2 with
          | ret r =>
            obtain ⟨rfl, h', tk, c', rfl, k1, k2, k3⟩ := hr₂
            repeat (any_goals (first | assumption | wp_step))
            exact h _ _ _ k1 k2 k3
          | _ => exact hr₂.elim
    | _ => exact hr.elim
end
end T2

namespace T2
open L2 PySem PySem.Spec PyProof.Rows

/-! ### sorted(set(list of ints)) -/
section
variable {X : Cx} {W : WX} {Γx Γ Γ' : List Ty} {a : Expr} {τ : Ty} {t : TD}
def rSetLI (X : Cx) : List V → Hp → VK → Prop := fun xs H Q => ∃ (l : Addr) (ns : List Int), xs = [V.ref l] ∧ SqL X.K H l (ns.map V.int) ∧ ns.length + 1 < scanBound ∧ ∀ p c, H p = none → c ≤ ns.length → Q (.ref p) (upd H p (SetO X.w p (fun j => decide (j ∈ ns)) c))
theorem cr_setLI (hc : X.calm = true) : CallR X (.type "set") (rSetLI X) := by
  intro pins s σ H xs us Q I r ⟨l, ns, ex, hq, hb, q⟩
  subst ex
  rw [Vals.ref1 r]
  obtain ⟨its, rv, pl, _⟩ := I.list hq
  refine set_list_ints ns (I.ok.hd hc) pl.isList (ints_of_vals rv) hb fun h' tk c R hc' k => ?_
  exact ⟨.ref _, _, I.laid (t' := tk) k (Nat.le_refl _) (setO_new R), rfl, q _ c (I.hok.fresh (Nat.le_refl _)) hc'⟩
/-- the meaning: the members, rising, each once -/
def tSrtSet (τ : Ty) (t : TD) : TD := fun ρ Q E => t ρ (fun d ρ' => ∃ ns : List Int, see τ ρ' d = .list (ns.map .int) ∧ ns.length < 64 ∧ ∀ ms : List Int, ms.Pairwise (· < ·) → (∀ k, k ∈ ms ↔ k ∈ ns) → Q (.list (ms.map .int)) ρ') E
theorem fzIs {K : PySem.W.Frag} {F : Hp} (ns : List Int) : FzL K F (ns.map .int) (ns.map V.int) := fzInts ns
theorem e_srtSet {p p2 pos pos2 : Pos} (hc : X.calm = true) (h : EOk X W Γx Γ a Γ' τ t) (hg : Gl X "sorted") (hm : X.mg "sorted" = none) (hg2 : Gl X "set") (hm2 : X.mg "set" = none) (ho : opd Γ' τ = true := by rfl)
    (he : starEach [a] X.env = (false, eval a X.env) :: starEach [] X.env := by rfl) (hpl : (backTo pos2 (starEach [] X.env)).any (·.1) = false := by rfl) (he2 : starEach [.Call (.Name "set" p2) [a] [] pos2] X.env = (false, eval (.Call (.Name "set" p2) [a] [] pos2) X.env) :: starEach [] X.env := by rfl) (hpl2 : (backTo pos (starEach [] X.env)).any (·.1) = false := by rfl) :
    EOk X W Γx Γ (.Call (.Name "sorted" p) [.Call (.Name "set" p2) [a] [] pos2] [] pos) Γ' .ow (tSrtSet τ t) := by
  refine ⟨PE.imp (pe_callB (cr_sortedSet hc) hg hm PyProof.Rows.boot_sorted (pa_cons (pe_callTy (cr_setLI hc) hg2 hm2 PyProof.Rows.boot_set (pa_cons h.pe pa_nil he) (by decide) (by decide) he hpl) pa_nil he2) (by decide) (by decide) he2 hpl2) fun σ H Q ⟨F, S, ρ, Qd, Ed, w, q, pp, px⟩ => ?_⟩
  refine ⟨F, S, ρ, _, Ed, w, q, fun d ρ' ⟨ns, e1, hl, hq⟩ F' H' v bs g r w' => ?_, px⟩
  have vw := w'.view ho r
  rw [e1] at vw
  obtain ⟨l, us, rfl, h1, h2⟩ := vw.list
  refine ⟨l, ns, rfl, by rw [← FzL.ints h2]; exact h1, Nat.lt_of_le_of_lt hl (by decide), fun p c np hc' => ⟨p, _, c, rfl, upd_same, Nat.lt_of_le_of_lt hc' hl, fun ms p2 hs hmem _ np2 => ?_⟩⟩
  obtain ⟨w2, s2⟩ := w'.allocF (o := SetO X.w p (fun j => decide (j ∈ ns)) c) np
  exact Fin.nl (q := fun d => d = .list (ms.map .int)) (fun d e F2 H2 z cs g2 rz w3 => pp d ρ' (by rw [e]; exact hq ms hs fun k => (hmem k).trans (by simp)) F2 H2 z cs (g.trans ((w'.grF np).trans g2 fun _ h => h) fun _ => .inl) rz (w3.perm List.perm_append_comm).drop) w2 np2 rfl (fzIs ms)
end
end T2

namespace T2
open L2 PySem PySem.Spec PyProof.Rows

/-! ### more readings (EX) -/
theorem ev_int (a b : Int) : PyData.eqv (.int a) (.int b) = decide (a = b) := by
  rw [Bool.eq_iff_iff]; simp [PyData.eqv]
theorem ev_str (a b : Str) : PyData.eqv (.str a) (.str b) = decide (a = b) := by
  rw [Bool.eq_iff_iff]; simp [PyData.eqv]
theorem ev_nn : PyData.eqv .none .none = true := rfl
theorem ex_aug {zs : List D} {k : Int} {R : List D → Int → Nat → D → Prop} : (∃ xs n j d, zs = xs ∧ PyData.int k = .int n ∧ ixN xs.length n = some j ∧ xs[j]? = some d ∧ R xs n j d) = ∃ j d, ixN zs.length k = some j ∧ zs[j]? = some d ∧ R zs k j d := by
  apply propext
  constructor
  · rintro ⟨_, _, j, d, rfl, e, h⟩
    cases e
    exact ⟨j, d, h⟩
  · rintro ⟨j, d, h⟩
    exact ⟨_, _, j, d, rfl, rfl, h⟩
theorem ex_jd {o : Nat} {zs : List D} {R : Nat → D → Prop} : (∃ j d, o = j ∧ zs[j]? = some d ∧ R j d) = ∃ d, zs[o]? = some d ∧ R o d := by
  apply propext
  constructor
  · rintro ⟨j, d, e, h⟩
    cases e
    exact ⟨d, h⟩
  · rintro ⟨d, h⟩
    exact ⟨_, d, rfl, h⟩
theorem ix_zero (n : Nat) : ixN (n + 1) 0 = some 0 := by
  unfold ixN; simp
theorem lt01 (n : Nat) : (0 < n + 1) = True := eq_true (Nat.succ_pos n)
theorem oRepS_01 {c : Prop} [Decidable c] {z : Str} {q : D → Prop} : oRepS (.str z) (.int (if c then 1 else 0)) q = q (.str (if c then z else Str.empty)) := by
  apply propext
  unfold oRepS
  by_cases h : c
  · simp [h]
  · simp [h]
theorem len01 {c : Prop} [Decidable c] {a b : Str} {n : Nat} (h1 : a.length ≤ n) (h2 : b.length ≤ n) : (if c then a else b).length ≤ n := by
  split <;> assumption
theorem okS_lit {s : String} : okEq (.str (Str.ofString s)) = True := eq_true (okS (strOk_of s))
theorem ex_sum {xs : List Int} {R : List Int → Prop} : (∃ ns : List Int, [PyData.list (xs.map .int)] = [PyData.list (ns.map .int)] ∧ R ns) = R xs := by
  apply propext
  constructor
  · rintro ⟨ns, e, h⟩
    have e2 : xs.map PyData.int = ns.map PyData.int := by simpa using e
    have : xs = ns := List.map_inj_right (fun _ _ h => by cases h; rfl) |>.mp e2
    rw [this]; exact h
  · intro h
    exact ⟨xs, rfl, h⟩
/-! ### lists -/
theorem cutD_map {α β : Type} (f : α → β) (xs : List α) (lo hi : Option Int) : cutD (xs.map f) lo hi = (cutD xs lo hi).map f := by
  simp [cutD, List.map_take, List.map_drop]
theorem cut_neg {α : Type} (xs : List α) (k : Nat) (hk : 0 < k) : cutD xs (some (-(k : Int))) none = xs.drop (xs.length - k) := by
  unfold cutD
  simp only [HT.sIx]
  rw [if_pos (by omega)]
  rw [show (-(k : Int) + (xs.length : Int)).toNat = xs.length - k by omega]
  rw [List.take_of_length_le (by rw [List.length_drop]; omega)]
theorem nodup_le {α : Type} [BEq α] [LawfulBEq α] : ∀ {ms xs : List α}, ms.Nodup → (∀ k ∈ ms, k ∈ xs) → ms.length ≤ xs.length
  | [], _, _, _ => Nat.zero_le _
  | m :: ms, xs, nd, h => by
    obtain ⟨n1, n2⟩ := List.nodup_cons.mp nd
    have hm := h m (by simp)
    have ih := nodup_le (ms := ms) (xs := xs.erase m) n2 fun k hk => by
      have ne : k ≠ m := fun e => n1 (e ▸ hk)
      exact (List.mem_erase_of_ne ne).mpr (h k (by simp [hk]))
    have l1 := List.length_erase_of_mem hm
    have l2 := List.length_pos_of_mem hm
    rw [List.length_cons]
    omega
end T2

/-! zip of three, each a list or a tuple; of a tuple and a list -/
namespace T2Z
open PySem PySem.Spec PyProof.Rows L2
section
variable {prog : Program} {w : World} {A : Around} {E : Value → Shared → Prop} {s : Shared}
/-- where an iterator over a tuple (true) or a list stands -/
def At (t : Bool) (h : Heap) (j l : Addr) (i : Nat) : Prop := if t = true then h.IsTupleIter j l i else h.IsListIter j l i
def Of (t : Bool) (h : Heap) (l : Addr) (us : Array Value) : Prop := if t = true then h.IsTuple l us else h.IsList l us
theorem At.to {t : Bool} {h h' : Heap} {j l : Addr} {i : Nat} (a : At t h j l i) (k : ∀ o, h.get? j = some o → h'.get? j = some o) : At t h' j l i := by
  cases t
  · exact Heap.IsListIter.at a fun o e => k o e
  · exact Heap.IsTupleIter.at a fun o e => k o e
theorem Of.to {t : Bool} {h h' : Heap} {l : Addr} {us : Array Value} (a : Of t h l us) (k : ∀ o, h.get? l = some o → h'.get? l = some o) : Of t h' l us := by
  cases t
  · exact Heap.IsList.at a fun o e => k o e
  · exact Heap.IsTuple.at a fun o e => k o e
theorem At.there {t : Bool} {h : Heap} {j l : Addr} {i : Nat} (a : At t h j l i) : ∃ o, h.get? j = some o ∧ ∀ v, o.data ≠ .cell v := by
  cases t
  · obtain ⟨o, e, _, d⟩ := a
    exact ⟨o, e, fun v q => by rw [d] at q; cases q⟩
  · obtain ⟨o, e, _, d⟩ := a
    exact ⟨o, e, fun v q => by rw [d] at q; cases q⟩
theorem draw {t : Bool} {j l : Addr} {i : Nat} {us : Array Value} {u : Value} {Q : Value → Shared → Prop} (a : At t s.heap j l i) (b : Of t s.heap l us) (e : us[i]? = some u)
    (hQ : ∀ h', At t h' j l (i + 1) → Heap.SameBut j s.heap h' → Q u { s with heap := h' }) : wpAny (model prog w) A (Builtin.SmallTypes.nextOf (.ref j)) Q E s := by
  cases t
  · exact wpAny_nextOf_list_item a b e hQ
  · exact RZ.nextOf_tuple_item a b e hQ
theorem dry {t : Bool} {j l : Addr} {i : Nat} {us : Array Value} {Q : Value → Shared → Prop} (hh : A.handled = none) (a : At t s.heap j l i) (b : Of t s.heap l us) (e : us[i]? = none)
    (hE : ∀ h' x, Heap.ExtBut j s.heap h' → (∃ o, h'.get? x = some o ∧ o.cls = .type "StopIteration") → E (.ref x) { s with heap := h' }) : wpAny (model prog w) A (Builtin.SmallTypes.nextOf (.ref j)) Q E s := by
  cases t
  · exact wpAny_nextOf_list_end hh a b e hE
  · exact RZ.nextOf_tuple_end hh a b e hE
theorem ne {a b : Nat} (h : ¬ a = b) : @Ne Addr a b := h
abbrev IsTp (h : Heap) (T : Addr) (vs : Array Value) : Prop := h.get? T = some { cls := .type "tuple", data := .seq vs }
theorem putIn {T : Addr} {vs : Array Value} {x : Value} {k : Nat} {Q : Unit → Shared → Prop} (hT : IsTp s.heap T vs) (hv : vs.size ≤ 10)
    (h : ∀ h', IsTp h' T (vs.setIfInBounds k x) → Heap.SameBut T s.heap h' → Q () { s with heap := h' }) : wpAny (model prog w) A (updateSeq T (·.setIfInBounds k x)) Q E s := by
  have b1 : vs.size ≤ sizeLine := Nat.le_trans hv (by decide)
  have b2 : (vs.setIfInBounds k x).size ≤ sizeLine + 1 := by rw [Array.size_setIfInBounds]; omega
  refine wpAny_updateSeq hT rfl (h _ ?_ (Heap.SameBut.update ..)) b1 b2
  show Heap.get? _ T = _
  rw [Heap.get?_update_self _ hT rfl]
  simp [Obj.mapSeq]
theorem next2 {n l1 l2 : Nat} {t1 t2 : Bool} {i : Nat} {us1 us2 : Array Value} {c1 c2 : Value} {x1 x2 : Value} {Q : Value → Shared → Prop} (b1 : l1 < n) (b2 : l2 < n)
    (hz : IsZip s.heap (n + 4) (n + 2) (n + 3) .none) (hI : IsTp s.heap (n + 2) #[.ref n, .ref (n + 1)]) (hO : IsTp s.heap (n + 3) #[c1, c2])
    (h1 : At t1 s.heap n l1 i) (h2 : At t2 s.heap (n + 1) l2 i) (k1 : Of t1 s.heap l1 us1) (k2 : Of t2 s.heap l2 us2) (e1 : us1[i]? = some x1) (e2 : us2[i]? = some x2)
    (hQ : ∀ h', IsZip h' (n + 4) (n + 2) (n + 3) (rawInt s.heap.objs.size) → IsTp h' (n + 3) #[x1, x2] → At t1 h' n l1 (i + 1) → At t2 h' (n + 1) l2 (i + 1) → IsTp h' s.heap.objs.size #[x1, x2] → h'.objs.size = s.heap.objs.size + 1 →
      (∀ d o, d ≠ n → d ≠ (n + 1) → d ≠ (n + 3) → d ≠ (n + 4) → s.heap.get? d = some o → h'.get? d = some o) → Q (.ref s.heap.objs.size) { s with heap := h' }) :
    wpAny (model prog w) A (Builtin.«zip.__next__» ⟨[.ref (n + 4)], []⟩) (fun fin s' => ∃ v, fin = .done (.ret v) ∧ Q v s') E s := by
  have lts : (n + 4) < s.heap.objs.size := Heap.lt_size hz
  show wpAny _ _ (field (.ref (n + 4)) 2 >>= _) _ _ _
  refine wpAny_bind (wpAny_field hz rfl (x := .bool false) rfl ?_)
  show wpAny _ _ (field (.ref (n + 4)) 3 >>= _) _ _ _
  refine wpAny_bind (wpAny_field hz rfl (x := .ref (n + 2)) rfl ?_)
  refine wpAny_bind (wpAny_seqItems hI rfl ?_)
  show wpAny _ _ (Builtin.SmallTypes.ownedTupleIsFree (.ref (n + 4)) >>= _) _ _ _
  refine wpAny_bind ?_
  unfold Builtin.SmallTypes.ownedTupleIsFree
  refine wpAny_bind (wpAny_field hz rfl (x := .none) rfl (wpAny_pure ?_)); simp only [if_true]
  refine wpAny_bind (wpAny_rule ?_); refine wpAny_bind (wpAny_field hz rfl (x := .ref (n + 3)) rfl ?_)
  refine wpAny_bind (wpAny_setField_rec hz (by simp) fun g0 hz0 q0 => ?_)
  replace hz0 : IsZip g0 (n + 4) (n + 2) (n + 3) .ellipsis := hz0
  refine wpAny_bind ?_; simp only [List.zipIdx_cons, List.zipIdx_nil, List.forIn_cons, List.forIn_nil]
  have K0 : ∀ d o, d ≠ (n + 4) → s.heap.get? d = some o → g0.get? d = some o := fun d o e q => q0.extBut d o e q
  refine wpAny_bind (wpAny_bind (wpAny_onRaise ?_)); show wpAny _ _ (Builtin.SmallTypes.nextOf (.ref n) >>= _) _ _ _
  refine wpAny_bind (draw (h1.to fun o => K0 _ o (by omega)) (k1.to fun o => K0 _ o (by omega)) e1 fun g1 a1 q1 => wpAny_pure ?_)
  have K1 : ∀ d o, d ≠ n → d ≠ (n + 4) → s.heap.get? d = some o → g1.get? d = some o := fun d o u0 u1 q => q1.extBut d o u0 (K0 d o u1 q)
  have O1 : IsTp g1 (n + 3) #[c1, c2] := K1 _ _ (by omega) (by omega) hO
  refine wpAny_bind (wpAny_seqItems O1 rfl ?_); refine wpAny_bind (putIn O1 (by simp) fun g2 O2 q2 => ?_)
  replace O2 : IsTp g2 (n + 3) #[x1, c2] := O2
  refine wpAny_bind (wpAny_letGo (wpAny_pure ?_))
  have K2 : ∀ d o, d ≠ n → d ≠ (n + 3) → d ≠ (n + 4) → s.heap.get? d = some o → g2.get? d = some o := fun d o u0 u1 u2 q => q2.extBut d o u1 (K1 d o u0 u2 q)
  refine wpAny_bind (wpAny_bind (wpAny_onRaise ?_)); show wpAny _ _ (Builtin.SmallTypes.nextOf (.ref (n + 1)) >>= _) _ _ _
  refine wpAny_bind (draw (h2.to fun o => K2 _ o (by omega) (by omega) (by omega)) (k2.to fun o => K2 _ o (by omega) (by omega) (by omega)) e2 fun g3 a2 q3 => wpAny_pure ?_)
  have K3 : ∀ d o, d ≠ n → d ≠ (n + 1) → d ≠ (n + 3) → d ≠ (n + 4) → s.heap.get? d = some o → g3.get? d = some o := fun d o u0 u1 u2 u3 q => q3.extBut d o u1 (K2 d o u0 u2 u3 q)
  have O3 : IsTp g3 (n + 3) #[x1, c2] := q3.extBut _ _ (ne (by omega)) O2
  refine wpAny_bind (wpAny_seqItems O3 rfl ?_); refine wpAny_bind (putIn O3 (by simp) fun g4 O4 q4 => ?_)
  replace O4 : IsTp g4 (n + 3) #[x1, x2] := O4
  refine wpAny_bind (wpAny_letGo (wpAny_pure (wpAny_pure ?_)))
  have K4 : ∀ d o, d ≠ n → d ≠ (n + 1) → d ≠ (n + 3) → d ≠ (n + 4) → s.heap.get? d = some o → g4.get? d = some o := fun d o u0 u1 u2 u3 q => q4.extBut d o u2 (K3 d o u0 u1 u2 u3 q)
  refine wpAny_bind (wpAny_seqItems O4 rfl ?_); refine wpAny_bind (wpAny_newTuple ?_)
  have sz : g4.objs.size = s.heap.objs.size := by rw [q4.1, q3.1, q2.1, q1.1, q0.1]
  have hzz : IsZip g4 (n + 4) (n + 2) (n + 3) .ellipsis := q4.extBut _ _ (ne (by omega)) (q3.extBut _ _ (ne (by omega)) (q2.extBut _ _ (ne (by omega)) (q1.extBut _ _ (ne (by omega)) (hz0))))
  have f1 : At t1 g4 n l1 (i + 1) := a1.to fun o q => q4.extBut _ _ (ne (by omega)) (q3.extBut _ _ (ne (by omega)) (q2.extBut _ _ (ne (by omega)) (q)))
  have f2 : At t2 g4 (n + 1) l2 (i + 1) := a2.to fun o q => q4.extBut _ _ (ne (by omega)) (q)
  show wpAny _ _ (Builtin.SmallTypes.ownedTupleHandOut (.ref (n + 4)) (.ref g4.objs.size) >>= _) _ _ _
  refine wpAny_bind ?_; unfold Builtin.SmallTypes.ownedTupleHandOut
  have hz8 : IsZip (g4.push { cls := .type "tuple", data := .seq #[x1, x2] }) (n + 4) (n + 2) (n + 3) .ellipsis := Heap.get?_push_of_some _ hzz
  refine wpAny_bind (wpAny_setField_rec hz8 (by simp) fun r1 hz9 p1 => ?_)
  replace hz9 : IsZip r1 (n + 4) (n + 2) (n + 3) (rawInt g4.objs.size) := hz9
  refine wpAny_setField_rec hz9 (by simp) fun r2 hz10 p2 => ?_
  replace hz10 : IsZip r2 (n + 4) (n + 2) (n + 3) (rawInt g4.objs.size) := hz10
  have up : ∀ d o, d ≠ (n + 4) → g4.get? d = some o → r2.get? d = some o := fun d o e q => p2.extBut _ _ e (p1.extBut _ _ e (Heap.get?_push_of_some _ q))
  have hT : IsTp r2 g4.objs.size #[x1, x2] := p2.extBut _ _ (ne (by omega)) (p1.extBut _ _ (ne (by omega)) (Heap.get?_push_size _ rfl))
  have sz2 : r2.objs.size = g4.objs.size + 1 := by rw [p2.1, p1.1, Heap.size_push]
  rw [sz] at hz10 hT sz2
  refine wpAny_pure ⟨_, rfl, ?_⟩
  show Q (.ref g4.objs.size) _
  rw [sz]
  exact hQ r2 hz10 (up _ _ (by omega) O4) (f1.to fun o => up _ o (by omega)) (f2.to fun o => up _ o (by omega)) hT sz2 fun d o u0 u1 u2 u3 q => up d o u3 (K4 d o u0 u1 u2 u3 q)
theorem end2 {n l1 l2 : Nat} {t1 t2 : Bool} {i : Nat} {us1 us2 : Array Value} {c1 c2 : Value} {Q : Fin → Shared → Prop} (hh : A.handled = none) (b1 : l1 < n) (b2 : l2 < n)
    (hz : IsZip s.heap (n + 4) (n + 2) (n + 3) .none) (hI : IsTp s.heap (n + 2) #[.ref n, .ref (n + 1)]) (hO : IsTp s.heap (n + 3) #[c1, c2])
    (h1 : At t1 s.heap n l1 i) (h2 : At t2 s.heap (n + 1) l2 i) (k1 : Of t1 s.heap l1 us1) (k2 : Of t2 s.heap l2 us2) (hend : us1[i]? = none ∨ us2[i]? = none)
    (hE : ∀ h' e, (∀ d o, d ≠ n → d ≠ (n + 1) → d ≠ (n + 3) → d ≠ (n + 4) → s.heap.get? d = some o → h'.get? d = some o) → (∃ o, h'.get? e = some o ∧ o.cls = .type "StopIteration") → E (.ref e) { s with heap := h' }) :
    wpAny (model prog w) A (Builtin.«zip.__next__» ⟨[.ref (n + 4)], []⟩) Q E s := by
  have lts : (n + 4) < s.heap.objs.size := Heap.lt_size hz
  show wpAny _ _ (field (.ref (n + 4)) 2 >>= _) _ _ _
  refine wpAny_bind (wpAny_field hz rfl (x := .bool false) rfl ?_)
  show wpAny _ _ (field (.ref (n + 4)) 3 >>= _) _ _ _
  refine wpAny_bind (wpAny_field hz rfl (x := .ref (n + 2)) rfl ?_)
  refine wpAny_bind (wpAny_seqItems hI rfl ?_)
  show wpAny _ _ (Builtin.SmallTypes.ownedTupleIsFree (.ref (n + 4)) >>= _) _ _ _
  refine wpAny_bind ?_
  unfold Builtin.SmallTypes.ownedTupleIsFree
  refine wpAny_bind (wpAny_field hz rfl (x := .none) rfl (wpAny_pure ?_)); simp only [if_true]
  refine wpAny_bind (wpAny_rule ?_); refine wpAny_bind (wpAny_field hz rfl (x := .ref (n + 3)) rfl ?_)
  refine wpAny_bind (wpAny_setField_rec hz (by simp) fun g0 hz0 q0 => ?_)
  replace hz0 : IsZip g0 (n + 4) (n + 2) (n + 3) .ellipsis := hz0
  refine wpAny_bind ?_; simp only [List.zipIdx_cons, List.zipIdx_nil, List.forIn_cons, List.forIn_nil]
  have K0 : ∀ d o, d ≠ (n + 4) → s.heap.get? d = some o → g0.get? d = some o := fun d o e q => q0.extBut d o e q
  refine wpAny_bind (wpAny_bind (wpAny_onRaise ?_)); show wpAny _ _ (Builtin.SmallTypes.nextOf (.ref n) >>= _) _ _ _
  cases e1 : us1[i]? with
  | none =>
    refine wpAny_bind (dry hh (h1.to fun o => K0 _ o (by omega)) (k1.to fun o => K0 _ o (by omega)) e1 fun r e p he => ?_)
    obtain ⟨oe, hoe, hce⟩ := he
    have hz2 : IsZip r (n + 4) (n + 2) (n + 3) .ellipsis := p _ _ (ne (by omega)) (hz0)
    have hez : e ≠ (n + 4) := fun v => by subst v; rw [hz2] at hoe; cases hoe; simp at hce
    refine wpAny_setField_rec hz2 (by simp) fun r2 _ p2 => hE r2 e (fun d o u0 u1 u2 u3 q => p2.extBut _ _ u3 (p _ _ u0 (K0 d o u3 q))) ⟨oe, p2.extBut _ _ hez hoe, hce⟩
  | some x1 =>
    have hend : us2[i]? = none := hend.resolve_left (by rw [e1]; simp)
    refine wpAny_bind (draw (h1.to fun o => K0 _ o (by omega)) (k1.to fun o => K0 _ o (by omega)) e1 fun g1 a1 q1 => wpAny_pure ?_)
    have K1 : ∀ d o, d ≠ n → d ≠ (n + 4) → s.heap.get? d = some o → g1.get? d = some o := fun d o u0 u1 q => q1.extBut d o u0 (K0 d o u1 q)
    have O1 : IsTp g1 (n + 3) #[c1, c2] := K1 _ _ (by omega) (by omega) hO
    refine wpAny_bind (wpAny_seqItems O1 rfl ?_); refine wpAny_bind (putIn O1 (by simp) fun g2 O2 q2 => ?_)
    replace O2 : IsTp g2 (n + 3) #[x1, c2] := O2
    refine wpAny_bind (wpAny_letGo (wpAny_pure ?_))
    have K2 : ∀ d o, d ≠ n → d ≠ (n + 3) → d ≠ (n + 4) → s.heap.get? d = some o → g2.get? d = some o := fun d o u0 u1 u2 q => q2.extBut d o u1 (K1 d o u0 u2 q)
    refine wpAny_bind (wpAny_bind (wpAny_onRaise ?_)); show wpAny _ _ (Builtin.SmallTypes.nextOf (.ref (n + 1)) >>= _) _ _ _
    refine wpAny_bind (dry hh (h2.to fun o => K2 _ o (by omega) (by omega) (by omega)) (k2.to fun o => K2 _ o (by omega) (by omega) (by omega)) hend fun r e p he => ?_)
    obtain ⟨oe, hoe, hce⟩ := he
    have hz2 : IsZip r (n + 4) (n + 2) (n + 3) .ellipsis := p _ _ (ne (by omega)) (q2.extBut _ _ (ne (by omega)) (q1.extBut _ _ (ne (by omega)) (hz0)))
    have hez : e ≠ (n + 4) := fun v => by subst v; rw [hz2] at hoe; cases hoe; simp at hce
    refine wpAny_setField_rec hz2 (by simp) fun r2 _ p2 => hE r2 e (fun d o u0 u1 u2 u3 q => p2.extBut _ _ u3 (p _ _ u1 (K2 d o u0 u2 u3 q))) ⟨oe, p2.extBut _ _ hez hoe, hce⟩
theorem pyNext2 {n l1 l2 : Nat} {t1 t2 : Bool} {i : Nat} {us1 us2 : Array Value} {c1 c2 : Value} {x1 x2 : Value} {Q : Option Value → Shared → Prop} (b1 : l1 < n) (b2 : l2 < n)
    (hz : IsZip s.heap (n + 4) (n + 2) (n + 3) .none) (hI : IsTp s.heap (n + 2) #[.ref n, .ref (n + 1)]) (hO : IsTp s.heap (n + 3) #[c1, c2])
    (h1 : At t1 s.heap n l1 i) (h2 : At t2 s.heap (n + 1) l2 i) (k1 : Of t1 s.heap l1 us1) (k2 : Of t2 s.heap l2 us2) (e1 : us1[i]? = some x1) (e2 : us2[i]? = some x2)
    (hQ : ∀ h', IsZip h' (n + 4) (n + 2) (n + 3) (rawInt s.heap.objs.size) → IsTp h' (n + 3) #[x1, x2] → At t1 h' n l1 (i + 1) → At t2 h' (n + 1) l2 (i + 1) → IsTp h' s.heap.objs.size #[x1, x2] → h'.objs.size = s.heap.objs.size + 1 →
      (∀ d o, d ≠ n → d ≠ (n + 1) → d ≠ (n + 3) → d ≠ (n + 4) → s.heap.get? d = some o → h'.get? d = some o) → Q (some (.ref s.heap.objs.size)) { s with heap := h' }) :
    wpAny (model prog w) A (pyNext (.ref (n + 4))) Q E s := by
  have hT : s.TypeIs (.ref (n + 4)) "zip" := ⟨_, hz, rfl⟩
  unfold pyNext
  exact wpAny_bind (wpAny_attempt (wpAny_callSpecial?_slot (name := Str.ofString "__next__") hT F.slot_zip_next (wpAny_call_entry F.slot_zip_next hT F.entry_zip_next
      (next2 b1 b2 hz hI hO h1 h2 k1 k2 e1 e2 fun h' a1 a2 v1 v2 a5 a6 a7 => wpAny_pure (hQ h' a1 a2 v1 v2 a5 a6 a7)) (F.args_zip_next_1 _))))
theorem pyEnd2 {n l1 l2 : Nat} {t1 t2 : Bool} {i : Nat} {us1 us2 : Array Value} {c1 c2 : Value} {Q : Option Value → Shared → Prop} (hh : A.handled = none) (b1 : l1 < n) (b2 : l2 < n)
    (hz : IsZip s.heap (n + 4) (n + 2) (n + 3) .none) (hI : IsTp s.heap (n + 2) #[.ref n, .ref (n + 1)]) (hO : IsTp s.heap (n + 3) #[c1, c2])
    (h1 : At t1 s.heap n l1 i) (h2 : At t2 s.heap (n + 1) l2 i) (k1 : Of t1 s.heap l1 us1) (k2 : Of t2 s.heap l2 us2) (hend : us1[i]? = none ∨ us2[i]? = none)
    (hQ : ∀ h', (∀ d o, d ≠ n → d ≠ (n + 1) → d ≠ (n + 3) → d ≠ (n + 4) → s.heap.get? d = some o → h'.get? d = some o) → Q none { s with heap := h' }) : wpAny (model prog w) A (pyNext (.ref (n + 4))) Q E s := by
  have hT : s.TypeIs (.ref (n + 4)) "zip" := ⟨_, hz, rfl⟩
  unfold pyNext
  refine wpAny_bind (wpAny_attempt (wpAny_callSpecial?_slot (name := Str.ofString "__next__") hT F.slot_zip_next (wpAny_call_entry F.slot_zip_next hT F.entry_zip_next (end2 hh b1 b2 hz hI hO h1 h2 k1 k2 hend fun h' e hk he => ?_) (F.args_zip_next_1 _))))
  obtain ⟨o, ho, hc⟩ := he
  exact wpAny_bind (wpAny_isInstance (T := "StopIteration") (b := true) ⟨o, ho, hc⟩ isSubtype_stop (wpAny_pure (hQ _ hk)))
theorem next3 {n l1 l2 l3 : Nat} {t1 t2 t3 : Bool} {i : Nat} {us1 us2 us3 : Array Value} {c1 c2 c3 : Value} {x1 x2 x3 : Value} {Q : Value → Shared → Prop} (b1 : l1 < n) (b2 : l2 < n) (b3 : l3 < n)
    (hz : IsZip s.heap (n + 5) (n + 3) (n + 4) .none) (hI : IsTp s.heap (n + 3) #[.ref n, .ref (n + 1), .ref (n + 2)]) (hO : IsTp s.heap (n + 4) #[c1, c2, c3])
    (h1 : At t1 s.heap n l1 i) (h2 : At t2 s.heap (n + 1) l2 i) (h3 : At t3 s.heap (n + 2) l3 i) (k1 : Of t1 s.heap l1 us1) (k2 : Of t2 s.heap l2 us2) (k3 : Of t3 s.heap l3 us3) (e1 : us1[i]? = some x1) (e2 : us2[i]? = some x2) (e3 : us3[i]? = some x3)
    (hQ : ∀ h', IsZip h' (n + 5) (n + 3) (n + 4) (rawInt s.heap.objs.size) → IsTp h' (n + 4) #[x1, x2, x3] → At t1 h' n l1 (i + 1) → At t2 h' (n + 1) l2 (i + 1) → At t3 h' (n + 2) l3 (i + 1) → IsTp h' s.heap.objs.size #[x1, x2, x3] → h'.objs.size = s.heap.objs.size + 1 →
      (∀ d o, d ≠ n → d ≠ (n + 1) → d ≠ (n + 2) → d ≠ (n + 4) → d ≠ (n + 5) → s.heap.get? d = some o → h'.get? d = some o) → Q (.ref s.heap.objs.size) { s with heap := h' }) :
    wpAny (model prog w) A (Builtin.«zip.__next__» ⟨[.ref (n + 5)], []⟩) (fun fin s' => ∃ v, fin = .done (.ret v) ∧ Q v s') E s := by
  have lts : (n + 5) < s.heap.objs.size := Heap.lt_size hz
  show wpAny _ _ (field (.ref (n + 5)) 2 >>= _) _ _ _
  refine wpAny_bind (wpAny_field hz rfl (x := .bool false) rfl ?_)
  show wpAny _ _ (field (.ref (n + 5)) 3 >>= _) _ _ _
  refine wpAny_bind (wpAny_field hz rfl (x := .ref (n + 3)) rfl ?_)
  refine wpAny_bind (wpAny_seqItems hI rfl ?_)
  show wpAny _ _ (Builtin.SmallTypes.ownedTupleIsFree (.ref (n + 5)) >>= _) _ _ _
  refine wpAny_bind ?_
  unfold Builtin.SmallTypes.ownedTupleIsFree
  refine wpAny_bind (wpAny_field hz rfl (x := .none) rfl (wpAny_pure ?_)); simp only [if_true]
  refine wpAny_bind (wpAny_rule ?_); refine wpAny_bind (wpAny_field hz rfl (x := .ref (n + 4)) rfl ?_)
  refine wpAny_bind (wpAny_setField_rec hz (by simp) fun g0 hz0 q0 => ?_)
  replace hz0 : IsZip g0 (n + 5) (n + 3) (n + 4) .ellipsis := hz0
  refine wpAny_bind ?_; simp only [List.zipIdx_cons, List.zipIdx_nil, List.forIn_cons, List.forIn_nil]
  have K0 : ∀ d o, d ≠ (n + 5) → s.heap.get? d = some o → g0.get? d = some o := fun d o e q => q0.extBut d o e q
  refine wpAny_bind (wpAny_bind (wpAny_onRaise ?_)); show wpAny _ _ (Builtin.SmallTypes.nextOf (.ref n) >>= _) _ _ _
  refine wpAny_bind (draw (h1.to fun o => K0 _ o (by omega)) (k1.to fun o => K0 _ o (by omega)) e1 fun g1 a1 q1 => wpAny_pure ?_)
  have K1 : ∀ d o, d ≠ n → d ≠ (n + 5) → s.heap.get? d = some o → g1.get? d = some o := fun d o u0 u1 q => q1.extBut d o u0 (K0 d o u1 q)
  have O1 : IsTp g1 (n + 4) #[c1, c2, c3] := K1 _ _ (by omega) (by omega) hO
  refine wpAny_bind (wpAny_seqItems O1 rfl ?_); refine wpAny_bind (putIn O1 (by simp) fun g2 O2 q2 => ?_)
  replace O2 : IsTp g2 (n + 4) #[x1, c2, c3] := O2
  refine wpAny_bind (wpAny_letGo (wpAny_pure ?_))
  have K2 : ∀ d o, d ≠ n → d ≠ (n + 4) → d ≠ (n + 5) → s.heap.get? d = some o → g2.get? d = some o := fun d o u0 u1 u2 q => q2.extBut d o u1 (K1 d o u0 u2 q)
  refine wpAny_bind (wpAny_bind (wpAny_onRaise ?_)); show wpAny _ _ (Builtin.SmallTypes.nextOf (.ref (n + 1)) >>= _) _ _ _
  refine wpAny_bind (draw (h2.to fun o => K2 _ o (by omega) (by omega) (by omega)) (k2.to fun o => K2 _ o (by omega) (by omega) (by omega)) e2 fun g3 a2 q3 => wpAny_pure ?_)
  have K3 : ∀ d o, d ≠ n → d ≠ (n + 1) → d ≠ (n + 4) → d ≠ (n + 5) → s.heap.get? d = some o → g3.get? d = some o := fun d o u0 u1 u2 u3 q => q3.extBut d o u1 (K2 d o u0 u2 u3 q)
  have O3 : IsTp g3 (n + 4) #[x1, c2, c3] := q3.extBut _ _ (ne (by omega)) O2
  refine wpAny_bind (wpAny_seqItems O3 rfl ?_); refine wpAny_bind (putIn O3 (by simp) fun g4 O4 q4 => ?_)
  replace O4 : IsTp g4 (n + 4) #[x1, x2, c3] := O4
  refine wpAny_bind (wpAny_letGo (wpAny_pure ?_))
  have K4 : ∀ d o, d ≠ n → d ≠ (n + 1) → d ≠ (n + 4) → d ≠ (n + 5) → s.heap.get? d = some o → g4.get? d = some o := fun d o u0 u1 u2 u3 q => q4.extBut d o u2 (K3 d o u0 u1 u2 u3 q)
  refine wpAny_bind (wpAny_bind (wpAny_onRaise ?_)); show wpAny _ _ (Builtin.SmallTypes.nextOf (.ref (n + 2)) >>= _) _ _ _
  refine wpAny_bind (draw (h3.to fun o => K4 _ o (by omega) (by omega) (by omega) (by omega)) (k3.to fun o => K4 _ o (by omega) (by omega) (by omega) (by omega)) e3 fun g5 a3 q5 => wpAny_pure ?_)
  have K5 : ∀ d o, d ≠ n → d ≠ (n + 1) → d ≠ (n + 2) → d ≠ (n + 4) → d ≠ (n + 5) → s.heap.get? d = some o → g5.get? d = some o := fun d o u0 u1 u2 u3 u4 q => q5.extBut d o u2 (K4 d o u0 u1 u3 u4 q)
  have O5 : IsTp g5 (n + 4) #[x1, x2, c3] := q5.extBut _ _ (ne (by omega)) O4
  refine wpAny_bind (wpAny_seqItems O5 rfl ?_); refine wpAny_bind (putIn O5 (by simp) fun g6 O6 q6 => ?_)
  replace O6 : IsTp g6 (n + 4) #[x1, x2, x3] := O6
  refine wpAny_bind (wpAny_letGo (wpAny_pure (wpAny_pure ?_)))
  have K6 : ∀ d o, d ≠ n → d ≠ (n + 1) → d ≠ (n + 2) → d ≠ (n + 4) → d ≠ (n + 5) → s.heap.get? d = some o → g6.get? d = some o := fun d o u0 u1 u2 u3 u4 q => q6.extBut d o u3 (K5 d o u0 u1 u2 u3 u4 q)
  refine wpAny_bind (wpAny_seqItems O6 rfl ?_); refine wpAny_bind (wpAny_newTuple ?_)
  have sz : g6.objs.size = s.heap.objs.size := by rw [q6.1, q5.1, q4.1, q3.1, q2.1, q1.1, q0.1]
  have hzz : IsZip g6 (n + 5) (n + 3) (n + 4) .ellipsis := q6.extBut _ _ (ne (by omega)) (q5.extBut _ _ (ne (by omega)) (q4.extBut _ _ (ne (by omega)) (q3.extBut _ _ (ne (by omega)) (q2.extBut _ _ (ne (by omega)) (q1.extBut _ _ (ne (by omega)) (hz0))))))
  have f1 : At t1 g6 n l1 (i + 1) := a1.to fun o q => q6.extBut _ _ (ne (by omega)) (q5.extBut _ _ (ne (by omega)) (q4.extBut _ _ (ne (by omega)) (q3.extBut _ _ (ne (by omega)) (q2.extBut _ _ (ne (by omega)) (q)))))
  have f2 : At t2 g6 (n + 1) l2 (i + 1) := a2.to fun o q => q6.extBut _ _ (ne (by omega)) (q5.extBut _ _ (ne (by omega)) (q4.extBut _ _ (ne (by omega)) (q)))
  have f3 : At t3 g6 (n + 2) l3 (i + 1) := a3.to fun o q => q6.extBut _ _ (ne (by omega)) (q)
  show wpAny _ _ (Builtin.SmallTypes.ownedTupleHandOut (.ref (n + 5)) (.ref g6.objs.size) >>= _) _ _ _
  refine wpAny_bind ?_; unfold Builtin.SmallTypes.ownedTupleHandOut
  have hz8 : IsZip (g6.push { cls := .type "tuple", data := .seq #[x1, x2, x3] }) (n + 5) (n + 3) (n + 4) .ellipsis := Heap.get?_push_of_some _ hzz
  refine wpAny_bind (wpAny_setField_rec hz8 (by simp) fun r1 hz9 p1 => ?_)
  replace hz9 : IsZip r1 (n + 5) (n + 3) (n + 4) (rawInt g6.objs.size) := hz9
  refine wpAny_setField_rec hz9 (by simp) fun r2 hz10 p2 => ?_
  replace hz10 : IsZip r2 (n + 5) (n + 3) (n + 4) (rawInt g6.objs.size) := hz10
  have up : ∀ d o, d ≠ (n + 5) → g6.get? d = some o → r2.get? d = some o := fun d o e q => p2.extBut _ _ e (p1.extBut _ _ e (Heap.get?_push_of_some _ q))
  have hT : IsTp r2 g6.objs.size #[x1, x2, x3] := p2.extBut _ _ (ne (by omega)) (p1.extBut _ _ (ne (by omega)) (Heap.get?_push_size _ rfl))
  have sz2 : r2.objs.size = g6.objs.size + 1 := by rw [p2.1, p1.1, Heap.size_push]
  rw [sz] at hz10 hT sz2
  refine wpAny_pure ⟨_, rfl, ?_⟩
  show Q (.ref g6.objs.size) _
  rw [sz]
  exact hQ r2 hz10 (up _ _ (by omega) O6) (f1.to fun o => up _ o (by omega)) (f2.to fun o => up _ o (by omega)) (f3.to fun o => up _ o (by omega)) hT sz2 fun d o u0 u1 u2 u3 u4 q => up d o u4 (K6 d o u0 u1 u2 u3 u4 q)
theorem end3 {n l1 l2 l3 : Nat} {t1 t2 t3 : Bool} {i : Nat} {us1 us2 us3 : Array Value} {c1 c2 c3 : Value} {Q : Fin → Shared → Prop} (hh : A.handled = none) (b1 : l1 < n) (b2 : l2 < n) (b3 : l3 < n)
    (hz : IsZip s.heap (n + 5) (n + 3) (n + 4) .none) (hI : IsTp s.heap (n + 3) #[.ref n, .ref (n + 1), .ref (n + 2)]) (hO : IsTp s.heap (n + 4) #[c1, c2, c3])
    (h1 : At t1 s.heap n l1 i) (h2 : At t2 s.heap (n + 1) l2 i) (h3 : At t3 s.heap (n + 2) l3 i) (k1 : Of t1 s.heap l1 us1) (k2 : Of t2 s.heap l2 us2) (k3 : Of t3 s.heap l3 us3) (hend : us1[i]? = none ∨ us2[i]? = none ∨ us3[i]? = none)
    (hE : ∀ h' e, (∀ d o, d ≠ n → d ≠ (n + 1) → d ≠ (n + 2) → d ≠ (n + 4) → d ≠ (n + 5) → s.heap.get? d = some o → h'.get? d = some o) → (∃ o, h'.get? e = some o ∧ o.cls = .type "StopIteration") → E (.ref e) { s with heap := h' }) :
    wpAny (model prog w) A (Builtin.«zip.__next__» ⟨[.ref (n + 5)], []⟩) Q E s := by
  have lts : (n + 5) < s.heap.objs.size := Heap.lt_size hz
  show wpAny _ _ (field (.ref (n + 5)) 2 >>= _) _ _ _
  refine wpAny_bind (wpAny_field hz rfl (x := .bool false) rfl ?_)
  show wpAny _ _ (field (.ref (n + 5)) 3 >>= _) _ _ _
  refine wpAny_bind (wpAny_field hz rfl (x := .ref (n + 3)) rfl ?_)
  refine wpAny_bind (wpAny_seqItems hI rfl ?_)
  show wpAny _ _ (Builtin.SmallTypes.ownedTupleIsFree (.ref (n + 5)) >>= _) _ _ _
  refine wpAny_bind ?_
  unfold Builtin.SmallTypes.ownedTupleIsFree
  refine wpAny_bind (wpAny_field hz rfl (x := .none) rfl (wpAny_pure ?_)); simp only [if_true]
  refine wpAny_bind (wpAny_rule ?_); refine wpAny_bind (wpAny_field hz rfl (x := .ref (n + 4)) rfl ?_)
  refine wpAny_bind (wpAny_setField_rec hz (by simp) fun g0 hz0 q0 => ?_)
  replace hz0 : IsZip g0 (n + 5) (n + 3) (n + 4) .ellipsis := hz0
  refine wpAny_bind ?_; simp only [List.zipIdx_cons, List.zipIdx_nil, List.forIn_cons, List.forIn_nil]
  have K0 : ∀ d o, d ≠ (n + 5) → s.heap.get? d = some o → g0.get? d = some o := fun d o e q => q0.extBut d o e q
  refine wpAny_bind (wpAny_bind (wpAny_onRaise ?_)); show wpAny _ _ (Builtin.SmallTypes.nextOf (.ref n) >>= _) _ _ _
  cases e1 : us1[i]? with
  | none =>
    refine wpAny_bind (dry hh (h1.to fun o => K0 _ o (by omega)) (k1.to fun o => K0 _ o (by omega)) e1 fun r e p he => ?_)
    obtain ⟨oe, hoe, hce⟩ := he
    have hz2 : IsZip r (n + 5) (n + 3) (n + 4) .ellipsis := p _ _ (ne (by omega)) (hz0)
    have hez : e ≠ (n + 5) := fun v => by subst v; rw [hz2] at hoe; cases hoe; simp at hce
    refine wpAny_setField_rec hz2 (by simp) fun r2 _ p2 => hE r2 e (fun d o u0 u1 u2 u3 u4 q => p2.extBut _ _ u4 (p _ _ u0 (K0 d o u4 q))) ⟨oe, p2.extBut _ _ hez hoe, hce⟩
  | some x1 =>
    have hend : us2[i]? = none ∨ us3[i]? = none := hend.resolve_left (by rw [e1]; simp)
    refine wpAny_bind (draw (h1.to fun o => K0 _ o (by omega)) (k1.to fun o => K0 _ o (by omega)) e1 fun g1 a1 q1 => wpAny_pure ?_)
    have K1 : ∀ d o, d ≠ n → d ≠ (n + 5) → s.heap.get? d = some o → g1.get? d = some o := fun d o u0 u1 q => q1.extBut d o u0 (K0 d o u1 q)
    have O1 : IsTp g1 (n + 4) #[c1, c2, c3] := K1 _ _ (by omega) (by omega) hO
    refine wpAny_bind (wpAny_seqItems O1 rfl ?_); refine wpAny_bind (putIn O1 (by simp) fun g2 O2 q2 => ?_)
    replace O2 : IsTp g2 (n + 4) #[x1, c2, c3] := O2
    refine wpAny_bind (wpAny_letGo (wpAny_pure ?_))
    have K2 : ∀ d o, d ≠ n → d ≠ (n + 4) → d ≠ (n + 5) → s.heap.get? d = some o → g2.get? d = some o := fun d o u0 u1 u2 q => q2.extBut d o u1 (K1 d o u0 u2 q)
    refine wpAny_bind (wpAny_bind (wpAny_onRaise ?_)); show wpAny _ _ (Builtin.SmallTypes.nextOf (.ref (n + 1)) >>= _) _ _ _
    cases e2 : us2[i]? with
    | none =>
      refine wpAny_bind (dry hh (h2.to fun o => K2 _ o (by omega) (by omega) (by omega)) (k2.to fun o => K2 _ o (by omega) (by omega) (by omega)) e2 fun r e p he => ?_)
      obtain ⟨oe, hoe, hce⟩ := he
      have hz2 : IsZip r (n + 5) (n + 3) (n + 4) .ellipsis := p _ _ (ne (by omega)) (q2.extBut _ _ (ne (by omega)) (q1.extBut _ _ (ne (by omega)) (hz0)))
      have hez : e ≠ (n + 5) := fun v => by subst v; rw [hz2] at hoe; cases hoe; simp at hce
      refine wpAny_setField_rec hz2 (by simp) fun r2 _ p2 => hE r2 e (fun d o u0 u1 u2 u3 u4 q => p2.extBut _ _ u4 (p _ _ u1 (K2 d o u0 u3 u4 q))) ⟨oe, p2.extBut _ _ hez hoe, hce⟩
    | some x2 =>
      have hend : us3[i]? = none := hend.resolve_left (by rw [e2]; simp)
      refine wpAny_bind (draw (h2.to fun o => K2 _ o (by omega) (by omega) (by omega)) (k2.to fun o => K2 _ o (by omega) (by omega) (by omega)) e2 fun g3 a2 q3 => wpAny_pure ?_)
      have K3 : ∀ d o, d ≠ n → d ≠ (n + 1) → d ≠ (n + 4) → d ≠ (n + 5) → s.heap.get? d = some o → g3.get? d = some o := fun d o u0 u1 u2 u3 q => q3.extBut d o u1 (K2 d o u0 u2 u3 q)
      have O3 : IsTp g3 (n + 4) #[x1, c2, c3] := q3.extBut _ _ (ne (by omega)) O2
      refine wpAny_bind (wpAny_seqItems O3 rfl ?_); refine wpAny_bind (putIn O3 (by simp) fun g4 O4 q4 => ?_)
      replace O4 : IsTp g4 (n + 4) #[x1, x2, c3] := O4
      refine wpAny_bind (wpAny_letGo (wpAny_pure ?_))
      have K4 : ∀ d o, d ≠ n → d ≠ (n + 1) → d ≠ (n + 4) → d ≠ (n + 5) → s.heap.get? d = some o → g4.get? d = some o := fun d o u0 u1 u2 u3 q => q4.extBut d o u2 (K3 d o u0 u1 u2 u3 q)
      refine wpAny_bind (wpAny_bind (wpAny_onRaise ?_)); show wpAny _ _ (Builtin.SmallTypes.nextOf (.ref (n + 2)) >>= _) _ _ _
      refine wpAny_bind (dry hh (h3.to fun o => K4 _ o (by omega) (by omega) (by omega) (by omega)) (k3.to fun o => K4 _ o (by omega) (by omega) (by omega) (by omega)) hend fun r e p he => ?_)
      obtain ⟨oe, hoe, hce⟩ := he
      have hz2 : IsZip r (n + 5) (n + 3) (n + 4) .ellipsis := p _ _ (ne (by omega)) (q4.extBut _ _ (ne (by omega)) (q3.extBut _ _ (ne (by omega)) (q2.extBut _ _ (ne (by omega)) (q1.extBut _ _ (ne (by omega)) (hz0)))))
      have hez : e ≠ (n + 5) := fun v => by subst v; rw [hz2] at hoe; cases hoe; simp at hce
      refine wpAny_setField_rec hz2 (by simp) fun r2 _ p2 => hE r2 e (fun d o u0 u1 u2 u3 u4 q => p2.extBut _ _ u4 (p _ _ u2 (K4 d o u0 u1 u3 u4 q))) ⟨oe, p2.extBut _ _ hez hoe, hce⟩
theorem pyNext3 {n l1 l2 l3 : Nat} {t1 t2 t3 : Bool} {i : Nat} {us1 us2 us3 : Array Value} {c1 c2 c3 : Value} {x1 x2 x3 : Value} {Q : Option Value → Shared → Prop} (b1 : l1 < n) (b2 : l2 < n) (b3 : l3 < n)
    (hz : IsZip s.heap (n + 5) (n + 3) (n + 4) .none) (hI : IsTp s.heap (n + 3) #[.ref n, .ref (n + 1), .ref (n + 2)]) (hO : IsTp s.heap (n + 4) #[c1, c2, c3])
    (h1 : At t1 s.heap n l1 i) (h2 : At t2 s.heap (n + 1) l2 i) (h3 : At t3 s.heap (n + 2) l3 i) (k1 : Of t1 s.heap l1 us1) (k2 : Of t2 s.heap l2 us2) (k3 : Of t3 s.heap l3 us3) (e1 : us1[i]? = some x1) (e2 : us2[i]? = some x2) (e3 : us3[i]? = some x3)
    (hQ : ∀ h', IsZip h' (n + 5) (n + 3) (n + 4) (rawInt s.heap.objs.size) → IsTp h' (n + 4) #[x1, x2, x3] → At t1 h' n l1 (i + 1) → At t2 h' (n + 1) l2 (i + 1) → At t3 h' (n + 2) l3 (i + 1) → IsTp h' s.heap.objs.size #[x1, x2, x3] → h'.objs.size = s.heap.objs.size + 1 →
      (∀ d o, d ≠ n → d ≠ (n + 1) → d ≠ (n + 2) → d ≠ (n + 4) → d ≠ (n + 5) → s.heap.get? d = some o → h'.get? d = some o) → Q (some (.ref s.heap.objs.size)) { s with heap := h' }) :
    wpAny (model prog w) A (pyNext (.ref (n + 5))) Q E s := by
  have hT : s.TypeIs (.ref (n + 5)) "zip" := ⟨_, hz, rfl⟩
  unfold pyNext
  exact wpAny_bind (wpAny_attempt (wpAny_callSpecial?_slot (name := Str.ofString "__next__") hT F.slot_zip_next (wpAny_call_entry F.slot_zip_next hT F.entry_zip_next
      (next3 b1 b2 b3 hz hI hO h1 h2 h3 k1 k2 k3 e1 e2 e3 fun h' a1 a2 v1 v2 v3 a5 a6 a7 => wpAny_pure (hQ h' a1 a2 v1 v2 v3 a5 a6 a7)) (F.args_zip_next_1 _))))
theorem pyEnd3 {n l1 l2 l3 : Nat} {t1 t2 t3 : Bool} {i : Nat} {us1 us2 us3 : Array Value} {c1 c2 c3 : Value} {Q : Option Value → Shared → Prop} (hh : A.handled = none) (b1 : l1 < n) (b2 : l2 < n) (b3 : l3 < n)
    (hz : IsZip s.heap (n + 5) (n + 3) (n + 4) .none) (hI : IsTp s.heap (n + 3) #[.ref n, .ref (n + 1), .ref (n + 2)]) (hO : IsTp s.heap (n + 4) #[c1, c2, c3])
    (h1 : At t1 s.heap n l1 i) (h2 : At t2 s.heap (n + 1) l2 i) (h3 : At t3 s.heap (n + 2) l3 i) (k1 : Of t1 s.heap l1 us1) (k2 : Of t2 s.heap l2 us2) (k3 : Of t3 s.heap l3 us3) (hend : us1[i]? = none ∨ us2[i]? = none ∨ us3[i]? = none)
    (hQ : ∀ h', (∀ d o, d ≠ n → d ≠ (n + 1) → d ≠ (n + 2) → d ≠ (n + 4) → d ≠ (n + 5) → s.heap.get? d = some o → h'.get? d = some o) → Q none { s with heap := h' }) : wpAny (model prog w) A (pyNext (.ref (n + 5))) Q E s := by
  have hT : s.TypeIs (.ref (n + 5)) "zip" := ⟨_, hz, rfl⟩
  unfold pyNext
  refine wpAny_bind (wpAny_attempt (wpAny_callSpecial?_slot (name := Str.ofString "__next__") hT F.slot_zip_next (wpAny_call_entry F.slot_zip_next hT F.entry_zip_next (end3 hh b1 b2 b3 hz hI hO h1 h2 h3 k1 k2 k3 hend fun h' e hk he => ?_) (F.args_zip_next_1 _))))
  obtain ⟨o, ho, hc⟩ := he
  exact wpAny_bind (wpAny_isInstance (T := "StopIteration") (b := true) ⟨o, ho, hc⟩ isSubtype_stop (wpAny_pure (hQ _ hk)))

/-! ### made -/
def itO (t : Bool) (l : Addr) : Obj := { cls := .type (if t = true then "tuple_iterator" else "list_iterator"), data := .fields #[.ref l, .int 0 0] }
theorem At.mk {t : Bool} {h : Heap} {j l : Addr} (e : h.get? j = some (itO t l)) : At t h j l 0 := by
  cases t
  · exact ⟨_, e, rfl, rfl⟩
  · exact ⟨_, e, rfl, rfl⟩
theorem iterOf {t : Bool} {l : Addr} {us : Array Value} {Q : Value → Shared → Prop} (k : Of t s.heap l us) (h : Q (.ref s.heap.objs.size) { s with heap := s.heap.push (itO t l) }) : wpAny (model prog w) A (pyIter (.ref l)) Q E s := by
  cases t
  · exact wpAny_pyIter_list k h
  · exact wpAny_pyIter_tuple k h
abbrev mk2_0 (h : Heap) (t1 : Bool) (t2 : Bool) (l1 : Addr) (l2 : Addr) : Heap := h
abbrev mk2_1 (h : Heap) (t1 : Bool) (t2 : Bool) (l1 : Addr) (l2 : Addr) : Heap := (mk2_0 h t1 t2 l1 l2).push (itO t1 l1)
abbrev mk2_2 (h : Heap) (t1 : Bool) (t2 : Bool) (l1 : Addr) (l2 : Addr) : Heap := (mk2_1 h t1 t2 l1 l2).push (itO t2 l2)
abbrev mk2_3 (h : Heap) (t1 : Bool) (t2 : Bool) (l1 : Addr) (l2 : Addr) : Heap := (mk2_2 h t1 t2 l1 l2).push { cls := .type "tuple", data := .seq #[.ref (mk2_0 h t1 t2 l1 l2).objs.size, .ref (mk2_1 h t1 t2 l1 l2).objs.size] }
abbrev mk2_4 (h : Heap) (t1 : Bool) (t2 : Bool) (l1 : Addr) (l2 : Addr) : Heap := (mk2_3 h t1 t2 l1 l2).push { cls := .type "tuple", data := .seq #[.none, .none] }
abbrev mk2_5 (h : Heap) (t1 : Bool) (t2 : Bool) (l1 : Addr) (l2 : Addr) : Heap := (mk2_4 h t1 t2 l1 l2).push { cls := .type "zip", data := .fields #[.none, .bool false, .bool false, .ref (mk2_2 h t1 t2 l1 l2).objs.size, .ref (mk2_3 h t1 t2 l1 l2).objs.size] }
theorem new2 (t1 : Bool) (t2 : Bool) (l1 : Addr) (l2 : Addr) (us1 : Array Value) (us2 : Array Value) :
    Meets (Builtin.«zip.__new__» ⟨[.type "zip", .ref l1, .ref l2], []⟩) (fun _ R s => Of t1 s.heap l1 us1 ∧ Of t2 s.heap l2 us2 ∧
      R (.ok (.ret (.ref (mk2_4 s.heap t1 t2 l1 l2).objs.size))) { s with heap := mk2_5 s.heap t1 t2 l1 l2 }) :=
  .of_wp fun prog w A R s h => by
    obtain ⟨hp, g, d, tk, os⟩ := s; obtain ⟨hl1, hl2, h⟩ := h
    have hsub := sub_zip
    have hL1 : Of t1 (Shared.heap ⟨mk2_0 hp t1 t2 l1 l2, g, d, tk, os⟩) l1 us1 := hl1.to fun o e => e
    have hL2 : Of t2 (Shared.heap ⟨mk2_1 hp t1 t2 l1 l2, g, d, tk, os⟩) l2 us2 := hl2.to fun o e => Heap.get?_push_of_some _ (e)
    wp_walk using iterOf hL1, iterOf hL2
    exact ⟨_, rfl, h⟩
theorem tc2 (a1 a2 : Value) : checkTypeCall "zip" ⟨[a1, a2], []⟩ = pure () := by kernel_rfl
theorem nc2 (a1 a2 : Value) : checkBuiltinCall "zip.__new__" ⟨[.type "zip", a1, a2], []⟩ = pure () := by kernel_rfl
theorem ao2 (o a1 a2 : Value) : argsOk "object.__init__" ⟨[o, a1, a2], []⟩ := by
  unfold argsOk; rw [signature?_of (id := "object.__init__") (n := ['_', '_', 't', 'i', 'n', 'i', '_', '_']) (o := ['t', 'c', 'e', 'j', 'b', 'o']) (by kernel_rfl) F.owner_object]; kernel_rfl
theorem call2 {t1 t2 : Bool} {l1 l2 : Addr} {us1 us2 : Array Value} {Q : Value → Shared → Prop} (hl1 : Of t1 s.heap l1 us1) (hl2 : Of t2 s.heap l2 us2)
    (h : ∀ h', IsZip h' (s.heap.objs.size + 4) (s.heap.objs.size + 2) (s.heap.objs.size + 3) .none → IsTp h' (s.heap.objs.size + 2) #[.ref s.heap.objs.size, .ref (s.heap.objs.size + 1)] → IsTp h' (s.heap.objs.size + 3) #[.none, .none] → At t1 h' s.heap.objs.size l1 0 → At t2 h' (s.heap.objs.size + 1) l2 0 →
      (∀ c o, s.heap.get? c = some o → h'.get? c = some o) → Q (.ref (s.heap.objs.size + 4)) { s with heap := h' }) :
    wpAny (model prog w) A (call (.type "zip") [.ref l1, .ref l2]) Q E s := by
  refine callType_new F.called_zip (by decide) (tc2 _ _) (nc2 _ _) (fun obj => ao2 obj _ _) F.entry_zip_new
    (new2 t1 t2 l1 l2 us1 us2) ⟨hl1, hl2, ?_⟩
  have z1 : (mk2_1 s.heap t1 t2 l1 l2).objs.size = s.heap.objs.size + 1 := by rw [Heap.size_push]
  have z2 : (mk2_2 s.heap t1 t2 l1 l2).objs.size = s.heap.objs.size + 2 := by rw [Heap.size_push, z1]
  have z3 : (mk2_3 s.heap t1 t2 l1 l2).objs.size = s.heap.objs.size + 3 := by rw [Heap.size_push, z2]
  have z4 : (mk2_4 s.heap t1 t2 l1 l2).objs.size = s.heap.objs.size + 4 := by rw [Heap.size_push, z3]
  have z5 : (mk2_5 s.heap t1 t2 l1 l2).objs.size = s.heap.objs.size + 5 := by rw [Heap.size_push, z4]
  have g1 : (mk2_5 s.heap t1 t2 l1 l2).get? (mk2_0 s.heap t1 t2 l1 l2).objs.size = some _ := Heap.get?_push_of_some _ (Heap.get?_push_of_some _ (Heap.get?_push_of_some _ (Heap.get?_push_of_some _ (Heap.get?_push_size _ rfl))))
  have g2 : (mk2_5 s.heap t1 t2 l1 l2).get? (mk2_1 s.heap t1 t2 l1 l2).objs.size = some _ := Heap.get?_push_of_some _ (Heap.get?_push_of_some _ (Heap.get?_push_of_some _ (Heap.get?_push_size _ rfl)))
  have g3 : (mk2_5 s.heap t1 t2 l1 l2).get? (mk2_2 s.heap t1 t2 l1 l2).objs.size = some _ := Heap.get?_push_of_some _ (Heap.get?_push_of_some _ (Heap.get?_push_size _ rfl))
  have g4 : (mk2_5 s.heap t1 t2 l1 l2).get? (mk2_3 s.heap t1 t2 l1 l2).objs.size = some _ := Heap.get?_push_of_some _ (Heap.get?_push_size _ rfl)
  have g5 : (mk2_5 s.heap t1 t2 l1 l2).get? (mk2_4 s.heap t1 t2 l1 l2).objs.size = some _ := Heap.get?_push_size _ rfl
  show _ ∧ _
  rw [z1] at g2
  rw [z1, z2] at g3
  rw [z3] at g4
  rw [z2, z3, z4] at g5
  rw [z4]
  exact ⟨⟨_, g5, rfl⟩, h _ g5 g3 g4 (At.mk g1) (At.mk g2) fun c o x => Heap.get?_push_of_some _ (Heap.get?_push_of_some _ (Heap.get?_push_of_some _ (Heap.get?_push_of_some _ (Heap.get?_push_of_some _ (x)))))⟩
abbrev mk3_0 (h : Heap) (t1 : Bool) (t2 : Bool) (t3 : Bool) (l1 : Addr) (l2 : Addr) (l3 : Addr) : Heap := h
abbrev mk3_1 (h : Heap) (t1 : Bool) (t2 : Bool) (t3 : Bool) (l1 : Addr) (l2 : Addr) (l3 : Addr) : Heap := (mk3_0 h t1 t2 t3 l1 l2 l3).push (itO t1 l1)
abbrev mk3_2 (h : Heap) (t1 : Bool) (t2 : Bool) (t3 : Bool) (l1 : Addr) (l2 : Addr) (l3 : Addr) : Heap := (mk3_1 h t1 t2 t3 l1 l2 l3).push (itO t2 l2)
abbrev mk3_3 (h : Heap) (t1 : Bool) (t2 : Bool) (t3 : Bool) (l1 : Addr) (l2 : Addr) (l3 : Addr) : Heap := (mk3_2 h t1 t2 t3 l1 l2 l3).push (itO t3 l3)
abbrev mk3_4 (h : Heap) (t1 : Bool) (t2 : Bool) (t3 : Bool) (l1 : Addr) (l2 : Addr) (l3 : Addr) : Heap := (mk3_3 h t1 t2 t3 l1 l2 l3).push { cls := .type "tuple", data := .seq #[.ref (mk3_0 h t1 t2 t3 l1 l2 l3).objs.size, .ref (mk3_1 h t1 t2 t3 l1 l2 l3).objs.size, .ref (mk3_2 h t1 t2 t3 l1 l2 l3).objs.size] }
abbrev mk3_5 (h : Heap) (t1 : Bool) (t2 : Bool) (t3 : Bool) (l1 : Addr) (l2 : Addr) (l3 : Addr) : Heap := (mk3_4 h t1 t2 t3 l1 l2 l3).push { cls := .type "tuple", data := .seq #[.none, .none, .none] }
abbrev mk3_6 (h : Heap) (t1 : Bool) (t2 : Bool) (t3 : Bool) (l1 : Addr) (l2 : Addr) (l3 : Addr) : Heap := (mk3_5 h t1 t2 t3 l1 l2 l3).push { cls := .type "zip", data := .fields #[.none, .bool false, .bool false, .ref (mk3_3 h t1 t2 t3 l1 l2 l3).objs.size, .ref (mk3_4 h t1 t2 t3 l1 l2 l3).objs.size] }
theorem new3 (t1 : Bool) (t2 : Bool) (t3 : Bool) (l1 : Addr) (l2 : Addr) (l3 : Addr) (us1 : Array Value) (us2 : Array Value) (us3 : Array Value) :
    Meets (Builtin.«zip.__new__» ⟨[.type "zip", .ref l1, .ref l2, .ref l3], []⟩) (fun _ R s => Of t1 s.heap l1 us1 ∧ Of t2 s.heap l2 us2 ∧ Of t3 s.heap l3 us3 ∧
      R (.ok (.ret (.ref (mk3_5 s.heap t1 t2 t3 l1 l2 l3).objs.size))) { s with heap := mk3_6 s.heap t1 t2 t3 l1 l2 l3 }) :=
  .of_wp fun prog w A R s h => by
    obtain ⟨hp, g, d, tk, os⟩ := s; obtain ⟨hl1, hl2, hl3, h⟩ := h
    have hsub := sub_zip
    have hL1 : Of t1 (Shared.heap ⟨mk3_0 hp t1 t2 t3 l1 l2 l3, g, d, tk, os⟩) l1 us1 := hl1.to fun o e => e
    have hL2 : Of t2 (Shared.heap ⟨mk3_1 hp t1 t2 t3 l1 l2 l3, g, d, tk, os⟩) l2 us2 := hl2.to fun o e => Heap.get?_push_of_some _ (e)
    have hL3 : Of t3 (Shared.heap ⟨mk3_2 hp t1 t2 t3 l1 l2 l3, g, d, tk, os⟩) l3 us3 := hl3.to fun o e => Heap.get?_push_of_some _ (Heap.get?_push_of_some _ (e))
    wp_walk using iterOf hL1, iterOf hL2, iterOf hL3
    exact ⟨_, rfl, h⟩
theorem tc3 (a1 a2 a3 : Value) : checkTypeCall "zip" ⟨[a1, a2, a3], []⟩ = pure () := by kernel_rfl
theorem nc3 (a1 a2 a3 : Value) : checkBuiltinCall "zip.__new__" ⟨[.type "zip", a1, a2, a3], []⟩ = pure () := by kernel_rfl
theorem ao3 (o a1 a2 a3 : Value) : argsOk "object.__init__" ⟨[o, a1, a2, a3], []⟩ := by
  unfold argsOk; rw [signature?_of (id := "object.__init__") (n := ['_', '_', 't', 'i', 'n', 'i', '_', '_']) (o := ['t', 'c', 'e', 'j', 'b', 'o']) (by kernel_rfl) F.owner_object]; kernel_rfl
theorem call3 {t1 t2 t3 : Bool} {l1 l2 l3 : Addr} {us1 us2 us3 : Array Value} {Q : Value → Shared → Prop} (hl1 : Of t1 s.heap l1 us1) (hl2 : Of t2 s.heap l2 us2) (hl3 : Of t3 s.heap l3 us3)
    (h : ∀ h', IsZip h' (s.heap.objs.size + 5) (s.heap.objs.size + 3) (s.heap.objs.size + 4) .none → IsTp h' (s.heap.objs.size + 3) #[.ref s.heap.objs.size, .ref (s.heap.objs.size + 1), .ref (s.heap.objs.size + 2)] → IsTp h' (s.heap.objs.size + 4) #[.none, .none, .none] → At t1 h' s.heap.objs.size l1 0 → At t2 h' (s.heap.objs.size + 1) l2 0 → At t3 h' (s.heap.objs.size + 2) l3 0 →
      (∀ c o, s.heap.get? c = some o → h'.get? c = some o) → Q (.ref (s.heap.objs.size + 5)) { s with heap := h' }) :
    wpAny (model prog w) A (call (.type "zip") [.ref l1, .ref l2, .ref l3]) Q E s := by
  refine callType_new F.called_zip (by decide) (tc3 _ _ _) (nc3 _ _ _) (fun obj => ao3 obj _ _ _) F.entry_zip_new
    (new3 t1 t2 t3 l1 l2 l3 us1 us2 us3) ⟨hl1, hl2, hl3, ?_⟩
  have z1 : (mk3_1 s.heap t1 t2 t3 l1 l2 l3).objs.size = s.heap.objs.size + 1 := by rw [Heap.size_push]
  have z2 : (mk3_2 s.heap t1 t2 t3 l1 l2 l3).objs.size = s.heap.objs.size + 2 := by rw [Heap.size_push, z1]
  have z3 : (mk3_3 s.heap t1 t2 t3 l1 l2 l3).objs.size = s.heap.objs.size + 3 := by rw [Heap.size_push, z2]
  have z4 : (mk3_4 s.heap t1 t2 t3 l1 l2 l3).objs.size = s.heap.objs.size + 4 := by rw [Heap.size_push, z3]
  have z5 : (mk3_5 s.heap t1 t2 t3 l1 l2 l3).objs.size = s.heap.objs.size + 5 := by rw [Heap.size_push, z4]
  have z6 : (mk3_6 s.heap t1 t2 t3 l1 l2 l3).objs.size = s.heap.objs.size + 6 := by rw [Heap.size_push, z5]
  have g1 : (mk3_6 s.heap t1 t2 t3 l1 l2 l3).get? (mk3_0 s.heap t1 t2 t3 l1 l2 l3).objs.size = some _ := Heap.get?_push_of_some _ (Heap.get?_push_of_some _ (Heap.get?_push_of_some _ (Heap.get?_push_of_some _ (Heap.get?_push_of_some _ (Heap.get?_push_size _ rfl)))))
  have g2 : (mk3_6 s.heap t1 t2 t3 l1 l2 l3).get? (mk3_1 s.heap t1 t2 t3 l1 l2 l3).objs.size = some _ := Heap.get?_push_of_some _ (Heap.get?_push_of_some _ (Heap.get?_push_of_some _ (Heap.get?_push_of_some _ (Heap.get?_push_size _ rfl))))
  have g3 : (mk3_6 s.heap t1 t2 t3 l1 l2 l3).get? (mk3_2 s.heap t1 t2 t3 l1 l2 l3).objs.size = some _ := Heap.get?_push_of_some _ (Heap.get?_push_of_some _ (Heap.get?_push_of_some _ (Heap.get?_push_size _ rfl)))
  have g4 : (mk3_6 s.heap t1 t2 t3 l1 l2 l3).get? (mk3_3 s.heap t1 t2 t3 l1 l2 l3).objs.size = some _ := Heap.get?_push_of_some _ (Heap.get?_push_of_some _ (Heap.get?_push_size _ rfl))
  have g5 : (mk3_6 s.heap t1 t2 t3 l1 l2 l3).get? (mk3_4 s.heap t1 t2 t3 l1 l2 l3).objs.size = some _ := Heap.get?_push_of_some _ (Heap.get?_push_size _ rfl)
  have g6 : (mk3_6 s.heap t1 t2 t3 l1 l2 l3).get? (mk3_5 s.heap t1 t2 t3 l1 l2 l3).objs.size = some _ := Heap.get?_push_size _ rfl
  show _ ∧ _
  rw [z1] at g2
  rw [z2] at g3
  rw [z1, z2, z3] at g4
  rw [z4] at g5
  rw [z3, z4, z5] at g6
  rw [z5]
  exact ⟨⟨_, g6, rfl⟩, h _ g6 g4 g5 (At.mk g1) (At.mk g2) (At.mk g3) fun c o x => Heap.get?_push_of_some _ (Heap.get?_push_of_some _ (Heap.get?_push_of_some _ (Heap.get?_push_of_some _ (Heap.get?_push_of_some _ (Heap.get?_push_of_some _ (x))))))⟩
end
theorem ltA {a b : Nat} (h : a < b) : @LT.lt Addr _ a b := h
/-! ### what is walked -/
def Sq (K : PySem.W.Frag) (t : Bool) (H : Hp) (a : Addr) (us : List V) : Prop := if t = true then SqT K H a us else SqL K H a us
theorem Sq.of {X : Cx} {pins : List (Addr × Obj)} {σ : L2.St} {H : Hp} {s : Shared} {t : Bool} {a : Addr} {us : List V} (I : Inv X pins σ H s) (h : Sq X.K t H a us) : ∃ its : List Value, Vals us its ∧ Of t s.heap a its.toArray ∧ a < s.heap.objs.size := by
  cases t
  · obtain ⟨its, rv, p, _⟩ := I.list h
    exact ⟨its, rv, p.isList, p.lt⟩
  · obtain ⟨its, rv, p, _⟩ := I.tuple h
    obtain ⟨o, ho, _⟩ := id p
    exact ⟨its, rv, p, Heap.lt_size ho⟩
theorem Sq.inj {X : Cx} {pins : List (Addr × Obj)} {σ : L2.St} {H : Hp} {s : Shared} {t : Bool} {a : Addr} {us vs : List V} (I : Inv X pins σ H s) (h : Sq X.K t H a us) (h' : Sq X.K t H a vs) : us = vs := by
  cases t
  · exact I.list_inj h h'
  · exact I.tuple_inj h h'
/-- 2 at once, as they stand at each turn -/
def It2 (K : PySem.W.Frag) (t1 : Bool) (t2 : Bool) (a1 : Addr) (a2 : Addr) : It :=
  ⟨fun i H => ∃ (us1 us2 : List V) (x1 x2 : V), Sq K t1 H a1 us1 ∧ Sq K t2 H a2 us2 ∧ us1[i]? = some x1 ∧ us2[i]? = some x2,
    fun i H v H' => ∃ (T : Addr) (x1 x2 : V), v = .ref T ∧ H T = none ∧ H' = upd H T (.tup [x1, x2]) ∧ (∀ us, Sq K t1 H a1 us → us[i]? = some x1) ∧ (∀ us, Sq K t2 H a2 us → us[i]? = some x2),
    fun i H => ∃ us1 us2 : List V, Sq K t1 H a1 us1 ∧ Sq K t2 H a2 us2 ∧ (us1.length ≤ i ∨ us2.length ≤ i)⟩
theorem turn2 {P : Program} {w : World} {K : PySem.W.Frag} {elts : List Expr} {kk : Nat} {tpos : Pos} {n : Nat} {t1 t2 : Bool} {a1 a2 : Nat} (b1 : a1 < n) (b2 : a2 < n) :
    Turn P w K (.Tuple elts kk tpos) (It2 K t1 t2 a1 a2) [(n + 4), (n + 2), (n + 3), n, (n + 1)] (n + 4) (fun i h => IsZip h (n + 4) (n + 2) (n + 3) .none ∧ IsTp h (n + 2) #[.ref n, .ref (n + 1)] ∧ (∃ y1 y2, IsTp h (n + 3) #[y1, y2]) ∧ At t1 h n a1 i ∧ At t2 h (n + 1) a2 i) where
  mem := by simp
  obj := fun i h st c hc => by
    obtain ⟨hz, hI, ⟨y1, y2, hO⟩, h1, h2⟩ := st
    have e' : c = (n + 4) ∨ c = (n + 2) ∨ c = (n + 3) ∨ c = n ∨ c = (n + 1) := by simpa using hc
    rcases e' with q | q | q | q | q <;> rw [q]
    · exact ⟨_, hz, fun v q => nomatch q⟩
    · exact ⟨_, hI, fun v q => nomatch q⟩
    · exact ⟨_, hO, fun v q => nomatch q⟩
    · exact h1.there
    · exact h2.there
  keep := fun i h h' st k => by
    obtain ⟨hz, hI, ⟨y1, y2, hO⟩, h1, h2⟩ := st
    exact ⟨k (n + 4) (by simp) _ hz, k (n + 2) (by simp) _ hI, ⟨y1, y2, k (n + 3) (by simp) _ hO⟩, h1.to fun o q => k n (by simp) o q, h2.to fun o q => k (n + 1) (by simp) o q⟩
  item := by
    intro X hP hw hK hc i pins s σ H E I hf st hg
    subst hP hw hK
    obtain ⟨hz, hI, ⟨y1, y2, hO⟩, h1, h2⟩ := st
    obtain ⟨us1, us2, x1, x2, hq1, hq2, hx1, hx2⟩ := hg
    obtain ⟨its1, rv1, p1, _⟩ := Sq.of I hq1
    obtain ⟨u1, hu1, ru1⟩ := rv1.get hx1
    obtain ⟨its2, rv2, p2, _⟩ := Sq.of I hq2
    obtain ⟨u2, hu2, ru2⟩ := rv2.get hx2
    have hzl : (n + 4) < s.heap.objs.size := Heap.lt_size hz
    refine pyNext2 b1 b2 hz hI hO h1 h2 p1 p2 (x1 := u1) (x2 := u2) (by simpa using hu1) (by simpa using hu2) fun h' z' O' w1 w2 hT hsz hk => ?_
    refine ⟨_, rfl, wpAny_letOwnedTupleGo_zip (s := { s with heap := h' }) z' fun h'' z'' sb => ?_⟩
    have hT2 : h''.get? s.heap.objs.size = some { cls := .type "tuple", data := .seq ([u1, u2] : List Value).toArray } := (sb.2 _ (ne (by omega))).trans hT
    have new : ObjOk X.prog X.w (upd H s.heap.objs.size (.tup [x1, x2])) h'' s.heap.objs.size (.tup [x1, x2]) :=
      ⟨by show 2 ≤ sizeLine; decide, [u1, u2], .cons ru1 (.cons ru2 (.nil)), ⟨_, hT2, rfl, _, rfl⟩⟩
    have I1 : Inv X pins σ (upd H s.heap.objs.size (.tup [x1, x2])) { s with heap := h'' } :=
      I.turnedNew (t' := s.toks) (ch := [(n + 4), (n + 2), (n + 3), n, (n + 1)]) (fun c o hb q => (sb.2 c (fun q' => hb (by simp [q']))).trans (hk c o (fun q' => hb (by simp [q'])) (fun q' => hb (by simp [q'])) (fun q' => hb (by simp [q'])) (fun q' => hb (by simp [q'])) q)) hf (Nat.le_refl _) new
    refine ⟨.ref s.heap.objs.size, _, I1, rfl, ⟨_, x1, x2, rfl, I.hok.fresh (Nat.le_refl _), rfl, fun us hl => by rw [Sq.inj I hl hq1]; exact hx1, fun us hl => by rw [Sq.inj I hl hq2]; exact hx2⟩, ⟨z'', ?_, ⟨u1, u2, ?_⟩, ?_, ?_⟩, fun c hcm => ?_⟩
    · exact (sb.2 _ (ne (by omega))).trans (hk _ _ (ne (by omega)) (ne (by omega)) (ne (by omega)) (ne (by omega)) hI)
    · exact (sb.2 _ (ne (by omega))).trans O'
    · exact w1.to fun o q => (sb.2 _ (ne (by omega))).trans q
    · exact w2.to fun o q => (sb.2 _ (ne (by omega))).trans q
    · have hlt : c < s.heap.objs.size := by
        have e' : c = (n + 4) ∨ c = (n + 2) ∨ c = (n + 3) ∨ c = n ∨ c = (n + 1) := by simpa using hcm
        have hb : (n + 4) < s.heap.objs.size := hzl
        rcases e' with q | q | q | q | q <;> (rw [q]; exact ltA (by omega))
      rw [upd_ne (Nat.ne_of_lt hlt)]
      exact (hf c hcm).1
  done := by
    intro X hP hw hK hc i pins s σ H E I hf st hg
    subst hP hw hK
    obtain ⟨hz, hI, ⟨y1, y2, hO⟩, h1, h2⟩ := st
    obtain ⟨us1, us2, hq1, hq2, hend⟩ := hg
    obtain ⟨its1, rv1, p1, _⟩ := Sq.of I hq1
    have l1 := rv1.length
    obtain ⟨its2, rv2, p2, _⟩ := Sq.of I hq2
    have l2 := rv2.length
    have he : its1.toArray[i]? = none ∨ its2.toArray[i]? = none := by
      simp only [Array.getElem?_eq_none_iff, List.size_toArray]; omega
    exact pyEnd2 (I.ok.hd hc) b1 b2 hz hI hO h1 h2 p1 p2 he fun h' hk => ⟨rfl, I.turnedL (t' := s.toks) (ch := [(n + 4), (n + 2), (n + 3), n, (n + 1)]) (fun c o hb q => hk c o (fun q' => hb (by simp [q'])) (fun q' => hb (by simp [q'])) (fun q' => hb (by simp [q'])) (fun q' => hb (by simp [q'])) q) hf⟩
  self := fun A i s Q E st h => wpAny_pyIter_zip st.1 h
def iZ2 (K : PySem.W.Frag) (ta : TA) : TI := fun σ H R => ta σ H fun vs H1 => ∃ t1 t2 a1 a2 us1 us2, vs = [.ref a1, .ref a2] ∧ Sq K t1 H1 a1 us1 ∧ Sq K t2 H1 a2 us2 ∧ R (It2 K t1 t2 a1 a2) H1
theorem pi_z2 {X : Cx} {e e2 : Expr} {ta : TA} {p pos tpos : Pos} {elts : List Expr} {kk : Nat} (hg : Gl X "zip") (hm : X.mg "zip" = none) (ha : PA X [e, e2] ta)
    (hs : starEach [e, e2] X.env = (false, eval e X.env) :: starEach [e2] X.env := by rfl) (hpl : (backTo pos (starEach [e2] X.env)).any (·.1) = false := by rfl) :
    PI X (.Tuple elts kk tpos) (.Call (.Name "zip" p) [e, e2] [] pos) (iZ2 X.K ta) := by
  refine ⟨fun pins s σ H R I h => ?_⟩
  refine Call_ (ld_blt I hg hm PyProof.Rows.boot_zip (PyProof.Rows.callWith_type1 (thn (ha.run pos pins s σ H _ I h) fun us s1 ⟨vs, H1, I1, r1, q1⟩ => ?_) hs hpl))
  obtain ⟨t1, t2, a1, a2, us1, us2, ex, hq1, hq2, q⟩ := q1
  subst ex
  obtain rfl : us = [.ref a1, .ref a2] := by
    rcases r1 with _ | ⟨v1, r1⟩; rcases r1 with _ | ⟨v2, r1⟩; cases r1
    cases v1; cases v2; rfl
  obtain ⟨its1, rv1, p1, lt1⟩ := Sq.of I1 hq1
  obtain ⟨its2, rv2, p2, lt2⟩ := Sq.of I1 hq2
  refine call2 p1 p2 fun h' hz hI hO h1 h2 hk => wpAny_pyIter_zip hz ?_
  have I2 : Inv X pins σ H1 { s1 with heap := h' } := I1.kept (t' := s1.toks) hk
  refine ⟨s1.heap.objs.size + 4, [s1.heap.objs.size + 4, s1.heap.objs.size + 2, s1.heap.objs.size + 3, s1.heap.objs.size, s1.heap.objs.size + 1], _, _, H1, rfl, I2, turn2 lt1 lt2, ⟨hz, hI, ⟨_, _, hO⟩, h1, h2⟩, fun c hcm => ?_, q⟩
  have e' : c = s1.heap.objs.size + 4 ∨ c = s1.heap.objs.size + 2 ∨ c = s1.heap.objs.size + 3 ∨ c = s1.heap.objs.size ∨ c = s1.heap.objs.size + 1 := by simpa using hcm
  have hle : s1.heap.objs.size ≤ c := by rcases e' with q | q | q | q | q <;> (rw [q]; first | exact Nat.le_add_right _ _ | exact Nat.le_refl _)
  exact I1.fpOk hle (I1.hok.fresh hle)
/-- 3 at once, as they stand at each turn -/
def It3 (K : PySem.W.Frag) (t1 : Bool) (t2 : Bool) (t3 : Bool) (a1 : Addr) (a2 : Addr) (a3 : Addr) : It :=
  ⟨fun i H => ∃ (us1 us2 us3 : List V) (x1 x2 x3 : V), Sq K t1 H a1 us1 ∧ Sq K t2 H a2 us2 ∧ Sq K t3 H a3 us3 ∧ us1[i]? = some x1 ∧ us2[i]? = some x2 ∧ us3[i]? = some x3,
    fun i H v H' => ∃ (T : Addr) (x1 x2 x3 : V), v = .ref T ∧ H T = none ∧ H' = upd H T (.tup [x1, x2, x3]) ∧ (∀ us, Sq K t1 H a1 us → us[i]? = some x1) ∧ (∀ us, Sq K t2 H a2 us → us[i]? = some x2) ∧ (∀ us, Sq K t3 H a3 us → us[i]? = some x3),
    fun i H => ∃ us1 us2 us3 : List V, Sq K t1 H a1 us1 ∧ Sq K t2 H a2 us2 ∧ Sq K t3 H a3 us3 ∧ (us1.length ≤ i ∨ us2.length ≤ i ∨ us3.length ≤ i)⟩
theorem turn3 {P : Program} {w : World} {K : PySem.W.Frag} {elts : List Expr} {kk : Nat} {tpos : Pos} {n : Nat} {t1 t2 t3 : Bool} {a1 a2 a3 : Nat} (b1 : a1 < n) (b2 : a2 < n) (b3 : a3 < n) :
    Turn P w K (.Tuple elts kk tpos) (It3 K t1 t2 t3 a1 a2 a3) [(n + 5), (n + 3), (n + 4), n, (n + 1), (n + 2)] (n + 5) (fun i h => IsZip h (n + 5) (n + 3) (n + 4) .none ∧ IsTp h (n + 3) #[.ref n, .ref (n + 1), .ref (n + 2)] ∧ (∃ y1 y2 y3, IsTp h (n + 4) #[y1, y2, y3]) ∧ At t1 h n a1 i ∧ At t2 h (n + 1) a2 i ∧ At t3 h (n + 2) a3 i) where
  mem := by simp
  obj := fun i h st c hc => by
    obtain ⟨hz, hI, ⟨y1, y2, y3, hO⟩, h1, h2, h3⟩ := st
    have e' : c = (n + 5) ∨ c = (n + 3) ∨ c = (n + 4) ∨ c = n ∨ c = (n + 1) ∨ c = (n + 2) := by simpa using hc
    rcases e' with q | q | q | q | q | q <;> rw [q]
    · exact ⟨_, hz, fun v q => nomatch q⟩
    · exact ⟨_, hI, fun v q => nomatch q⟩
    · exact ⟨_, hO, fun v q => nomatch q⟩
    · exact h1.there
    · exact h2.there
    · exact h3.there
  keep := fun i h h' st k => by
    obtain ⟨hz, hI, ⟨y1, y2, y3, hO⟩, h1, h2, h3⟩ := st
    exact ⟨k (n + 5) (by simp) _ hz, k (n + 3) (by simp) _ hI, ⟨y1, y2, y3, k (n + 4) (by simp) _ hO⟩, h1.to fun o q => k n (by simp) o q, h2.to fun o q => k (n + 1) (by simp) o q, h3.to fun o q => k (n + 2) (by simp) o q⟩
  item := by
    intro X hP hw hK hc i pins s σ H E I hf st hg
    subst hP hw hK
    obtain ⟨hz, hI, ⟨y1, y2, y3, hO⟩, h1, h2, h3⟩ := st
    obtain ⟨us1, us2, us3, x1, x2, x3, hq1, hq2, hq3, hx1, hx2, hx3⟩ := hg
    obtain ⟨its1, rv1, p1, _⟩ := Sq.of I hq1
    obtain ⟨u1, hu1, ru1⟩ := rv1.get hx1
    obtain ⟨its2, rv2, p2, _⟩ := Sq.of I hq2
    obtain ⟨u2, hu2, ru2⟩ := rv2.get hx2
    obtain ⟨its3, rv3, p3, _⟩ := Sq.of I hq3
    obtain ⟨u3, hu3, ru3⟩ := rv3.get hx3
    have hzl : (n + 5) < s.heap.objs.size := Heap.lt_size hz
    refine pyNext3 b1 b2 b3 hz hI hO h1 h2 h3 p1 p2 p3 (x1 := u1) (x2 := u2) (x3 := u3) (by simpa using hu1) (by simpa using hu2) (by simpa using hu3) fun h' z' O' w1 w2 w3 hT hsz hk => ?_
    refine ⟨_, rfl, wpAny_letOwnedTupleGo_zip (s := { s with heap := h' }) z' fun h'' z'' sb => ?_⟩
    have hT2 : h''.get? s.heap.objs.size = some { cls := .type "tuple", data := .seq ([u1, u2, u3] : List Value).toArray } := (sb.2 _ (ne (by omega))).trans hT
    have new : ObjOk X.prog X.w (upd H s.heap.objs.size (.tup [x1, x2, x3])) h'' s.heap.objs.size (.tup [x1, x2, x3]) :=
      ⟨by show 3 ≤ sizeLine; decide, [u1, u2, u3], .cons ru1 (.cons ru2 (.cons ru3 (.nil))), ⟨_, hT2, rfl, _, rfl⟩⟩
    have I1 : Inv X pins σ (upd H s.heap.objs.size (.tup [x1, x2, x3])) { s with heap := h'' } :=
      I.turnedNew (t' := s.toks) (ch := [(n + 5), (n + 3), (n + 4), n, (n + 1), (n + 2)]) (fun c o hb q => (sb.2 c (fun q' => hb (by simp [q']))).trans (hk c o (fun q' => hb (by simp [q'])) (fun q' => hb (by simp [q'])) (fun q' => hb (by simp [q'])) (fun q' => hb (by simp [q'])) (fun q' => hb (by simp [q'])) q)) hf (Nat.le_refl _) new
    refine ⟨.ref s.heap.objs.size, _, I1, rfl, ⟨_, x1, x2, x3, rfl, I.hok.fresh (Nat.le_refl _), rfl, fun us hl => by rw [Sq.inj I hl hq1]; exact hx1, fun us hl => by rw [Sq.inj I hl hq2]; exact hx2, fun us hl => by rw [Sq.inj I hl hq3]; exact hx3⟩, ⟨z'', ?_, ⟨u1, u2, u3, ?_⟩, ?_, ?_, ?_⟩, fun c hcm => ?_⟩
    · exact (sb.2 _ (ne (by omega))).trans (hk _ _ (ne (by omega)) (ne (by omega)) (ne (by omega)) (ne (by omega)) (ne (by omega)) hI)
    · exact (sb.2 _ (ne (by omega))).trans O'
    · exact w1.to fun o q => (sb.2 _ (ne (by omega))).trans q
    · exact w2.to fun o q => (sb.2 _ (ne (by omega))).trans q
    · exact w3.to fun o q => (sb.2 _ (ne (by omega))).trans q
    · have hlt : c < s.heap.objs.size := by
        have e' : c = (n + 5) ∨ c = (n + 3) ∨ c = (n + 4) ∨ c = n ∨ c = (n + 1) ∨ c = (n + 2) := by simpa using hcm
        have hb : (n + 5) < s.heap.objs.size := hzl
        rcases e' with q | q | q | q | q | q <;> (rw [q]; exact ltA (by omega))
      rw [upd_ne (Nat.ne_of_lt hlt)]
      exact (hf c hcm).1
  done := by
    intro X hP hw hK hc i pins s σ H E I hf st hg
    subst hP hw hK
    obtain ⟨hz, hI, ⟨y1, y2, y3, hO⟩, h1, h2, h3⟩ := st
    obtain ⟨us1, us2, us3, hq1, hq2, hq3, hend⟩ := hg
    obtain ⟨its1, rv1, p1, _⟩ := Sq.of I hq1
    have l1 := rv1.length
    obtain ⟨its2, rv2, p2, _⟩ := Sq.of I hq2
    have l2 := rv2.length
    obtain ⟨its3, rv3, p3, _⟩ := Sq.of I hq3
    have l3 := rv3.length
    have he : its1.toArray[i]? = none ∨ its2.toArray[i]? = none ∨ its3.toArray[i]? = none := by
      simp only [Array.getElem?_eq_none_iff, List.size_toArray]; omega
    exact pyEnd3 (I.ok.hd hc) b1 b2 b3 hz hI hO h1 h2 h3 p1 p2 p3 he fun h' hk => ⟨rfl, I.turnedL (t' := s.toks) (ch := [(n + 5), (n + 3), (n + 4), n, (n + 1), (n + 2)]) (fun c o hb q => hk c o (fun q' => hb (by simp [q'])) (fun q' => hb (by simp [q'])) (fun q' => hb (by simp [q'])) (fun q' => hb (by simp [q'])) (fun q' => hb (by simp [q'])) q) hf⟩
  self := fun A i s Q E st h => wpAny_pyIter_zip st.1 h
def iZ3 (K : PySem.W.Frag) (ta : TA) : TI := fun σ H R => ta σ H fun vs H1 => ∃ t1 t2 t3 a1 a2 a3 us1 us2 us3, vs = [.ref a1, .ref a2, .ref a3] ∧ Sq K t1 H1 a1 us1 ∧ Sq K t2 H1 a2 us2 ∧ Sq K t3 H1 a3 us3 ∧ R (It3 K t1 t2 t3 a1 a2 a3) H1
theorem pi_z3 {X : Cx} {e e2 e3 : Expr} {ta : TA} {p pos tpos : Pos} {elts : List Expr} {kk : Nat} (hg : Gl X "zip") (hm : X.mg "zip" = none) (ha : PA X [e, e2, e3] ta)
    (hs : starEach [e, e2, e3] X.env = (false, eval e X.env) :: starEach [e2, e3] X.env := by rfl) (hpl : (backTo pos (starEach [e2, e3] X.env)).any (·.1) = false := by rfl) :
    PI X (.Tuple elts kk tpos) (.Call (.Name "zip" p) [e, e2, e3] [] pos) (iZ3 X.K ta) := by
  refine ⟨fun pins s σ H R I h => ?_⟩
  refine Call_ (ld_blt I hg hm PyProof.Rows.boot_zip (PyProof.Rows.callWith_type1 (thn (ha.run pos pins s σ H _ I h) fun us s1 ⟨vs, H1, I1, r1, q1⟩ => ?_) hs hpl))
  obtain ⟨t1, t2, t3, a1, a2, a3, us1, us2, us3, ex, hq1, hq2, hq3, q⟩ := q1
  subst ex
  obtain rfl : us = [.ref a1, .ref a2, .ref a3] := by
    rcases r1 with _ | ⟨v1, r1⟩; rcases r1 with _ | ⟨v2, r1⟩; rcases r1 with _ | ⟨v3, r1⟩; cases r1
    cases v1; cases v2; cases v3; rfl
  obtain ⟨its1, rv1, p1, lt1⟩ := Sq.of I1 hq1
  obtain ⟨its2, rv2, p2, lt2⟩ := Sq.of I1 hq2
  obtain ⟨its3, rv3, p3, lt3⟩ := Sq.of I1 hq3
  refine call3 p1 p2 p3 fun h' hz hI hO h1 h2 h3 hk => wpAny_pyIter_zip hz ?_
  have I2 : Inv X pins σ H1 { s1 with heap := h' } := I1.kept (t' := s1.toks) hk
  refine ⟨s1.heap.objs.size + 5, [s1.heap.objs.size + 5, s1.heap.objs.size + 3, s1.heap.objs.size + 4, s1.heap.objs.size, s1.heap.objs.size + 1, s1.heap.objs.size + 2], _, _, H1, rfl, I2, turn3 lt1 lt2 lt3, ⟨hz, hI, ⟨_, _, _, hO⟩, h1, h2, h3⟩, fun c hcm => ?_, q⟩
  have e' : c = s1.heap.objs.size + 5 ∨ c = s1.heap.objs.size + 3 ∨ c = s1.heap.objs.size + 4 ∨ c = s1.heap.objs.size ∨ c = s1.heap.objs.size + 1 ∨ c = s1.heap.objs.size + 2 := by simpa using hcm
  have hle : s1.heap.objs.size ≤ c := by rcases e' with q | q | q | q | q | q <;> (rw [q]; first | exact Nat.le_add_right _ _ | exact Nat.le_refl _)
  exact I1.fpOk hle (I1.hok.fresh hle)
end T2Z

namespace T2
open L2 PySem PySem.Spec PyProof.Rows T2Z

/-! ### zip of lists and tuples -/
def seqQ (d : D) (k : List D → Prop) : Prop := match d with
  | .list xs => k xs
  | .tuple xs => k xs
  | _ => False
def zip3T : List D → List D → List D → List D
  | x :: xs, y :: ys, z :: zs => .tuple [x, y, z] :: zip3T xs ys zs
  | _, _, _ => []
def tZ2 (tr : TL) : TL := fun ρ q E => tr ρ (fun ds ρ' => match ds with
  | [a, b] => seqQ a fun xs => seqQ b fun ys => q (zipT xs ys) ρ'
  | _ => False) E
def tZ3 (tr : TL) : TL := fun ρ q E => tr ρ (fun ds ρ' => match ds with
  | [a, b, c] => seqQ a fun xs => seqQ b fun ys => seqQ c fun zs => q (zip3T xs ys zs) ρ'
  | _ => False) E
theorem seqQ_l {xs : List D} {k : List D → Prop} : seqQ (.list xs) k = k xs := rfl
theorem seqQ_t {xs : List D} {k : List D → Prop} : seqQ (.tuple xs) k = k xs := rfl
theorem Fz.seq {K : PySem.W.Frag} {F : Hp} {d : D} {v : V} {k : List D → Prop} (h : Fz K F d v) (q : seqQ d k) : ∃ t a vs xs, v = .ref a ∧ Sq K t F a vs ∧ FzL K F xs vs ∧ k xs := by
  cases d with
  | list xs =>
    simp only [Fz] at h
    obtain ⟨a, vs, e, h1, h2⟩ := h
    exact ⟨false, a, vs, xs, e, h1, h2, q⟩
  | tuple xs =>
    simp only [Fz] at h
    obtain ⟨a, vs, e, h1, h2⟩ := h
    exact ⟨true, a, vs, xs, e, h1, h2, q⟩
  | _ => exact False.elim q
theorem Sub.sq {K : PySem.W.Frag} {F F' : Hp} {t : Bool} {a : Addr} {xs : List V} (s : Sub F F') (h : Sq K t F a xs) : Sq K t F' a xs := by
  cases t
  · exact s.sql h
  · exact s.sqt h
theorem zip3T_len : ∀ xs ys zs : List D, (zip3T xs ys zs).length = min xs.length (min ys.length zs.length)
  | [], _, _ => by simp [zip3T]
  | _ :: _, [], _ => by simp [zip3T]
  | _ :: _, _ :: _, [] => by simp [zip3T]
  | x :: xs, y :: ys, z :: zs => by simp only [zip3T, List.length_cons, zip3T_len xs ys zs]; omega
theorem zip3T_get : ∀ (xs ys zs : List D) (i : Nat) (x y z : D), xs[i]? = some x → ys[i]? = some y → zs[i]? = some z → (zip3T xs ys zs)[i]? = some (.tuple [x, y, z])
  | [], _, _, _, _, _, _, h, _, _ => by simp at h
  | _ :: _, [], _, _, _, _, _, _, h, _ => by simp at h
  | _ :: _, _ :: _, [], _, _, _, _, _, _, h => by simp at h
  | a :: xs, b :: ys, c :: zs, 0, x, y, z, h1, h2, h3 => by
    simp at h1 h2 h3
    subst h1 h2 h3
    rfl
  | a :: xs, b :: ys, c :: zs, i + 1, x, y, z, h1, h2, h3 => by
    rw [zip3T, List.getElem?_cons_succ]
    exact zip3T_get xs ys zs i x y z (by simpa using h1) (by simpa using h2) (by simpa using h3)
theorem itD_z2 {K : PySem.W.Frag} {S : AS} {F H : Hp} {t1 t2 : Bool} {a b : Addr} {us vs : List V} {xs ys : List D} (ha : Sq K t1 F a us) (hb : Sq K t2 F b vs) (r1 : FzL K F xs us) (r2 : FzL K F ys vs) : ItD K (It2 K t1 t2 a b) S F H (zipT xs ys) where
  go := fun F' H' s s' i hi => by
    unfold zipT at hi; rw [List.length_zipWith] at hi
    obtain ⟨v, e, _⟩ := r1.get (List.getElem?_eq_getElem (show i < xs.length by omega))
    obtain ⟨v2, e2, _⟩ := r2.get (List.getElem?_eq_getElem (show i < ys.length by omega))
    exact ⟨us, vs, v, v2, s'.sq (s.fz.sq ha), s'.sq (s.fz.sq hb), e, e2⟩
  stop := fun F' H' s s' => by
    have l1 := r1.length; have l2 := r2.length
    refine ⟨us, vs, s'.sq (s.fz.sq ha), s'.sq (s.fz.sq hb), ?_⟩
    unfold zipT; rw [List.length_zipWith]; omega
  yld := fun F' H' S' Γ σ ρ bs s hs w i x H2 hi ⟨T, x1, x2, e, n, e2, h1, h2⟩ => by
    subst e; subst e2
    obtain ⟨d1, q1, f1⟩ := r1.getV (h1 us (w.sub.sq (s.fz.sq ha)))
    obtain ⟨d2, q2, f2⟩ := r2.getV (h2 vs (w.sub.sq (s.fz.sq hb)))
    obtain ⟨w2, s2⟩ := w.allocF (o := .tup [x1, x2]) n
    refine ⟨.tuple [d1, d2], _, ?_, w.grF n, w2, ?_⟩
    · unfold zipT; rw [List.getElem?_zipWith, q1, q2]
    · simp only [Fz]
      exact ⟨T, [x1, x2], rfl, SqT.of upd_same, ⟨x1, [x2], rfl, (f1.mono s.fz).mono s2, ⟨x2, [], rfl, (f2.mono s.fz).mono s2, rfl⟩⟩⟩
theorem itD_z3 {K : PySem.W.Frag} {S : AS} {F H : Hp} {t1 t2 t3 : Bool} {a b c : Addr} {us vs ws : List V} {xs ys zs : List D} (ha : Sq K t1 F a us) (hb : Sq K t2 F b vs) (hc : Sq K t3 F c ws) (r1 : FzL K F xs us) (r2 : FzL K F ys vs) (r3 : FzL K F zs ws) : ItD K (It3 K t1 t2 t3 a b c) S F H (zip3T xs ys zs) where
  go := fun F' H' s s' i hi => by
    rw [zip3T_len] at hi
    obtain ⟨v, e, _⟩ := r1.get (List.getElem?_eq_getElem (show i < xs.length by omega))
    obtain ⟨v2, e2, _⟩ := r2.get (List.getElem?_eq_getElem (show i < ys.length by omega))
    obtain ⟨v3, e3, _⟩ := r3.get (List.getElem?_eq_getElem (show i < zs.length by omega))
    exact ⟨us, vs, ws, v, v2, v3, s'.sq (s.fz.sq ha), s'.sq (s.fz.sq hb), s'.sq (s.fz.sq hc), e, e2, e3⟩
  stop := fun F' H' s s' => by
    have l1 := r1.length; have l2 := r2.length; have l3 := r3.length
    refine ⟨us, vs, ws, s'.sq (s.fz.sq ha), s'.sq (s.fz.sq hb), s'.sq (s.fz.sq hc), ?_⟩
    rw [zip3T_len]; omega
  yld := fun F' H' S' Γ σ ρ bs s hs w i x H2 hi ⟨T, x1, x2, x3, e, n, e2, h1, h2, h3⟩ => by
    subst e; subst e2
    obtain ⟨d1, q1, f1⟩ := r1.getV (h1 us (w.sub.sq (s.fz.sq ha)))
    obtain ⟨d2, q2, f2⟩ := r2.getV (h2 vs (w.sub.sq (s.fz.sq hb)))
    obtain ⟨d3, q3, f3⟩ := r3.getV (h3 ws (w.sub.sq (s.fz.sq hc)))
    obtain ⟨w2, s2⟩ := w.allocF (o := .tup [x1, x2, x3]) n
    refine ⟨.tuple [d1, d2, d3], _, zip3T_get _ _ _ _ _ _ _ q1 q2 q3, w.grF n, w2, ?_⟩
    simp only [Fz]
    exact ⟨T, [x1, x2, x3], rfl, SqT.of upd_same, ⟨x1, [x2, x3], rfl, (f1.mono s.fz).mono s2, ⟨x2, [x3], rfl, (f2.mono s.fz).mono s2, ⟨x3, [], rfl, (f3.mono s.fz).mono s2, rfl⟩⟩⟩⟩
section
variable {X : Cx} {W : WX} {Γx Γ Γ1 : List Ty} {e e2 e3 : Expr} {tr : TL} {p pos tpos : Pos} {elts : List Expr} {kk : Nat}
theorem i_z2 (hg : Gl X "zip") (hm : X.mg "zip" = none) (ha : AOk X W Γx Γ [e, e2] Γ1 [.fz, .fz] tr)
    (hs : starEach [e, e2] X.env = (false, eval e X.env) :: starEach [e2] X.env := by rfl) (hpl : (backTo pos (starEach [e2] X.env)).any (·.1) = false := by rfl) : IOk X W Γx Γ (.Tuple elts kk tpos) (.Call (.Name "zip" p) [e, e2] [] pos) Γ1 (tZ2 tr) := by
  refine ⟨PI.imp (pi_z2 hg hm ha.pa hs hpl) fun σ H R ⟨F, S, ρ, Qd, Ed, w, q, p, px⟩ => ?_⟩
  refine ⟨F, S, ρ, _, Ed, w, q, fun ds ρ' hq F' H' vs bs g r w' => ?_, px⟩
  obtain ⟨r1, rfl⟩ := r.fz rfl
  match ds, hq with
  | [d1, d2], hq =>
    obtain ⟨v1, vr, rfl, f1, v2, vr2, rfl, f2, e3⟩ := r1
    cases e3
    obtain ⟨t1, a, us, xs, rfl, h1, h2, hq⟩ := f1.seq hq
    obtain ⟨t2, b, ws, ys, rfl, h3, h4, hq⟩ := f2.seq hq
    exact ⟨t1, t2, a, b, us, ws, rfl, w'.sub.sq h1, w'.sub.sq h3, p _ ρ' hq F' H' _ g w' (itD_z2 h1 h3 h2 h4)⟩
theorem i_z3 (hg : Gl X "zip") (hm : X.mg "zip" = none) (ha : AOk X W Γx Γ [e, e2, e3] Γ1 [.fz, .fz, .fz] tr)
    (hs : starEach [e, e2, e3] X.env = (false, eval e X.env) :: starEach [e2, e3] X.env := by rfl) (hpl : (backTo pos (starEach [e2, e3] X.env)).any (·.1) = false := by rfl) : IOk X W Γx Γ (.Tuple elts kk tpos) (.Call (.Name "zip" p) [e, e2, e3] [] pos) Γ1 (tZ3 tr) := by
  refine ⟨PI.imp (pi_z3 hg hm ha.pa hs hpl) fun σ H R ⟨F, S, ρ, Qd, Ed, w, q, p, px⟩ => ?_⟩
  refine ⟨F, S, ρ, _, Ed, w, q, fun ds ρ' hq F' H' vs bs g r w' => ?_, px⟩
  obtain ⟨r1, rfl⟩ := r.fz rfl
  match ds, hq with
  | [d1, d2, d3], hq =>
    obtain ⟨v1, vr, rfl, f1, v2, vr2, rfl, f2, v3, vr3, rfl, f3, e4⟩ := r1
    cases e4
    obtain ⟨t1, a, us, xs, rfl, h1, h2, hq⟩ := f1.seq hq
    obtain ⟨t2, b, ws, ys, rfl, h3, h4, hq⟩ := f2.seq hq
    obtain ⟨t3, c, os, zs, rfl, h5, h6, hq⟩ := f3.seq hq
    exact ⟨t1, t2, t3, a, b, c, us, ws, os, rfl, w'.sub.sq h1, w'.sub.sq h3, w'.sub.sq h5, p _ ρ' hq F' H' _ g w' (itD_z3 h1 h3 h5 h2 h4 h6)⟩
end
end T2

namespace T2
open L2 PySem PySem.Spec PyProof.Rows

/-! ### slices by numbers that are not below nought -/
section
variable {α : Type} (xs : List α) (a b : Nat)
theorem cut_nn (i j : Int) (ha : 0 ≤ i) (hb : 0 ≤ j) : cutD xs (some i) (some j) = (xs.drop i.toNat).take (j.toNat - i.toNat) := by
  unfold cutD
  simp only [HT.sIx]
  rw [if_neg (by omega), if_neg (by omega)]
  by_cases h1 : i.toNat ≤ xs.length
  · rw [Nat.min_eq_left h1]
    by_cases h2 : j.toNat ≤ xs.length
    · rw [Nat.min_eq_left h2]
    · rw [Nat.min_eq_right (show xs.length ≤ j.toNat by omega), List.take_of_length_le (by rw [List.length_drop]; omega), List.take_of_length_le (by rw [List.length_drop]; omega)]
  · rw [Nat.min_eq_right (show xs.length ≤ i.toNat by omega), List.drop_length, List.drop_of_length_le (show xs.length ≤ i.toNat by omega)]
    simp
theorem cutN_to : cutD xs none (some (a : Int)) = xs.take a := cut_to xs (by omega)
theorem cutN_to1 : cutD xs none (some ((a : Int) + 1)) = xs.take (a + 1) := cut_to xs (by omega)
theorem cutN_from : cutD xs (some (a : Int)) none = xs.drop a := cut_from xs (by omega)
theorem cutN_from1 : cutD xs (some ((a : Int) + 1)) none = xs.drop (a + 1) := cut_from xs (by omega)
theorem cutN_ab : cutD xs (some (a : Int)) (some (b : Int)) = (xs.drop a).take (b - a) := cut_nn xs _ _ (by omega) (by omega)
theorem cutN_ab1 : cutD xs (some (a : Int)) (some ((b : Int) + 1)) = (xs.drop a).take (b + 1 - a) := cut_nn xs _ _ (by omega) (by omega)
theorem cutN_a1b : cutD xs (some ((a : Int) + 1)) (some (b : Int)) = (xs.drop (a + 1)).take (b - (a + 1)) := cut_nn xs _ _ (by omega) (by omega)
theorem cutN_a1b1 : cutD xs (some ((a : Int) + 1)) (some ((b : Int) + 1)) = (xs.drop (a + 1)).take (b + 1 - (a + 1)) := cut_nn xs _ _ (by omega) (by omega)
end
theorem getN {xs : List D} {n : Nat} {R : D → Prop} {d : D} (h : xs[n]? = some d) : (∃ z, L2.atI xs (n : Int) = some z ∧ R z) = R d := by
  rw [atI_nat, h]
  apply propext
  constructor
  · rintro ⟨z, e, hz⟩
    cases e
    exact hz
  · exact fun hz => ⟨_, rfl, hz⟩
theorem getI {xs : List D} {n : Int} {R : D → Prop} {d : D} (hn : 0 ≤ n) (h : xs[n.toNat]? = some d) : (∃ z, L2.atI xs n = some z ∧ R z) = R d := by
  rw [show n = ((n.toNat : Nat) : Int) by omega]
  exact getN h
/-- a loop over items that are told by plain things: by an invariant of what is gone through -/
theorem forD_map {α : Type} {g : GM} {b : SM} {f : α → D} {xs : List α} {ρ : List D} {P : Post} (I : List α → List D → Prop) (h0 : I [] ρ)
    (step : ∀ pre x post ρ k, xs = pre ++ x :: post → I pre ρ → (∀ ρ', I (pre ++ [x]) ρ' → k ρ') → g (f x) ρ fun ρ1 => b ρ1 { P with nx := k, ct := k, bk := P.nx }) (hend : ∀ ρ, I xs ρ → P.nx ρ) : forD g b (xs.map f) ρ P := by
  have : ∀ (post pre : List α) (ρ : List D), xs = pre ++ post → I pre ρ → forD g b (post.map f) ρ P := by
    intro post
    induction post with
    | nil =>
      intro pre ρ e h
      rw [List.append_nil] at e
      subst e
      exact hend ρ h
    | cons x post ih =>
      intro pre ρ e h
      exact step pre x post ρ _ e h fun ρ' h' => ih (pre ++ [x]) ρ' (by rw [e]; simp) h'
  exact this xs [] ρ rfl h0
theorem lcD_map {α : Type} {g : GM} {c : TB} {te : TD} {Q : D → List D → Prop} {f : α → D} {xs : List α} {ρ : List D} (I : List α → List D → List D → Prop) (h0 : I [] [] ρ)
    (step : ∀ pre x post acc ρ, xs = pre ++ x :: post → I pre acc ρ → ∀ k : List D → List D → Prop, (∀ acc' ρ', I (pre ++ [x]) acc' ρ' → k acc' ρ') → g (f x) ρ fun ρ1 => c ρ1 (fun b ρ2 => if b = true then te ρ2 (fun d ρ3 => acc.length < sizeLine ∧ k (acc ++ [d]) ρ3) (fun _ _ => False) else k acc ρ2) (fun _ _ => False))
    (hend : ∀ acc ρ, I xs acc ρ → Q (.list acc) ρ) : lcD g c te Q (xs.map f) [] ρ := by
  refine lcD_inv (fun pre acc ρ => ∃ p, pre = p.map f ∧ ∃ s, xs = p ++ s ∧ I p acc ρ) ⟨[], rfl, xs, rfl, h0⟩ ?_ ?_
  · rintro pre x post acc ρ ex ⟨p, rfl, s, es, hi⟩ k hk
    have e2 : s.map f = x :: post := by
      rw [es, List.map_append] at ex
      exact List.append_cancel_left ex
    cases s with
    | nil => cases e2
    | cons y s =>
      rw [List.map_cons] at e2
      cases e2
      exact step p y s acc ρ es hi k fun acc' ρ' h' => hk acc' ρ' ⟨p ++ [y], by simp, s, by rw [es]; simp, h'⟩
  · rintro acc ρ ⟨p, e, s, es, hi⟩
    have : s = [] := by
      have h1 := congrArg List.length e
      have h2 := congrArg List.length es
      simp at h1 h2
      exact List.eq_nil_of_length_eq_zero (by omega)
    subst this
    rw [List.append_nil] at es
    subst es
    exact hend acc ρ hi
end T2

namespace T2
open L2 PySem PySem.Spec PyProof.Rows

/-! ### a tuple or a list unpacked -/
def gS (n : Nat) (gs : GMs) : GM := fun d ρ q => seqQ d fun ds => ds.length = n ∧ gs ds ρ q
section
variable {X : Cx} {ios : List Nat} {σ0 : St} {Γ Γ' : List Ty} {es : List Expr} {pos : Pos} {gs : GMs}
theorem g_seq (n : Nat) {k} (hc : X.calm = true) (h : GsOk X ios σ0 Γ es Γ' gs) (hn : (assignEach es X.env).length = n := by rfl) (hst : (assignEach es X.env).findIdx? (·.1) = none := by rfl) : GOk X ios σ0 Γ (.Tuple es k pos) Γ' (gS n gs) := by
  have p1 := pg_tup (X := X) (pos := pos) (k := k) (n := n) hc h.pg hn hst
  have p2 := pg_lst (X := X) (pos := pos) (k := k) (n := n) hc h.pg hn hst
  refine ⟨⟨fun pins s σ H v u Q I r ⟨F, S, ρ, d, q, w, io, rd, hq, f⟩ => ?_⟩⟩
  cases d with
  | tuple ds =>
    simp only [Fz] at rd
    obtain ⟨a, vs, rfl, r1, r2⟩ := rd
    exact p1.run pins s σ H _ u Q I r ⟨a, vs, rfl, w.sub.sqt r1, by rw [← r2.length]; exact hq.1, F, S, ρ, ds, q, w, io, r2, hq.2, f⟩
  | list ds =>
    simp only [Fz] at rd
    obtain ⟨a, vs, rfl, r1, r2⟩ := rd
    exact p2.run pins s σ H _ u Q I r ⟨a, vs, rfl, w.sub.sql r1, by rw [← r2.length]; exact hq.1, F, S, ρ, ds, q, w, io, r2, hq.2, f⟩
  | _ => exact hq.elim
end
end T2

namespace T2
open L2 PySem PySem.Spec PyProof.Rows

/-! ### dicts that are owned -/
section
variable {K : PySem.W.Frag} {F H : Hp} {S : AS} {Γ : List Ty} {σ : St} {ρ : List D} {bs : List Addr}
theorem Wd.mutD {i : Nat} {kvs : List (D × D)} (w : Wd K F H S Γ σ ρ []) (ht : Γ[i]? = some .ow) (hx : rd ρ i = .dict kvs) :
    ∃ p xs, σ[i]? = some (some (.ref p)) ∧ H p = some (.dK xs) ∧ FzD K F kvs xs ∧ ∀ kvs' xs', FzD K F kvs' xs' → Wd K F (upd H p (.dK xs')) S Γ σ (wr ρ i (.dict kvs')) [] ∧ Gr S F H F (upd H p (.dK xs')) := by
  obtain ⟨as, r, nd, f⟩ := w.ex
  simp only [List.nil_append] at nd f
  obtain ⟨o, d', cs, rest, e1, e2, e3, pm, g⟩ := r.focus ht
  obtain ⟨v, rfl, hr⟩ := e3
  have ed : rd ρ i = d' := by unfold rd; rw [List.getD_eq_getElem?_getD, e2]; rfl
  rw [← ed, hx] at hr
  simp only [Rp] at hr
  obtain ⟨p, xs, rfl, h1, h2, rfl⟩ := hr
  have nd' := pm.nodup_iff.mp nd
  have np : p ∉ rest := (List.nodup_cons.mp nd').1
  obtain ⟨q1, q2, q3⟩ := f p (pm.mem_iff.mpr (by simp))
  refine ⟨p, xs, e1, h1, h2, fun ys us hy => ?_⟩
  obtain ⟨as', r', pm'⟩ := g F (upd H p (.dK us)) .ow (some (.ref p)) (.dict ys) [p] (.refl _) (fun a ha => upd_ne fun e => np (e ▸ ha)) ⟨_, rfl, by simp only [Rp]; exact ⟨p, us, rfl, upd_same, hy, rfl⟩⟩
  have sΓ : Γ.set i .ow = Γ := by
    apply List.ext_getElem?
    intro j
    rw [List.getElem?_set]
    split
    · rename_i h; subst h
      split
      · exact ht.symm
      · rename_i h2
        rw [List.getElem?_eq_none (Nat.le_of_not_lt h2)]
    · rfl
  rw [sΓ, Wd.setσ e1] at r'
  have fne : ∀ a u, F a = some u → a ≠ p := fun a u e z => by rw [z, q1] at e; cases e
  refine ⟨⟨fun a u e => by rw [upd_ne (fne a u e)]; exact w.sub _ _ e, fun a ha => ⟨(w.out a ha).1, ?_⟩, as', r', by simpa using pm'.nodup_iff.mpr nd', fun a ha => ?_⟩, ⟨.refl _, fun a ha => upd_ne fun e => q2 (e ▸ ha)⟩⟩
  · by_cases z : a = p
    · subst z; rw [upd_same]; simp
    · rw [upd_ne z]; exact (w.out a ha).2
  · have ha' := pm.mem_iff.mpr (pm'.mem_iff.mp (by simpa using ha))
    obtain ⟨x1, x2, x3⟩ := f a ha'
    refine ⟨x1, x2, ?_⟩
    by_cases z : a = p
    · subst z; rw [upd_same]; simp
    · rw [upd_ne z]; exact x3
end
section
variable {X : Cx} {W : WX} {ios : List Nat} {σ0 : St} {Γx Γ Γ1 Γ2 Γ' : List Ty} {C : TC} {e a b i' : Expr} {τ : Ty} {t ta tb tc : TD} {pos : Pos}
/-- {} -/
def tDict0 : TD := fun ρ Q _ => Q (.dict []) ρ
theorem e_dict0 : EOk X W Γx Γ (.Dict [] [] pos) Γ .ow tDict0 := by
  refine ⟨PE.imp pe_dnewK fun σ H Q ⟨F, S, ρ, Qd, Ed, w, q, p, px⟩ => fun a np => ?_⟩
  refine p _ ρ q F (upd H a (.dK [])) (.ref a) [a] ⟨.refl _, fun b hb => upd_ne fun z => (w.out b hb).2 (z ▸ np)⟩ ?_ (w.alloc np)
  show Rp X.K F _ .ow _ _ _
  simp only [Rp]
  exact ⟨a, [], rfl, upd_same, by simp [FzD], rfl⟩
/-- x[k] = e, x an owned dict -/
def sDPut (i : Nat) (ti te : TD) : SM := fun ρ P => te ρ (fun d ρ1 => ti ρ1 (fun k ρ2 => ∃ kvs, rd ρ2 i = .dict kvs ∧ (keyOf k).isSome = true ∧ kvs.length < sizeLine ∧ P.nx (wr ρ2 i (.dict (dput kvs k d)))) P.ex) P.ex
theorem s_dput (i : Nat) {x : Str} {px pt : Pos} (hu : X.A.units + 1 < cLine) (he : EOk X W C.ex Γ e Γ1 .fz t) (hi : EOk X W C.ex Γ1 i' C.nx .fz ta) (ht : C.nx[i]? = some .ow := by rfl) (ht1 : Γ1[i]? = some .ow := by rfl) (hN : X.N[i]? = some x := by rfl) (hv : Vis X.env.scope x := by first | exact Or.inl rfl | exact Or.inr (Or.inl rfl) | exact Or.inr (Or.inr rfl))
    (hd : (x == ("__debug__" : Str)) = false := by decide) (hcd : (x == ("__classdict__" : Str)) = false := by decide)
    (ha : ∀ v, assign (.Subscript (.Name x px) i' pt) X.env v = (do
      let ov ← holding [v] (eval (.Name x px) X.env)
      let iv ← holding [v, ov] (eval i' X.env)
      standAt pt
      holding [v, ov, iv] (setItem ov iv v)
      release [v, ov, iv] []) := by intro _; rfl)
    (hs : swapsWithSole [.Subscript (.Name x px) i' pt] e pos.line X.env = pure false := by rfl) (hw : swappedStores [.Subscript (.Name x px) i' pt] e X.env = pure none := by rfl)
    (h1 : (assignEach [.Subscript (.Name x px) i' pt] X.env).map (·.2) = [assign (.Subscript (.Name x px) i' pt) X.env] := by rfl) :
    SOk X W ios σ0 Γ (.Assign [.Subscript (.Name x px) i' pt] e pos) C (sDPut i ta t) := by
  refine ⟨PS.imp (ps_asg he.pe (pg_sub (pe_var hN hv hd hcd) hi.pe (set_dict hu) ha) hs hw h1) fun D σ H ⟨F, S, ρ, P, w, io, q, cn⟩ => ?_⟩
  refine ⟨F, S, ρ, _, P.ex, w, q, fun d ρ1 q1 F1 H1 v bs g1 r1 w1 => ?_, ex_of cn io⟩
  obtain ⟨r1, rfl⟩ := r1
  obtain ⟨v0, cs0, e0, _, _⟩ := w1.take ht1 (by intro h; cases h)
  refine ⟨v0, e0, F1, S, ρ1, _, P.ex, w1, q1, fun k ρ2 q2 F2 H2 u cs g2 r2 w2 => ?_, ex_of (cn.later g1) io⟩
  obtain ⟨r2, rfl⟩ := r2
  obtain ⟨kvs, hx, hk, hl, hq⟩ := q2
  obtain ⟨key, hkey⟩ := Option.isSome_iff_exists.mp hk
  have ek := kD_keyOf hkey
  subst ek
  obtain ⟨l, us, h1, h2, h3, h4⟩ := w2.mutD ht hx
  rw [h1] at e0
  cases e0
  obtain ⟨w3, g3⟩ := h4 _ _ (h3.put key (r1.mono g2.fz))
  rw [r2.key]
  exact ⟨l, _, rfl, .k h2 (by rw [← h3.length]; exact hl), cn.nx _ hq F2 _ σ ((g1.trans g2 fun _ h => h).trans g3 fun _ h => h) io w3⟩
/-- d[k], as it is read ahead of a store -/
theorem pget_dict (hu : X.A.units + 1 < cLine) : PGet X (rIxDk) := by
  intro pins s σ H o i ov iv Q I ro ri ⟨a, z, ex, g, q⟩
  subst ex
  obtain rfl : ov = Value.ref a := ro
  exact d_getItem hu I g ri fun w' s3 I3 rw' => ⟨z, H, I3, rw', q⟩
/-- x[k] op= e, x an owned dict -/
def sDAug (i : Nat) (o : D → D → (D → Prop) → Prop) (ti te : TD) : SM := fun ρ P => ti ρ (fun k ρ1 => ∃ kvs d, rd ρ1 i = .dict kvs ∧ (keyOf k).isSome = true ∧ dget kvs k = some d ∧ kvs.length < sizeLine ∧
  te ρ1 (fun d2 ρ2 => rd ρ2 i = .dict kvs ∧ o d d2 fun z => P.nx (wr ρ2 i (.dict (dput kvs k z)))) P.ex) P.ex
theorem s_daug (i : Nat) {op : Operator} {o : D → D → (D → Prop) → Prop} {x : Str} {px tpos : Pos} (hu : X.A.units + 1 < cLine) (ho : OpD X (inplaceOp op) .fz o) (hi : EOk X W C.ex Γ i' Γ1 .fz ta) (he : EOk X W C.ex Γ1 e C.nx .fz t) (ht : C.nx[i]? = some .ow := by rfl) (ht1 : Γ1[i]? = some .ow := by rfl) (ht0 : Γ[i]? = some .ow := by rfl) (hN : X.N[i]? = some x := by rfl)
    (hv : Vis X.env.scope x := by first | exact Or.inl rfl | exact Or.inr (Or.inl rfl) | exact Or.inr (Or.inr rfl)) (hd : (x == ("__debug__" : Str)) = false := by decide) (hcd : (x == ("__classdict__" : Str)) = false := by decide)
    (ha : ∀ ov iv new, augStore i' ov iv new = (do holding [new, ov, iv] (setItem ov iv new); release [new, ov, iv] []; pure .next) := by intros; rfl) : SOk X W ios σ0 Γ (.AugAssign (.Subscript (.Name x px) i' tpos) op e pos) C (sDAug i o ta t) := by
  obtain ⟨r, hr, hf⟩ := ho
  refine ⟨PS.imp (ps_augS (tget := rIxDk) (tip := r) (pe_var hN hv hd hcd) hi.pe (pget_dict hu) he.pe (fun pins s σ H x y v u Q I rx ry q => hr pins s σ H x y v u Q I rx ry q) (set_dict hu) ha) fun D σ H ⟨F, S, ρ, P, w, io, q, cn⟩ => ?_⟩
  obtain ⟨v0, cs0, e0, _, _⟩ := w.take ht0 (by intro h; cases h)
  refine ⟨v0, e0, F, S, ρ, _, P.ex, w, q, fun k ρ1 ⟨kvs, d, hx, hk, hget, hlen, q1⟩ F1 H1 u bs g1 r1 w1 => ?_, ex_of cn io⟩
  obtain ⟨key, hkey⟩ := Option.isSome_iff_exists.mp hk
  have ek := kD_keyOf hkey
  subst ek
  obtain ⟨r1, rfl⟩ := r1
  obtain ⟨l, us, h1, h2, h3, _⟩ := w1.mutD ht1 hx
  rw [h1] at e0
  cases e0
  obtain ⟨dv, hdv, fdv⟩ : ∃ dv, valV us key = some dv ∧ Fz X.K F1 d dv := by
    rcases h3.get key with ⟨z1, _⟩ | ⟨d', z, z1, z2, hz⟩
    · rw [z1] at hget; cases hget
    · rw [z1] at hget; cases hget; exact ⟨z, z2, hz⟩
  refine ⟨l, dv, rfl, .inl ⟨us, key, .inl h2, r1.key, hdv.symm⟩, ?_⟩
  refine ⟨F1, S, ρ1, _, P.ex, w1, q1, fun d2 ρ2 ⟨hx2, q2⟩ F2 H2 u2 bs2 g2 r2 w2 => ?_, ex_of (cn.later g1) io⟩
  obtain ⟨r2, rfl⟩ := r2
  refine hf F2 H2 S C.nx σ ρ2 [] d d2 dv u2 _ _ w2 (Fz.vw w2.sub (fdv.mono g2.fz)) (Fz.vw w2.sub r2) q2 fun z hz F3 H3 y cs g3 rz w3 => ?_
  obtain ⟨rz, rfl⟩ := rz
  have w3 : Wd X.K F3 H3 S C.nx σ ρ2 [] := w3.drop0
  obtain ⟨l3, us3, k1, k2, k3, k4⟩ := w3.mutD ht hx2
  rw [h1] at k1
  cases k1
  obtain ⟨w4, g4⟩ := k4 _ _ (k3.put key rz)
  rw [r1.key]
  exact ⟨l, _, rfl, .k k2 (by rw [← k3.length]; exact hlen), cn.nx _ hz F3 _ σ (((g1.trans g2 fun _ h => h).trans g3 fun _ => .inl).trans g4 fun _ h => h) io w4⟩
/-- x.pop(k), x an owned dict -/
def mDPop (i : Nat) (t : TD) : TD := fun ρ Q E => (∃ kvs, rd ρ i = .dict kvs) ∧ t ρ (fun k ρ' => ∃ kvs d, rd ρ' i = .dict kvs ∧ (keyOf k).isSome = true ∧ dget kvs k = some d ∧ Q d (wr ρ' i (.dict (ddel kvs k)))) E
theorem e_dpop (i : Nat) {x : Str} {apos cpos px : Pos} (h : EOk X W Γx Γ e Γ' .fz t) (m : M1 X (.Name x px) "pop" apos e cpos) (ht : Γ[i]? = some .ow := by rfl) (ht' : Γ'[i]? = some .ow := by rfl) (hN : X.N[i]? = some x := by rfl)
    (hv : Vis X.env.scope x := by first | exact Or.inl rfl | exact Or.inr (Or.inl rfl) | exact Or.inr (Or.inr rfl)) (hd : (x == ("__debug__" : Str)) = false := by decide) (hcd : (x == ("__classdict__" : Str)) = false := by decide) :
    EOk X W Γx Γ (.Call (.Attribute (.Name x px) "pop" apos) [e] [] cpos) Γ' .fz (mDPop i t) := by
  refine ⟨PE.imp (pe_dpop1 (pe_var hN hv hd hcd) h.pe m) fun σ H Q ⟨F, S, ρ, Qd, Ed, w, q, p, px⟩ => ?_⟩
  obtain ⟨⟨kvs, hx⟩, q⟩ := q
  obtain ⟨l, us, h1, h2, h3, _⟩ := w.mutD ht hx
  refine ⟨_, h1, l, rfl, .inl ⟨us, .inl h2⟩, F, S, ρ, _, Ed, w, q, fun k ρ' ⟨kvs, d, hx, hk, hget, hq⟩ F' H' v bs g r w' => ?_, px⟩
  obtain ⟨key, hkey⟩ := Option.isSome_iff_exists.mp hk
  have ek := kD_keyOf hkey
  subst ek
  obtain ⟨r, rfl⟩ := r
  obtain ⟨l3, us3, k1, k2, k3, k4⟩ := w'.mutD ht' hx
  rw [h1] at k1
  cases k1
  rcases k3.get key with ⟨z1, _⟩ | ⟨d', z, z1, z2, hz⟩
  · rw [z1] at hget; cases hget
  · rw [z1] at hget
    cases hget
    obtain ⟨w4, g4⟩ := k4 _ _ (k3.del key)
    exact ⟨us3, key, z, k2, r.key, z2, p _ _ hq F' _ z [] (g.trans g4 fun _ h => h) ⟨hz, rfl⟩ w4⟩
/-- d.get(k, x) -/
def tDGet (τ : Ty) (td tk tx : TD) : TD := fun ρ Q E => td ρ (fun a ρ1 => (∃ kvs, see τ ρ1 a = .dict kvs) ∧ tk ρ1 (fun k ρ2 => tx ρ2 (fun z ρ3 => ∃ kvs, see τ ρ3 a = .dict kvs ∧ (keyOf k).isSome = true ∧ Q ((dget kvs k).getD z) ρ3) E) E) E
theorem e_dget2 {f : Expr} {apos cpos : Pos} {tx : TD} (hu : X.A.units + 1 < cLine) (ha : EOk X W Γx Γ a Γ1 τ ta) (hb : EOk X W Γx Γ1 b Γ2 .fz tb) (hc : EOk X W Γx Γ2 f Γ' .fz tx) (m : M2 X a "get" apos b f cpos) (v1 : opd Γ1 τ = true := by rfl) (v3 : opd Γ' τ = true := by rfl) :
    EOk X W Γx Γ (.Call (.Attribute a "get" apos) [b, f] [] cpos) Γ' .fz (tDGet τ ta tb tx) := by
  refine ⟨PE.imp (pe_dget2 hu ha.pe hb.pe hc.pe m) fun σ H Q ⟨F, S, ρ, Qd, Ed, w, q, p, px⟩ => ?_⟩
  refine ⟨F, S, ρ, _, Ed, w, q, fun a ρ1 ⟨⟨kvs0, h0⟩, q1⟩ F1 H1 v bs g1 r1 w1 => ?_, px⟩
  have vw := w1.view v1 r1
  rw [h0] at vw
  obtain ⟨l, xs, rfl, hd, _⟩ := vw
  obtain ⟨nd, ns⟩ := w1.held
  refine ⟨l, rfl, .inl ⟨xs, hd⟩, F1, fun a => S a ∨ a ∈ bs, ρ1, _, Ed, w1.lend0, q1, fun k ρ2 q2 F2 H2 u cs g2 r2 w2 => ?_, fun x ρ' hx F' H' cls dx g hr w' => px x ρ' hx F' H' cls dx (g1.trans g fun _ => .inl) hr (w'.shrink fun _ => .inl)⟩
  obtain ⟨r2, rfl⟩ := r2
  refine ⟨F2, fun a => S a ∨ a ∈ bs, ρ2, _, Ed, w2, q2, fun z ρ3 ⟨kvs, h3, hk, hq⟩ F3 H3 y cs g3 r3 w3 => ?_, fun x ρ' hx F' H' cls dx g hr w' => px x ρ' hx F' H' cls dx ((g1.trans g2 fun _ => .inl).trans g fun _ => .inl) hr (w'.shrink fun _ => .inl)⟩
  obtain ⟨r3, rfl⟩ := r3
  have w4 := w3.back nd ns
  have r1' := RpV.mono (g2.fz.trans g3.fz) (fun a ha => (g3.eq a (.inr ha)).trans (g2.eq a (.inr ha))) r1
  have vw := w4.view v3 r1'
  rw [h3] at vw
  obtain ⟨l3, xs3, e3, hd3, hf3⟩ := vw
  cases e3
  obtain ⟨key, hkey⟩ := Option.isSome_iff_exists.mp hk
  have ek := kD_keyOf hkey
  subst ek
  have gg := (g1.trans g2 fun _ => .inl).trans g3 (fun _ => .inl)
  have w5 : Wd X.K F3 H3 S Γ' σ ρ3 [] := w4.drop0
  rcases hf3.get key with ⟨z1, z2⟩ | ⟨d, dv, z1, z2, hz⟩
  · rw [z1] at hq
    exact ⟨none, .inl ⟨xs3, key, hd3, (r2.mono g3.fz).key, z2.symm⟩, p _ ρ3 hq F3 H3 y [] gg ⟨r3, rfl⟩ w5⟩
  · rw [z1] at hq
    exact ⟨some dv, .inl ⟨xs3, key, hd3, (r2.mono g3.fz).key, z2.symm⟩, p _ ρ3 hq F3 H3 dv [] gg ⟨hz, rfl⟩ w5⟩
/-- dict(d) -/
def oDict (xs : List D) (q : D → Prop) : Prop := match xs with
  | [.dict kvs] => q (.dict kvs)
  | _ => False
theorem cd_dict : CalD X (.type "dict") .ow oDict := by
  refine ⟨_, call_dictD, fun F H S Γ σ ρ bs xs vs q Q w hv h f => ?_⟩
  match xs, h with
  | [.dict kvs], h =>
    obtain ⟨v, rfl, hw⟩ := VwL.one hv
    obtain ⟨a, ys, rfl, h1, h2⟩ := hw
    refine ⟨a, ys, rfl, h1, fun p np => ?_⟩
    refine f _ h F (upd H p (.dK ys)) (.ref p) [p] (w.grN np) ?_ ?_
    · show Rp X.K F _ .ow _ _ _
      simp only [Rp]
      exact ⟨p, ys, rfl, upd_same, h2, rfl⟩
    · exact w.alloc np
end
end T2

namespace T2
open L2 PySem PySem.Spec PyProof.Rows PySem.SeqAt

/-! ### dicts of ints by ints compared -/
def dictI (ns : List (Int × Int)) : D := .dict (ns.map fun p => (.int p.1, .int p.2))
def eqI (ns ms : List (Int × Int)) : Bool := ns.length == ms.length && ns.all fun p => (ms.find? fun r => decide (r.1 = p.1)).map (·.2) == some p.2
def Vi (xs : List (Int × Int)) : List (Key × V) := xs.map fun p => (.inl p.1, .int p.2)
theorem FzD.ints {K : PySem.W.Frag} {F : Hp} : ∀ {ns : List (Int × Int)} {xs : List (Key × V)}, FzD K F (ns.map fun p => (.int p.1, .int p.2)) xs → xs = Vi ns
  | [], _, h => by simpa [FzD, Vi] using h
  | (i, j) :: ns, _, h => by
    simp only [List.map_cons, FzD] at h
    obtain ⟨key, v, xr, rfl, e, h1, h2⟩ := h
    rw [FzD.ints h2]
    cases key with
    | inl k =>
      simp only [kD, PyData.int.injEq] at e
      subst e
      simp only [Fz] at h1
      subst h1
      rfl
    | inr x => simp [kD] at e
theorem Vi_inj {ns ms : List (Int × Int)} (h : Vi ns = Vi ms) : ns = ms := by
  unfold Vi at h
  refine List.map_inj_right (fun a b e => ?_) |>.mp h
  obtain ⟨a1, a2⟩ := a
  obtain ⟨b1, b2⟩ := b
  simp only [Prod.mk.injEq, Sum.inl.injEq, V.int.injEq] at e
  rw [e.1, e.2]
/-- one with int keys stands for every world -/
theorem dict_any {P P' : Program} {w w' : World} {h : Heap} {a : Addr} {vs : List (Key × Value)} (d : h.DictOf (mixKind P w) a vs) (hk : ∀ p ∈ vs, ∃ i, p.1 = .inl i) : h.DictOf (mixKind P' w') a vs := by
  obtain ⟨o, es, ep, ho, hx, hd, hks, hp, hn⟩ := d
  refine ⟨o, es, ep, ho, hx, hd, ?_, ?_, hn⟩
  · intro e he
    obtain ⟨k, h1, h2⟩ := hks e he
    have : ∃ p ∈ vs, (mixKind P w).is p.1 e.key = true := by
      have he' : e ∈ es.toList := by simpa using he
      clear hks hn hd ho hx h1 h2 he
      generalize es.toList = l at hp he'
      revert he' hk
      induction hp with
      | nil => intro _ q; cases q
      | cons x1 x2 x3 ih =>
        intro hk q
        rcases List.mem_cons.mp q with rfl | q
        · exact ⟨_, List.mem_cons_self, x1⟩
        · obtain ⟨p, z1, z2⟩ := ih (fun p hp => hk p (List.mem_cons_of_mem _ hp)) q
          exact ⟨p, List.mem_cons_of_mem _ z1, z2⟩
    obtain ⟨p, p1, p2⟩ := this
    obtain ⟨i, ei⟩ := hk p p1
    have e2 : k = p.1 := (mixKind P w).inj _ _ _ h1 p2
    rw [e2, ei] at h1 h2
    exact ⟨.inl i, h1, h2⟩
  · clear hks hn hd ho hx
    generalize es.toList = l at hp ⊢
    induction hp with
    | nil => exact .nil
    | cons x1 x2 x3 ih => exact .cons x1 x2 (ih fun p hp => hk p (List.mem_cons_of_mem _ hp))
theorem Vi_rel : ∀ {ns : List (Int × Int)} {vs : List (Key × Value)}, KV (Vi ns) vs → ∀ p ∈ vs, ∃ i, p.1 = .inl i
  | [], _, h, p, hp => by cases h; cases hp
  | (i, j) :: ns, _, h, p, hp => by
    cases h with
    | cons h1 h2 =>
      rcases List.mem_cons.mp hp with rfl | hp
      · exact ⟨i, h1.1.symm⟩
      · exact Vi_rel h2 p hp
theorem Vi_find (k : Int) : ∀ {ns : List (Int × Int)} {vs : List (Key × Value)}, KV (Vi ns) vs → ((ns.find? fun r => decide (r.1 = k)).map (·.2) = none ∧ valueAt vs (.inl k) = none) ∨ ∃ j t, (ns.find? fun r => decide (r.1 = k)).map (·.2) = some j ∧ valueAt vs (.inl k) = some (.int j t)
  | [], _, h => by cases h; exact .inl ⟨rfl, rfl⟩
  | (i, j) :: ns, _, h => by
    cases h with
    | @cons _ q _ _ h1 h2 =>
      obtain ⟨q1, q2⟩ := q
      obtain ⟨e1, t, e2⟩ := h1
      dsimp only at e1 e2
      subst e1 e2
      by_cases e : i = k
      · subst e
        exact .inr ⟨j, t, by simp, by simp [valueAt]⟩
      · have ih := Vi_find k h2
        have a1 : ∀ l : List (Key × Value), valueAt ((Sum.inl i, Value.int j t) :: l) (Sum.inl k) = valueAt l (Sum.inl k) := fun l => by
          unfold valueAt
          rw [List.find?_cons_of_neg (by simpa using e)]
        rw [a1, List.find?_cons_of_neg (by simpa using e)]
        exact ih
theorem Vi_hits {A : Around} {s : Shared} {ms : List (Int × Int)} {us : List (Key × Value)} (hu : KV (Vi ms) us) : ∀ {ns : List (Int × Int)} {vs : List (Key × Value)}, KV (Vi ns) vs → ∃ r, PySem.W.KeqHits A s us vs r ∧ r = ns.all fun p => (ms.find? fun r => decide (r.1 = p.1)).map (·.2) == some p.2
  | [], _, h => by cases h; exact ⟨true, .nil, rfl⟩
  | (i, j) :: ns, _, h => by
    cases h with
    | @cons _ q _ _ h1 h2 =>
      obtain ⟨q1, q2⟩ := q
      obtain ⟨e1, t, e2⟩ := h1
      dsimp only at e1 e2
      subst e1 e2
      rcases Vi_find i hu with ⟨f1, f2⟩ | ⟨j', t', f1, f2⟩
      · refine ⟨false, .miss f2, ?_⟩
        rw [List.all_cons, f1]
        rfl
      · obtain ⟨r, r1, r2⟩ := Vi_hits hu h2
        refine ⟨_, .hit f2 (PySem.W.keq_flat (d := .int j) (e := .int j') (fun _ => .int _ _) (fun _ => .int _ _)) r1, ?_⟩
        rw [List.all_cons, f1, r2]
        congr 1
        rw [ev_int]
        by_cases z : j = j'
        · subst z; simp
        · simp [z, Ne.symm z]
section
variable {X : Cx} {pins : List (Addr × Obj)} {σ : L2.St} {H : Hp} {s : Shared}
theorem kv_len {ks : List (Key × V)} {vs : List (Key × Value)} (h : KV ks vs) : ks.length = vs.length := by
  unfold KV at h
  induction h with
  | nil => rfl
  | cons _ _ ih => simp [ih]
theorem rc_dict (I : Inv X pins σ H s) {A : Around} {a b : Addr} {ns ms : List (Int × Int)} (ha : Rd H a (.dK (Vi ns))) (hb : Rd H b (.dK (Vi ms))) (hu : A.units < cLine) : RcAt A s (.ref a) (.ref b) (eqI ns ms) := by
  obtain ⟨_, sa, vs, rv, da⟩ := dk_rd I.hok ha
  obtain ⟨_, sb, us, ru, db⟩ := dk_rd I.hok hb
  intro prog w E Q h
  obtain ⟨r, h1, h2⟩ := Vi_hits (A := A.in1) (s := s) ru rv
  refine PySem.W.keq_eq sa sb (dict_any (P' := prog) (w' := w) da (Vi_rel rv)) (dict_any (P' := prog) (w' := w) db (Vi_rel ru)) hu (fun _ => h1) ?_
  have l1 : ns.length = vs.length := by rw [← kv_len rv]; simp [Vi]
  have l2 : ms.length = us.length := by rw [← kv_len ru]; simp [Vi]
  rw [← l1, ← l2, h2]
  exact h
theorem find_self : ∀ {ns : List (Int × Int)}, (ns.map (·.1)).Nodup → ∀ p ∈ ns, ns.find? (fun r => decide (r.1 = p.1)) = some p
  | [], _, _, h => by cases h
  | q :: ns, nd, p, h => by
    rw [List.map_cons, List.nodup_cons] at nd
    rcases List.mem_cons.mp h with rfl | h
    · simp
    · have ne : q.1 ≠ p.1 := fun e => nd.1 (by rw [e]; exact List.mem_map_of_mem h)
      rw [List.find?_cons_of_neg (by simpa using ne)]
      exact find_self nd.2 p h
theorem eqI_self {ns : List (Int × Int)} (nd : (ns.map (·.1)).Nodup) : eqI ns ns = true := by
  unfold eqI
  rw [Bool.and_eq_true, List.all_eq_true]
  refine ⟨by simp, fun p hp => ?_⟩
  rw [find_self nd p hp]
  simp
theorem Vi_keys : ∀ {ns : List (Int × Int)} {vs : List (Key × Value)}, KV (Vi ns) vs → vs.map (·.1) = ns.map fun p => Sum.inl p.1
  | [], _, h => by cases h; rfl
  | (i, j) :: ns, _, h => by
    cases h with
    | cons h1 h2 => rw [List.map_cons, List.map_cons, Vi_keys h2, ← h1.1]
theorem Vi_nodup (I : Inv X pins σ H s) {a : Addr} {ns : List (Int × Int)} (ha : Rd H a (.dK (Vi ns))) : (ns.map (·.1)).Nodup := by
  obtain ⟨_, sa, vs, rv, o, es, ep, ho, hx, hd, hks, hp, hn⟩ := dk_rd I.hok ha
  rw [Vi_keys rv] at hn
  have e : (ns.map fun p => (Sum.inl p.1 : Key)) = (ns.map (·.1)).map Sum.inl := by rw [List.map_map]; rfl
  rw [e] at hn
  exact List.Pairwise.of_map (S := (· ≠ ·)) Sum.inl (fun a b z h => z (by rw [h])) hn
theorem Vi_uniq (I : Inv X pins σ H s) {a : Addr} {ns ms : List (Int × Int)} (ha : Rd H a (.dK (Vi ns))) (hb : Rd H a (.dK (Vi ms))) : ns = ms := by
  rcases ha with ha | ⟨o, ha⟩ <;> rcases hb with hb | ⟨o', hb⟩ <;> rw [ha] at hb <;> simp only [Option.some.injEq, HO.dK.injEq, HO.frz.injEq, reduceCtorEq] at hb
  · exact Vi_inj hb
  · exact Vi_inj hb.2
theorem eq_dict (I : Inv X pins σ H s) {A : Around} {a b : Addr} {ns ms : List (Int × Int)} (ha : Rd H a (.dK (Vi ns))) (hb : Rd H b (.dK (Vi ms))) (hu : A.units < cLine) : EqAt A s (.ref a) (.ref b) (eqI ns ms) := by
  by_cases e : a = b
  · subst e
    have := Vi_uniq I ha hb
    subst this
    rw [eqI_self (Vi_nodup I ha)]
    exact .same _
  · exact .of_refs e (rc_dict I ha hb hu)
/-! ### flat things and such dicts, and lists and tuples of them -/
def FX (d e : D) : Prop := (flat d = true ∧ flat e = true) ∨ ∃ ns ms, d = dictI ns ∧ e = dictI ms
open Classical in
/-- whether they are alike -/
noncomputable def eqF (d e : D) : Bool := if h : ∃ p : List (Int × Int) × List (Int × Int), d = dictI p.1 ∧ e = dictI p.2 then eqI h.choose.1 h.choose.2 else PyData.eqv d e
theorem dictI_inj {ns ms : List (Int × Int)} (h : dictI ns = dictI ms) : ns = ms := by
  unfold dictI at h
  simp only [PyData.dict.injEq] at h
  refine List.map_inj_right (fun a b e => ?_) |>.mp h
  simp only [Prod.mk.injEq, PyData.int.injEq] at e
  exact Prod.ext e.1 e.2
theorem eqF_dict (ns ms : List (Int × Int)) : eqF (dictI ns) (dictI ms) = eqI ns ms := by
  have h : ∃ p : List (Int × Int) × List (Int × Int), dictI ns = dictI p.1 ∧ dictI ms = dictI p.2 := ⟨(ns, ms), rfl, rfl⟩
  unfold eqF
  rw [dif_pos h]
  obtain ⟨e1, e2⟩ := h.choose_spec
  rw [← dictI_inj e1, ← dictI_inj e2]
theorem eqF_flat {d e : D} (h : flat d = true) : eqF d e = PyData.eqv d e := by
  unfold eqF
  rw [dif_neg]
  rintro ⟨p, rfl, _⟩
  cases h
theorem Flat_of {F : Hp} {d : D} {v : V} {u : Value} (f : flat d = true) (h : Fz X.K F d v) (r : RelV v u) : PyProof.V.Flat u d := by
  cases d with
  | none => simp only [Fz] at h; subst h; cases r; exact fun _ => .none
  | bool b => simp only [Fz] at h; subst h; cases r; exact fun _ => .bool _
  | int i => simp only [Fz] at h; subst h; obtain ⟨t, rfl⟩ := r; exact fun _ => .int _ _
  | str x => simp only [Fz] at h; subst h; obtain ⟨t, rfl⟩ := r; exact fun _ => .str _ _
  | _ => cases f
theorem eq_FX (I : Inv X pins σ H s) {F : Hp} (sb : Sub F H) {A : Around} {d e : D} {x y : V} {u v : Value} (hf : FX d e) (hx : Fz X.K F d x) (hy : Fz X.K F e y) (rx : RelV x u) (ry : RelV y v) (hu : A.units < cLine) : EqAt A s u v (eqF d e) := by
  rcases hf with ⟨f1, f2⟩ | ⟨ns, ms, rfl, rfl⟩
  · rw [eqF_flat f1]
    exact PySem.W.keq_flat (Flat_of f1 hx rx) (Flat_of f2 hy ry)
  · rw [eqF_dict]
    unfold dictI at hx hy
    simp only [Fz] at hx hy
    obtain ⟨a, xs, rfl, h1, h2⟩ := hx
    obtain ⟨b, ys, rfl, h3, h4⟩ := hy
    cases rx
    cases ry
    rw [FzD.ints h2] at h1
    rw [FzD.ints h4] at h3
    exact eq_dict I (sb.rd h1) (sb.rd h3) hu
end
def FXs : List D → List D → Prop
  | [], [] => True
  | x :: xs, y :: ys => FX x y ∧ FXs xs ys
  | _, _ => False
noncomputable def eqFs (xs ys : List D) : Bool := (List.zipWith eqF xs ys).all id
theorem FXs.len : ∀ {xs ys : List D}, FXs xs ys → xs.length = ys.length
  | [], [], _ => rfl
  | _ :: _, _ :: _, h => by simp [FXs.len h.2]
  | [], _ :: _, h => h.elim
  | _ :: _, [], h => h.elim
theorem FXs.get : ∀ {xs ys : List D} {j : Nat} {x y : D}, FXs xs ys → xs[j]? = some x → ys[j]? = some y → FX x y
  | [], _, _, _, _, _, e, _ => by simp at e
  | _ :: _, [], _, _, _, h, _, _ => h.elim
  | a :: xs, b :: ys, 0, _, _, h, e, e' => by
    simp at e e'
    subst e e'
    exact h.1
  | a :: xs, b :: ys, j + 1, _, _, h, e, e' => FXs.get (j := j) h.2 (by simpa using e) (by simpa using e')
/-- == where dicts are within -/
def oEqX (neg : Bool) (a b : D) (q : D → Prop) : Prop := match a, b with
  | .dict ks, .dict ls => ∃ ns ms, .dict ks = dictI ns ∧ .dict ls = dictI ms ∧ q (.bool (if neg then !eqI ns ms else eqI ns ms))
  | .list xs, .list ys => FXs xs ys ∧ q (.bool (if neg then !eqFs xs ys else eqFs xs ys))
  | .tuple xs, .tuple ys => FXs xs ys ∧ q (.bool (if neg then !eqFs xs ys else eqFs xs ys))
  | _, _ => False
section
variable {X : Cx} {pins : List (Addr × Obj)} {σ : L2.St} {H : Hp} {s : Shared}
def rEqX (K : PySem.W.Frag) : R2 := fun x y H Q => ∃ F d e, Sub F H ∧ Vw K F H d x ∧ Vw K F H e y ∧ oEqX false d e fun r => ∃ b, r = .bool b ∧ Q (.bl b) H
theorem eqFs_at {xs ys : List D} (h : xs.length = ys.length) : eqFs xs ys = (List.range xs.length).all fun j => eqF (xs.getD j .none) (ys.getD j .none) := by
  unfold eqFs
  rw [Bool.eq_iff_iff, List.all_eq_true, List.all_eq_true]
  constructor
  · intro f j hj
    have hj : j < xs.length := List.mem_range.mp hj
    have g1 : xs.getD j .none = xs[j] := by rw [List.getD_eq_getElem?_getD, List.getElem?_eq_getElem hj]; rfl
    have g2 : ys.getD j .none = ys[j] := by rw [List.getD_eq_getElem?_getD, List.getElem?_eq_getElem (show j < ys.length by omega)]; rfl
    show eqF (xs.getD j .none) (ys.getD j .none) = true
    rw [g1, g2]
    refine f _ (List.mem_iff_getElem?.mpr ⟨j, ?_⟩)
    rw [List.getElem?_zipWith, List.getElem?_eq_getElem hj, List.getElem?_eq_getElem (show j < ys.length by omega)]
    rfl
  · intro f b hb
    obtain ⟨j, hj⟩ := List.mem_iff_getElem?.mp hb
    rw [List.getElem?_zipWith] at hj
    cases e1 : xs[j]? with
    | none => rw [e1] at hj; cases hj
    | some x =>
      cases e2 : ys[j]? with
      | none => rw [e1, e2] at hj; cases hj
      | some y =>
        rw [e1, e2] at hj
        simp only [Option.some.injEq] at hj
        have := f j (List.mem_range.mpr (List.getElem?_eq_some_iff.mp e1).1)
        rw [List.getD_eq_getElem?_getD, List.getD_eq_getElem?_getD, e1, e2] at this
        rw [← hj]
        exact this
theorem op_eqX (hu : X.A.units + 64 < cLine) : OpR X (compareOp .Eq) (rEqX X.K) := by
  intro pins s σ H x y v u Q I rx ry ⟨F, d, e, sb, hx, hy, h⟩
  have items : ∀ {xs ys : List D} {us vs : List V} {is js : List Value}, FXs xs ys → FzL X.K F xs us → FzL X.K F ys vs → Vals us is → Vals vs js → is.length = xs.length ∧ js.length = ys.length ∧ ∀ (A : Around), A.units < cLine → ∀ j (h1 : j < is.toArray.size) (h2 : j < js.toArray.size), EqAt A s is.toArray[j] js.toArray[j] (eqF (xs.getD j .none) (ys.getD j .none)) := by
    intro xs ys us vs is js hF h1 h2 r1 r2
    have l1 := h1.length
    have l2 := h2.length
    have l3 := r1.length
    have l4 := r2.length
    refine ⟨by omega, by omega, fun A hA j z1 z2 => ?_⟩
    have z1' : j < is.length := by simpa using z1
    have z2' : j < js.length := by simpa using z2
    obtain ⟨v1, e1, f1⟩ := h1.get (List.getElem?_eq_getElem (show j < xs.length by omega))
    obtain ⟨v2, e2, f2⟩ := h2.get (List.getElem?_eq_getElem (show j < ys.length by omega))
    obtain ⟨u1, e3, r3⟩ := r1.get e1
    obtain ⟨u2, e4, r4⟩ := r2.get e2
    have a1 : is.toArray[j] = u1 := by
      rw [List.getElem?_eq_getElem z1'] at e3
      simpa using e3
    have a2 : js.toArray[j] = u2 := by
      rw [List.getElem?_eq_getElem z2'] at e4
      simpa using e4
    rw [a1, a2, List.getD_eq_getElem?_getD, List.getD_eq_getElem?_getD, List.getElem?_eq_getElem (show j < xs.length by omega), List.getElem?_eq_getElem (show j < ys.length by omega)]
    exact eq_FX I sb (hF.get (List.getElem?_eq_getElem _) (List.getElem?_eq_getElem _)) f1 f2 r3 r4 hA
  have hu1 : X.A.in1.units < cLine := by show X.A.units + 1 < cLine; omega
  cases d with
  | dict ks =>
    cases e with
    | dict ls =>
      obtain ⟨ns, ms, e1, e2, b, eb, q⟩ := h
      cases eb
      obtain ⟨a, xs, rfl, h1, h2⟩ := hx
      obtain ⟨c, ys, rfl, h3, h4⟩ := hy
      cases rx
      cases ry
      have k1 : ks = ns.map fun p => (PyData.int p.1, PyData.int p.2) := by unfold dictI at e1; simpa using e1
      have k2 : ls = ms.map fun p => (PyData.int p.1, PyData.int p.2) := by unfold dictI at e2; simpa using e2
      subst k1 k2
      rw [FzD.ints h2] at h1
      rw [FzD.ints h4] at h3
      exact rc_dict I h1 h3 (by omega) X.prog X.w X.xe _ ⟨.bl _, H, I, rfl, q⟩
    | _ => exact h.elim
  | list xs =>
    cases e with
    | list ys =>
      obtain ⟨hF, b, eb, q⟩ := h
      cases eb
      obtain ⟨a, us, rfl, h1, h2⟩ := hx.list
      obtain ⟨c, vs, rfl, h3, h4⟩ := hy.list
      cases rx
      cases ry
      obtain ⟨is, r1, p1, _⟩ := I.list h1
      obtain ⟨js, r2, p2, _⟩ := I.list h3
      obtain ⟨l1, l2, he⟩ := items hF h2 h4 r1 r2
      have l3 := hF.len
      refine eq_listAt p1.isList p2.isList (by simp; omega) (by omega) (he X.A.in1 hu1) ⟨.bl _, H, I, ?_, q⟩
      rw [eqFs_at l3]
      show _ = _
      simp [l1]
    | _ => exact h.elim
  | tuple xs =>
    cases e with
    | tuple ys =>
      obtain ⟨hF, b, eb, q⟩ := h
      cases eb
      obtain ⟨a, us, rfl, h1, h2⟩ := hx.tuple sb
      obtain ⟨c, vs, rfl, h3, h4⟩ := hy.tuple sb
      cases rx
      cases ry
      obtain ⟨is, r1, p1, _⟩ := I.tuple h1
      obtain ⟨js, r2, p2, _⟩ := I.tuple h3
      obtain ⟨l1, l2, he⟩ := items hF h2 h4 r1 r2
      have l3 := hF.len
      refine eq_tupleAt p1 p2 (by omega) (he X.A.in1 hu1) ⟨.bl _, H, I, ?_, q⟩
      rw [eqFs_at l3]
      show _ = _
      simp [l1, l2, l3]
    | _ => exact h.elim
  | _ => exact h.elim
theorem od_eqX (hu : X.A.units + 64 < cLine) : OpD X (compareOp .Eq) .fz (oEqX false) := by
  refine ⟨_, op_eqX hu, fun F H S Γ σ ρ bs x y v u q Q w hx hy h f => ⟨F, x, y, w.sub, hx, hy, ?_⟩⟩
  have fin : ∀ b, q (.bool b) → Q (.bl b) H := fun b hb => Fin.fz f w hb rfl
  cases x <;> cases y <;> first
    | exact False.elim h
    | skip
  · exact ⟨h.1, _, rfl, fin _ h.2⟩
  · exact ⟨h.1, _, rfl, fin _ h.2⟩
  · obtain ⟨ns, ms, e1, e2, h⟩ := h
    exact ⟨ns, ms, e1, e2, _, rfl, fin _ h⟩
end
end T2

namespace T2
open L2 PySem PySem.Spec PyProof.Rows

/-! ### a frozen thing is locked for good -/
theorem Wd.known {K : PySem.W.Frag} {F H F' H' : Hp} {S : AS} {Γ : List Ty} {σ : St} {ρ : List D} {bs : List Addr} (w : Wd K F H S Γ σ ρ bs) (s : Sub F F') (s' : Sub F' H') (n : ∀ a, F a = none → F' a = none ∧ H' a = H a) : Wd K F' H' S Γ σ ρ bs ∧ Gr S F H F' H' := by
  obtain ⟨as, r, nd, f⟩ := w.ex
  refine ⟨⟨s', fun a ha => ?_, as, r.mono s fun a ha => ?_, nd, fun a ha => ?_⟩, s, fun a ha => ?_⟩
  · obtain ⟨h1, h2⟩ := w.out a ha
    obtain ⟨n1, n2⟩ := n a h1
    exact ⟨n1, by rw [n2]; exact h2⟩
  · exact (n a (f a (List.mem_append_right _ ha)).1).2
  · obtain ⟨h1, h2, h3⟩ := f a ha
    obtain ⟨n1, n2⟩ := n a h1
    exact ⟨n1, h2, by rw [n2]; exact h3⟩
  · exact (n a (w.out a ha).1).2
theorem Wd.lock {K : PySem.W.Frag} {F H : Hp} {S : AS} {Γ : List Ty} {σ : St} {ρ : List D} {bs : List Addr} {d : Addr} {u : HO} (w : Wd K F H S Γ σ ρ bs) (h : Rd F d u) (m : Mut (some u)) :
    (∃ o, H d = some (.frz o u) ∧ ∃ F', F' d = some (.frz o u) ∧ Wd K F' H S Γ σ ρ bs ∧ Gr S F H F' H) ∨ H d = some u ∧ ∀ o, ∃ F', F' d = some (.frz o u) ∧ Wd K F' (upd H d (.frz o u)) S Γ σ ρ bs ∧ Gr S F H F' (upd H d (.frz o u)) := by
  have one : ∀ o, F d = some u → Sub F (upd F d (.frz o u)) := fun o hF a v e => by
    by_cases z : a = d
    · subst z
      rw [hF] at e
      cases e
      exact ⟨_, upd_same, .inr ⟨m, o, rfl⟩⟩
    · exact ⟨v, by rw [upd_ne z]; exact e, .inl rfl⟩
  rcases h with h | ⟨o, h⟩
  · obtain ⟨v, e, l⟩ := w.sub _ _ h
    rcases l with rfl | ⟨_, o, rfl⟩
    · refine .inr ⟨e, fun o => ⟨upd F d (.frz o v), upd_same, w.known (one o h) (fun a x e2 => ?_) fun a ha => ?_⟩⟩
      · by_cases z : a = d
        · subst z
          rw [upd_same] at e2 ⊢
          exact ⟨_, rfl, by cases e2; exact .inl rfl⟩
        · rw [upd_ne z] at e2 ⊢
          exact w.sub _ _ e2
      · have z : a ≠ d := fun z => by rw [z, h] at ha; cases ha
        exact ⟨by rw [upd_ne z]; exact ha, by rw [upd_ne z]⟩
    · refine .inl ⟨o, e, upd F d (.frz o u), upd_same, w.known (one o h) (fun a x e2 => ?_) fun a ha => ?_⟩
      · by_cases z : a = d
        · subst z
          rw [upd_same] at e2
          cases e2
          exact ⟨_, e, .inl rfl⟩
        · rw [upd_ne z] at e2
          exact w.sub _ _ e2
      · have z : a ≠ d := fun z => by rw [z, h] at ha; cases ha
        exact ⟨by rw [upd_ne z]; exact ha, rfl⟩
  · obtain ⟨v, e, l⟩ := w.sub _ _ h
    rcases l with rfl | ⟨mm, _⟩
    · exact .inl ⟨o, e, F, h, w, .refl⟩
    · exact mm.elim
section
variable {X : Cx} {W : WX} {ios : List Nat} {σ0 : St} {Γx Γ Γ1 Γ2 Γ' : List Ty} {tg e a b : Expr} {t : TD} {pos : Pos}
theorem FzD.at {K : PySem.W.Frag} {F : Hp} : ∀ {kvs : List (D × D)} {xs : List (Key × V)} {i : Nat} {k : Key} {v : V}, FzD K F kvs xs → xs[i]? = some (k, v) → ∃ d, kvs[i]? = some (kD k, d) ∧ Fz K F d v
  | [], _, i, k, v, h, e => by simp only [FzD] at h; subst h; simp at e
  | (k0, d0) :: r, _, i, k, v, h, e => by
    simp only [FzD] at h
    obtain ⟨key, v0, xr, rfl, rfl, h1, h2⟩ := h
    cases i with
    | zero => simp only [List.getElem?_cons_zero, Option.some.injEq, Prod.mk.injEq] at e ⊢; obtain ⟨rfl, rfl⟩ := e; exact ⟨d0, ⟨rfl, rfl⟩, h1⟩
    | succ i => simp only [List.getElem?_cons_succ] at e ⊢; exact FzD.at h2 e
theorem itD_keys {K : PySem.W.Frag} {S : AS} {F H : Hp} {a : Addr} {o : Obj} {xs : List (Key × V)} {kvs : List (D × D)} (h : F a = some (.frz o (.dK xs))) (r : FzD K F kvs xs) : ItD K (Itk a o xs) S F H (kvs.map Prod.fst) where
  go := fun F' H' s s' i hi => by
    obtain ⟨v, e, l⟩ := (s.fz.trans s') _ _ h
    rcases l with rfl | ⟨m, _⟩
    · refine ⟨e, ?_⟩
      rw [List.length_map] at hi
      rw [← r.length]
      exact hi
    · exact m.elim
  stop := fun F' H' s s' => by
    obtain ⟨v, e, l⟩ := (s.fz.trans s') _ _ h
    rcases l with rfl | ⟨m, _⟩
    · refine ⟨e, ?_⟩
      rw [List.length_map, r.length]
      exact Nat.le_refl _
    · exact m.elim
  yld := fun F' H' S' Γ σ ρ bs s hs w i x H2 hi ⟨e, k, v, hk, hx⟩ => by
    subst e hx
    obtain ⟨d, hd, _⟩ := r.at hk
    refine ⟨kD k, F', ?_, .refl, w, ?_⟩
    · rw [List.getElem?_map, hd]; rfl
    · cases k <;> rfl
/-- for k in d: the keys -/
def iK (t : TD) : TL := fun ρ Q E => t ρ (fun d ρ' => ∃ kvs, d = .dict kvs ∧ Q (kvs.map Prod.fst) ρ') E
theorem i_keys {Γx : List Ty} (h : EOk X W Γx Γ e Γ' .fz t) : IOk X W Γx Γ tg e Γ' (iK t) := by
  refine ⟨⟨fun pins s σ H R I z => ?_⟩⟩
  obtain ⟨F, S, ρ, Qd, Ed, w, q, p, px⟩ := z
  have key : wpAny (model X.prog X.w) X.A (eval e X.env) (fun v s1 => ∃ (x : V) (H1 : Hp), Inv X pins σ H1 s1 ∧ RelV x v ∧ ∃ d o kvs, x = .ref d ∧ H1 d = some (.frz o (.dK kvs)) ∧ R (Itk d o kvs) H1) X.xe s := by
    refine wpAny_mono (h.pe.run pins s σ H (fun x H1 => ∃ d xs, x = .ref d ∧ ((∃ o, H1 d = some (.frz o (.dK xs)) ∧ R (Itk d o xs) H1) ∨ (H1 d = some (.dK xs) ∧ ∀ o, R (Itk d o xs) (upd H1 d (.frz o (.dK xs)))))) I ⟨F, S, ρ, _, Ed, w, q, fun d ρ' ⟨kvs, hd, hq⟩ F' H' v bs g r w' => ?_, px⟩) (fun v s1 ⟨x, H1, I1, rx, d, xs, ex, hh⟩ => ?_) fun _ _ z => z
    · have r1 := r.1
      have w2 := w'.drop0
      subst hd
      simp only [Fz] at r1
      obtain ⟨a, xs, rfl, h1, h2⟩ := r1
      refine ⟨a, xs, rfl, ?_⟩
      rcases w2.lock h1 trivial with ⟨o, e1, F2, e2, w3, g3⟩ | ⟨e1, f⟩
      · exact .inl ⟨o, e1, p _ ρ' hq F2 H' _ (g.trans g3 fun _ h => h) w3 (itD_keys e2 (h2.mono g3.fz))⟩
      · refine .inr ⟨e1, fun o => ?_⟩
        obtain ⟨F2, e2, w3, g3⟩ := f o
        exact p _ ρ' hq F2 _ _ (g.trans g3 fun _ h => h) w3 (itD_keys e2 (h2.mono g3.fz))
    · rcases hh with ⟨o, e1, hr⟩ | ⟨e1, hr⟩
      · exact ⟨x, H1, I1, rx, d, o, xs, ex, e1, hr⟩
      · obtain ⟨o, I2⟩ := I1.lock e1 trivial
        exact ⟨x, _, I2, rx, d, o, xs, ex, upd_same, hr o⟩
  refine wpAny_mono key (fun u s1 ⟨x, H1, I1, rx, d, o, kvs, ex, hd, q⟩ => ?_) fun _ _ z => z
  subst ex
  obtain rfl : u = Value.ref d := rx
  obtain ⟨hs, hgd, hx, es, ep, vs, hdt, hsz, kv, hm⟩ := I1.frzK hd
  refine iter_keys hs hgd hx hdt (pi_one (tk := s1.toks) I1 _ (turn_keys _ hdt) ⟨_, Heap.get?_push_size _ rfl, rfl, ?_⟩ q)
  rw [hsz] <;> rfl
end
end T2

namespace T2E
open PySem Sem PySem.Spec L2 PyProof.Rows T2Z

/-! ### enumerate of a list or a tuple -/
theorem meets_new {v : Value} {o : Obj} {H : Heap → Prop} (B : Begins v o H) :
    Meets (Builtin.«enumerate.__new__» ⟨[.type "enumerate", v], []⟩) (fun _ R s => H s.heap ∧
      R (.ok (.ret (.ref (s.heap.push o).objs.size))) { s with heap := (s.heap.push o).push { cls := .type "enumerate", data := .fields #[.none, .bool false, .ref s.heap.objs.size, rawInt 0, .none, .none] } }) :=
  .of_wp fun prog w A R s h => by
    obtain ⟨hp, g, d, tk, os⟩ := s; obtain ⟨h1, h⟩ := h
    have hsub := sub_enumerate
    have q1 : ∀ {A' : Around} {E : Value → Shared → Prop} {Q : Value → Shared → Prop}, Q (.ref hp.objs.size) ⟨hp.push o, g, d, tk, os⟩ → wpAny (model prog w) A' (pyIter v) Q E ⟨hp, g, d, tk, os⟩ :=
      fun q => B.iter prog w _ _ ⟨hp, g, d, tk, os⟩ _ h1 q
    wp_walk using q1
    refine wpAny_stack_any fun st => wpAny_pure ?_
    split
    · rename_i c _ _ _ _ _
      cases (c == Value.type "enumerate")
      · wp_walk using q1
        exact ⟨_, rfl, h⟩
      · wp_walk using q1
        exact ⟨_, rfl, h⟩
    · wp_walk using q1
      exact ⟨_, rfl, h⟩
section
variable {prog : Program} {w : World} {A : Around} {E : Value → Shared → Prop} {s : Shared}
theorem begins {v : Value} {o : Obj} {H : Heap → Prop} {Q : Value → Shared → Prop} (B : Begins v o H) (h1 : H s.heap)
    (h : ∀ h', IsEnum h' (s.heap.objs.size + 1) s.heap.objs.size 0 .none → h'.get? s.heap.objs.size = some o → h'.objs.size = s.heap.objs.size + 2 →
      (∀ b o, s.heap.get? b = some o → h'.get? b = some o) → Q (.ref (s.heap.objs.size + 1)) { s with heap := h' }) :
    wpAny (model prog w) A (call (.type "enumerate") [v]) Q E s := by
  refine callType_new F.called_enumerate (by decide) (F.typeCall_enumerate_1 _) (F.newCall_enumerate_1 _) (fun obj => F.args_object_init_2 obj _) F.entry_enumerate_new
    (meets_new B) ⟨h1, ?_⟩
  have hz : (s.heap.push o).objs.size = s.heap.objs.size + 1 := Heap.size_push ..
  show _ ∧ _
  rw [hz]
  have he : IsEnum ((s.heap.push o).push { cls := .type "enumerate", data := .fields #[.none, .bool false, .ref s.heap.objs.size, rawInt 0, .none, .none] }) (s.heap.objs.size + 1) s.heap.objs.size 0 .none := by
    have := Heap.get?_push_size (s.heap.push o) (o := { cls := .type "enumerate", data := .fields #[.none, .bool false, .ref s.heap.objs.size, rawInt 0, .none, .none] }) rfl
    rw [hz] at this; exact this
  refine ⟨⟨_, he, rfl⟩, h _ he (Heap.get?_push_of_some _ (Heap.get?_push_size _ B.free)) (by rw [Heap.size_push, hz]) fun b o x => Heap.get?_push_of_some _ (Heap.get?_push_of_some _ x)⟩
theorem callT {t : Bool} {l : Addr} {us : Array Value} {Q : Value → Shared → Prop} (p : Of t s.heap l us)
    (h : ∀ h', IsEnum h' (s.heap.objs.size + 1) s.heap.objs.size 0 .none → At t h' s.heap.objs.size l 0 → (∀ b o, s.heap.get? b = some o → h'.get? b = some o) → Q (.ref (s.heap.objs.size + 1)) { s with heap := h' }) :
    wpAny (model prog w) A (call (.type "enumerate") [.ref l]) Q E s := by
  cases t
  · exact begins (begins_list l us) p fun h' a b c d => h h' a ⟨_, b, rfl, rfl⟩ d
  · exact begins (begins_tuple l us) p fun h' a b c d => h h' a ⟨_, b, rfl, rfl⟩ d
theorem draws (hh : A.handled = none) (t : Bool) (it l : Addr) (hne : l ≠ it) (us : Array Value) :
    Draws prog w A it [it, l] us.size (fun i v => us[i]? = some v) (fun i h => At t h it l i ∧ Of t h l us) := by
  cases t
  · exact Draws.list hh it l hne us
  · exact Draws.tuple hh it l hne us
end
theorem ends {prog : Program} {w : World} {A : Around} {E : Value → Shared → Prop} {s : Shared} {t : Bool} {e it l : Addr} {i : Nat} {us : Array Value} {old : Value} {Q : Option Value → Shared → Prop} (hne : e ≠ it) (hel : e ≠ l) (hh : A.handled = none) (he : IsEnum s.heap e it ((i : Nat) : Int) old) (hit : At t s.heap it l i) (p : Of t s.heap l us) (hx : us[i]? = none)
    (hQ : ∀ h', Heap.ExtBut it s.heap h' → Q none { s with heap := h' }) : wpAny (model prog w) A (pyNext (.ref e)) Q E s := by
  have hT : s.TypeIs (.ref e) "enumerate" := ⟨_, he, rfl⟩
  unfold pyNext
  refine wpAny_bind (wpAny_attempt (wpAny_callSpecial?_slot (name := Str.ofString "__next__") hT F.slot_enumerate_next
    (wpAny_call_entry F.slot_enumerate_next hT F.entry_enumerate_next ?_ (F.args_enumerate_next_1 _))))
  show wpAny _ _ (field (.ref e) 2 >>= _) _ _ _
  refine wpAny_bind (wpAny_field he rfl (x := .ref it) rfl ?_)
  refine wpAny_bind (dry (A := A.in1) hh hit p hx fun h' x he' hx' => ?_)
  obtain ⟨o, ho, hc⟩ := hx'
  refine wpAny_bind (wpAny_isInstance (T := "StopIteration") (b := true) ⟨o, ho, hc⟩ isSubtype_stop ?_)
  exact wpAny_pure (hQ _ he')
/-- the thing at a as it stands at each turn, each item in a new pair -/
def ItN (K : PySem.W.Frag) (t : Bool) (a : Addr) : It :=
  ⟨fun i H => ∃ (xs : List V) (x : V), Sq K t H a xs ∧ xs[i]? = some x, fun i H v H' => ∃ T x, v = .ref T ∧ H T = none ∧ H' = upd H T (.tup [.int (i : Nat), x]) ∧ ∀ xs, Sq K t H a xs → xs[i]? = some x, fun i H => ∃ xs : List V, Sq K t H a xs ∧ xs.length ≤ i⟩
theorem turnN {P : Program} {w : World} {K : PySem.W.Frag} {elts : List Expr} {kk : Nat} {tpos : Pos} {t : Bool} (a e it : Addr) (hai : a ≠ it) (hea : e ≠ a) :
    Turn P w K (.Tuple elts kk tpos) (ItN K t a) [e, it] e (fun i h => (∃ old, IsEnum h e it ((i : Nat) : Int) old) ∧ At t h it a i ∧ e ≠ it) where
  mem := by simp
  obj := fun i h st b hb => by
    obtain ⟨⟨old, he⟩, hit, _⟩ := st
    have e' : b = e ∨ b = it := by simpa using hb
    rcases e' with z | z
    · rw [z]; exact ⟨_, he, fun v q => nomatch q⟩
    · rw [z]
      cases t
      · obtain ⟨o, ho, hc, hd⟩ := hit; exact ⟨o, ho, fun v q => by rw [hd] at q; cases q⟩
      · obtain ⟨o, ho, hc, hd⟩ := hit; exact ⟨o, ho, fun v q => by rw [hd] at q; cases q⟩
  keep := fun i h h' st k => let ⟨⟨old, he⟩, hi, hne⟩ := st; ⟨⟨old, k e (by simp) _ he⟩, hi.to fun o q => k it (by simp) o q, hne⟩
  item := by
    intro X hP hw hK hc i pins s σ H E I hf st hg
    subst hP hw hK
    obtain ⟨⟨old, he⟩, hit, hne⟩ := st
    obtain ⟨xs, x, hq, hx⟩ := hg
    obtain ⟨its, rv, p, hz⟩ := Sq.of I hq
    obtain ⟨u, hu, ru⟩ := rv.get hx
    have hil : i < its.toArray.size := by
      rw [List.size_toArray]
      exact (List.getElem?_eq_some_iff.mp hu).1
    have hel : e < s.heap.objs.size := Heap.lt_size he
    have hih := I.ok.hd hc
    refine wpAny_pyNext_enum_itemD (draws (prog := X.prog) (w := X.w) (A := X.A.in1) hih t it a hai its.toArray) he ⟨hit, p⟩ hil hne (by simp [hne, hea]) fun v h' tk hv ho hit' hT hsz hk => ?_
    have ev : v = u := by
      rw [List.getElem?_toArray, hu] at hv
      exact (Option.some.inj hv).symm
    subst ev
    refine ⟨_, rfl, wpAny_letOwnedTupleGo_enum (s := { s with heap := h', toks := tk + 1 }) ho fun h'' he' sb => ?_⟩
    have hT2 : h''.get? s.heap.objs.size = some { cls := .type "tuple", data := .seq #[.int i tk, v] } := (sb.2 _ (Nat.ne_of_gt hel)).trans hT
    have new : ObjOk X.prog X.w (upd H s.heap.objs.size (.tup [.int (i : Nat), x])) h'' s.heap.objs.size (.tup [.int (i : Nat), x]) :=
      ⟨by show 2 ≤ sizeLine; decide, [.int i tk, v], .cons ⟨_, rfl⟩ (.cons ru .nil), ⟨_, hT2, rfl, _, rfl⟩⟩
    have I1 : Inv X pins σ (upd H s.heap.objs.size (.tup [.int (i : Nat), x])) { s with heap := h'', toks := tk + 1 } :=
      I.turnedNew (ch := [e, it]) (fun b ob hb q => (sb.2 b (fun z => hb (by simp [z]))).trans (hk b ob (fun z => hb (by simp [z])) (fun z => hb (by simp [z])) q)) hf (Nat.le_refl _) new
    refine ⟨.ref s.heap.objs.size, _, I1, rfl, ⟨_, x, rfl, I.hok.fresh (Nat.le_refl _), rfl, fun ys hy => by rw [Sq.inj I hy hq]; exact hx⟩, ⟨⟨v, ?_⟩, hit'.1.to fun o q => (sb.2 it (Ne.symm hne)).trans q, hne⟩, fun b hb => ?_⟩
    · have e1 : ((i + 1 : Nat) : Int) = (i : Int) + 1 := by omega
      rw [e1]; exact he'
    · have hb' : b < s.heap.objs.size := by
        have e' : b = e ∨ b = it := by simpa using hb
        rcases e' with z | z
        · rw [z]; exact hel
        · rw [z]
          cases t
          · obtain ⟨o, ho, _⟩ := hit; exact Heap.lt_size ho
          · obtain ⟨o, ho, _⟩ := hit; exact Heap.lt_size ho
      rw [upd_ne (Nat.ne_of_lt hb')]
      exact (hf b hb).1
  done := by
    intro X hP hw hK hc i pins s σ H E I hf st hg
    subst hP hw hK
    obtain ⟨⟨old, he⟩, hit, hne⟩ := st
    obtain ⟨xs, hq, hx⟩ := hg
    obtain ⟨its, rv, p, hz⟩ := Sq.of I hq
    obtain ⟨f0, f1, f2, f3, f4, f5⟩ := hf it (by simp)
    have hl := rv.length
    refine ends hne hea (I.ok.hd hc) he hit p (by simp; omega) fun h' eb => ⟨rfl, I.turned (t' := s.toks) (fun b o hb q => eb b o hb q) f0 f1 f3 f4 f5⟩
  self := fun A i s Q E st h => let ⟨⟨_, he⟩, _⟩ := st; wpAny_pyIter_enum he h
def iEN (K : PySem.W.Frag) (ta : TA) : TI := fun σ H R => ta σ H fun vs H1 => ∃ t a xs, vs = [.ref a] ∧ Sq K t H1 a xs ∧ R (ItN K t a) H1
theorem pi_enumN {X : Cx} {e : Expr} {ta : TA} {p pos tpos : Pos} {elts : List Expr} {kk : Nat} (hg : Gl X "enumerate") (hm : X.mg "enumerate" = none) (ha : PA X [e] ta) (hs : starEach [e] X.env = [(false, eval e X.env)] := by rfl) :
    PI X (.Tuple elts kk tpos) (.Call (.Name "enumerate" p) [e] [] pos) (iEN X.K ta) := by
  refine ⟨fun pins s σ H R I h => ?_⟩
  refine Call_ (ld_blt I hg hm boot_enumerate (PyProof.Rows.callWith_type1 (thn (ha.run pos pins s σ H _ I h) fun us s1 ⟨vs, H1, I1, r1, q1⟩ => ?_) hs rfl))
  obtain ⟨t, a, xs, ex, hq, q⟩ := q1
  subst ex
  cases r1 with
  | cons r rr =>
    cases rr
    cases r
    obtain ⟨its, rv, p', hz⟩ := Sq.of I1 hq
    refine callT p' fun h' he hit hk => wpAny_pyIter_enum he ?_
    have I2 : Inv X pins σ H1 { s1 with heap := h' } := I1.kept (t' := s1.toks) hk
    refine ⟨s1.heap.objs.size + 1, [s1.heap.objs.size + 1, s1.heap.objs.size], _, _, H1, rfl, I2, turnN a (s1.heap.objs.size + 1) s1.heap.objs.size (Nat.ne_of_lt hz) (Nat.ne_of_gt (Nat.lt_succ_of_lt hz)), ⟨⟨.none, he⟩, hit, Nat.succ_ne_self _⟩, fun b hb => ?_, q⟩
    have e' : b = s1.heap.objs.size + 1 ∨ b = s1.heap.objs.size := by simpa using hb
    have hle : s1.heap.objs.size ≤ b := by
      rcases e' with z | z
      · rw [z]; exact Nat.le_add_right _ _
      · rw [z]; exact Nat.le_refl _
    exact I1.fpOk hle (I1.hok.fresh hle)
end T2E
namespace T2
open L2 PySem PySem.Spec PyProof.Rows T2Z T2E
def enumF : Nat → List D → List D
  | _, [] => []
  | i, x :: xs => .tuple [.int (i : Nat), x] :: enumF (i + 1) xs
theorem enumF_get : ∀ (xs : List D) (k i : Nat), (enumF k xs)[i]? = xs[i]?.map fun x => .tuple [.int ((k + i : Nat) : Int), x]
  | [], _, _ => rfl
  | x :: xs, k, 0 => rfl
  | x :: xs, k, i + 1 => by
    rw [enumF, List.getElem?_cons_succ, List.getElem?_cons_succ, enumF_get xs (k + 1) i, show k + 1 + i = k + (i + 1) by omega]
theorem enumF_len : ∀ (xs : List D) (k : Nat), (enumF k xs).length = xs.length
  | [], _ => rfl
  | x :: xs, k => by rw [enumF, List.length_cons, List.length_cons, enumF_len xs (k + 1)]
theorem itD_en {K : PySem.W.Frag} {S : AS} {F H : Hp} {t : Bool} {a : Addr} {us : List V} {xs : List D} (ha : Sq K t F a us) (r1 : FzL K F xs us) : ItD K (ItN K t a) S F H (enumF 0 xs) where
  go := fun F' H' s s' i hi => by
    rw [enumF_len] at hi
    obtain ⟨v, e, _⟩ := r1.get (List.getElem?_eq_getElem hi)
    exact ⟨us, v, s'.sq (s.fz.sq ha), e⟩
  stop := fun F' H' s s' => by
    have l1 := r1.length
    refine ⟨us, s'.sq (s.fz.sq ha), ?_⟩
    rw [enumF_len]; omega
  yld := fun F' H' S' Γ σ ρ bs s hs w i x H2 hi ⟨T, x1, e, n, e2, h1⟩ => by
    subst e; subst e2
    obtain ⟨d1, q1, f1⟩ := r1.getV (h1 us (w.sub.sq (s.fz.sq ha)))
    obtain ⟨w2, s2⟩ := w.allocF (o := .tup [.int (i : Nat), x1]) n
    refine ⟨.tuple [.int (i : Nat), d1], _, ?_, w.grF n, w2, ?_⟩
    · rw [enumF_get, q1, Nat.zero_add]; rfl
    · simp only [Fz]
      exact ⟨T, [.int (i : Nat), x1], rfl, SqT.of upd_same, ⟨.int (i : Nat), [x1], rfl, rfl, ⟨x1, [], rfl, (f1.mono s.fz).mono s2, rfl⟩⟩⟩
def tEn (tr : TL) : TL := fun ρ q E => tr ρ (fun ds ρ' => match ds with
  | [a] => seqQ a fun xs => q (enumF 0 xs) ρ'
  | _ => False) E
section
variable {X : Cx} {W : WX} {Γx Γ Γ1 : List Ty} {e : Expr} {tr : TL} {p pos tpos : Pos} {elts : List Expr} {kk : Nat}
theorem i_en (hg : Gl X "enumerate") (hm : X.mg "enumerate" = none) (ha : AOk X W Γx Γ [e] Γ1 [.fz] tr)
    (hs : starEach [e] X.env = [(false, eval e X.env)] := by rfl) : IOk X W Γx Γ (.Tuple elts kk tpos) (.Call (.Name "enumerate" p) [e] [] pos) Γ1 (tEn tr) := by
  refine ⟨PI.imp (pi_enumN hg hm ha.pa hs) fun σ H R ⟨F, S, ρ, Qd, Ed, w, q, p, px⟩ => ?_⟩
  refine ⟨F, S, ρ, _, Ed, w, q, fun ds ρ' hq F' H' vs bs g r w' => ?_, px⟩
  obtain ⟨r1, rfl⟩ := r.fz rfl
  match ds, hq with
  | [d1], hq =>
    obtain ⟨v1, vr, rfl, f1, e3⟩ := r1
    cases e3
    obtain ⟨t1, a, us, xs, rfl, h1, h2, hq⟩ := f1.seq hq
    exact ⟨t1, a, us, rfl, w'.sub.sq h1, p _ ρ' hq F' H' _ g w' (itD_en h1 h2)⟩
end
end T2

namespace T2
open L2 PySem PySem.Spec PyProof.Rows

/-! ### remove, pop(at), min and max of a list of ints -/
theorem mut_any {X : Cx} {F H : Hp} {ns : List Int} {us : List V} (h : FzL X.K F (ns.map PyData.int) us) : us = ns.map V.int := h.ints
def oRem (xs ds : List D) (q : D → List D → Prop) : Prop := match ds with
  | [.int k] => ∃ ns : List Int, xs = ns.map .int ∧ k ∈ ns ∧ q .none ((ns.erase k).map .int)
  | _ => False
theorem idx_first (k : Int) : ∀ ns : List Int, k ∈ ns → ∃ j, ns[j]? = some k ∧ (∀ m : Nat, m < j → ns[m]? ≠ some k) ∧ ns.erase k = ns.eraseIdx j
  | [], h => by cases h
  | n :: ns, h => by
    by_cases e : n = k
    · subst e
      exact ⟨0, rfl, fun m hm => absurd hm (Nat.not_lt_zero m), by simp⟩
    · have h' : k ∈ ns := by
        rcases List.mem_cons.mp h with z | z
        · exact absurd z.symm e
        · exact z
      obtain ⟨j, h1, h2, h3⟩ := idx_first k ns h'
      refine ⟨j + 1, by simpa using h1, fun m hm => ?_, ?_⟩
      · cases m with
        | zero => simpa using e
        | succ m => simpa using h2 m (by omega)
      · rw [List.erase_cons, if_neg (by simpa using e), List.eraseIdx_cons_succ, h3]
section
variable {X : Cx}
theorem md_remove : MutD X "list.remove" oRem := by
  refine ⟨_, mt_remove, fun F H S Γ σ ρ bs i xs ds vs us p q Q w hp hx hv h fin => ?_⟩
  unfold oRem at h
  split at h
  · rename_i k
    obtain ⟨v, rfl, hw⟩ := VwL.one hv
    cases hw.int
    obtain ⟨ns, rfl, hk, h⟩ := h
    obtain rfl := hx.ints
    obtain ⟨j, h1, h2, h3⟩ := idx_first k ns hk
    refine ⟨p, ns, k, j, rfl, rfl, hp, h1, h2, ?_⟩
    rw [← h3]
    exact fin _ _ .non _ h rfl (fzInts _)
  · exact h.elim
def oPopN (xs ds : List D) (q : D → List D → Prop) : Prop := match ds with
  | [.int i] => ∃ (k : Nat) (d : D), i = (k : Int) ∧ (k : Int) < 2 ^ 62 ∧ xs[k]? = some d ∧ q d (xs.eraseIdx k)
  | _ => False
theorem md_pop1 : MutD X "list.pop" oPopN := by
  refine ⟨_, mt_popAt, fun F H S Γ σ ρ bs i xs ds vs us p q Q w hp hx hv h fin => ?_⟩
  unfold oPopN at h
  split at h
  · rename_i j
    obtain ⟨v, rfl, hw⟩ := VwL.one hv
    cases hw.int
    obtain ⟨k, d, rfl, hk, hd, h⟩ := h
    obtain ⟨y, e, f⟩ := hx.get hd
    have hkl : k < us.length := (List.getElem?_eq_some_iff.mp e).1
    refine ⟨p, us, (k : Int), k, y, rfl, rfl, hp, by omega, by omega, ?_, e, fin _ _ _ _ h f (hx.eraseIdx k)⟩
    have e0 : ¬ ((k : Int) < 0) := by omega
    simp [seqIndex?, e0, hkl]
  · exact h.elim
def oMaxL (xs : List D) (q : D → Prop) : Prop := match xs with
  | [.list ds] => ∃ ns : List Int, ds = ns.map .int ∧ 0 < ns.length ∧ ∀ m, m ∈ ns → (∀ y, y ∈ ns → y ≤ m) → q (.int m)
  | _ => False
def oMinL (xs : List D) (q : D → Prop) : Prop := match xs with
  | [.list ds] => ∃ ns : List Int, ds = ns.map .int ∧ 0 < ns.length ∧ ∀ m, m ∈ ns → (∀ y, y ∈ ns → m ≤ y) → q (.int m)
  | _ => False
theorem cd_maxL (hc : X.calm = true) : CalD X (.builtin "max") .fz oMaxL := by
  refine ⟨_, cr_max hc, fun F H S Γ σ ρ bs xs vs q Q w hx h f => ?_⟩
  unfold oMaxL at h
  split at h
  · obtain ⟨v, rfl, hv⟩ := hx.one
    obtain ⟨a, us, rfl, h1, h2⟩ := hv.list
    obtain ⟨ns, rfl, h0, h⟩ := h
    obtain rfl := h2.ints
    exact ⟨a, ns, rfl, h1, h0, fun m hm hl => Fin.fz f w (h m hm hl) rfl⟩
  · exact h.elim
theorem cd_minL (hc : X.calm = true) : CalD X (.builtin "min") .fz oMinL := by
  refine ⟨_, cr_min hc, fun F H S Γ σ ρ bs xs vs q Q w hx h f => ?_⟩
  unfold oMinL at h
  split at h
  · obtain ⟨v, rfl, hv⟩ := hx.one
    obtain ⟨a, us, rfl, h1, h2⟩ := hv.list
    obtain ⟨ns, rfl, h0, h⟩ := h
    obtain rfl := h2.ints
    exact ⟨a, ns, rfl, h1, h0, fun m hm hl => Fin.fz f w (h m hm hl) rfl⟩
  · exact h.elim
end
end T2

namespace T2
open L2 PySem PySem.Spec PyProof.Rows

/-! ### max of the keys of a dict, default= -/
section
variable {X : Cx}
def rMaxDf : List V → List V → Hp → VK → Prop := fun xs zs H Q => ∃ (a : Addr) (kvs : List (Key × V)) (is : List Int) (z : Int), xs = [V.ref a] ∧ zs = [V.int z] ∧ Rd H a (.dK kvs) ∧ kvs.map (·.1) = is.map Sum.inl ∧ (is = [] → Q (.int z) H) ∧ ∀ m, m ∈ is → (∀ j ∈ is, j ≤ m) → Q (.int m) H
theorem cr_maxDf (hc : X.calm = true) : CallRK X (.builtin "max") [Str.ofString "default"] rMaxDf := by
  intro pins s σ H xs zs us ws Q I rx rz h
  obtain ⟨a, kvs, is, z, rfl, rfl, ha, hv, q0, q⟩ := h
  rw [Vals.ref1 rx]
  obtain ⟨wz, rfl, ⟨tz, rfl⟩⟩ := rz.one
  obtain ⟨_, hsys, vs, rel, dof⟩ := dk_rd I.hok ha
  obtain ⟨ep, dat⟩ := dof.dictAt
  obtain ⟨ob, es, ho, hex, hdat, hko, hpr, hnd⟩ := id dat
  have hlt : a < s.heap.objs.size := Heap.lt_size ho
  have hkeys : vs.map (·.1) = is.map Sum.inl := (KV.keys rel).symm.trans hv
  have hlv : vs.length = is.length := by
    have e1 := congrArg List.length hkeys
    rw [List.length_map, List.length_map] at e1
    exact e1
  have hval : ∀ (i : Nat) (v : Value), (∃ k x, vs[i]? = some (k, x) ∧ (mixKind X.prog X.w).is k v = true) → ∃ t, v = Value.int (is.getD i 0) t := fun i v ⟨k, x, hk, hkey⟩ => by
    have e1 : (vs.map (·.1))[i]? = some k := by rw [List.getElem?_map, hk] <;> rfl
    rw [hkeys, List.getElem?_map] at e1
    obtain ⟨j, hj, e2⟩ := Option.map_eq_some_iff.mp e1
    subst e2
    have hi : Value.isInt j v = true := hkey
    obtain ⟨t, e3⟩ := Value.isInt_shape (k := j) (v := v) hi
    refine ⟨t, ?_⟩
    rw [e3, List.getD_eq_getElem?_getD, hj] <;> rfl
  have new : ∀ (b : Addr) (u : Obj), s.heap.get? b = some u → b ∉ [s.heap.objs.size] := fun b u e hm => by
    have e1 : b = s.heap.objs.size := List.mem_singleton.mp hm
    have e2 := Heap.lt_size e
    rw [e1] at e2
    exact absurd e2 (Nat.lt_irrefl _)
  show wpAny _ X.A (call (.builtin "max") [.ref a] [(Str.ofString "default", .int z tz)]) _ X.xe s
  refine call_max_walkD (wpAny_pyIter_dict (knd := mixKind X.prog X.w) hsys dat ?_)
  refine ⟨_, _, _, _, _, _, _, s.heap, _, rfl, (Walks.dictKeys (knd := mixKind X.prog X.w) (A := X.A.in1) (I.ok.hd hc) s.heap.objs.size a (Nat.ne_of_lt hlt) vs ep).toS,
    ⟨⟨_, Heap.get?_push_size _ rfl, rfl, rfl⟩, dat.keep fun b u e => Heap.get?_push_of_some _ e⟩, fun b hb => ?_, fun b o e hm => ?_, fun b o e => Heap.get?_push_of_some _ e, fun hn s' hm => ?_, fun hn => ⟨fun i j vi vj s2 Q2 E2 _ hi hj hq => CmpOf.ints_gt (fun i => is.getD i 0) hval i j vi vj s2 Q2 E2 hi hj hq, fun v s' hP hm => ?_⟩⟩
  · show b < (s.heap.push _).objs.size
    rw [Heap.size_push]
    rcases List.mem_cons.mp hb with e | hb
    · rw [e]
      exact Nat.lt_succ_self _
    · rw [List.mem_singleton.mp hb]
      exact Nat.lt_succ_of_lt hlt
  · exact new b o e hm
  · rw [Moved.eq_with hm]
    have e0 : is = [] := List.eq_nil_of_length_eq_zero (by rw [← hlv]; exact hn)
    exact ⟨.int z, H, I.kept (t' := s'.toks) fun b u e => hm.heap b u (new b u e) (Heap.get?_push_of_some _ e), ⟨tz, rfl⟩, q0 e0⟩
  · obtain ⟨t, rfl⟩ := hval _ v hP
    obtain ⟨b1, b2⟩ := argBest_gt (fun i => is.getD i 0) (vs.length - 1)
    rw [Moved.eq_with hm]
    refine ⟨.int _, H, I.kept (t' := s'.toks) fun b u e => hm.heap b u (new b u e) (Heap.get?_push_of_some _ e), ⟨t, rfl⟩, q _ ?_ fun j hj => ?_⟩
    · have hb : argBest (fun i j => decide (is.getD i 0 > is.getD j 0)) (vs.length - 1) < is.length := by omega
      rw [List.getD_eq_getElem?_getD, List.getElem?_eq_getElem hb]
      exact List.getElem_mem hb
    · obtain ⟨i, hi, e⟩ := List.mem_iff_getElem.mp hj
      have e2 : is.getD i 0 = j := by rw [List.getD_eq_getElem?_getD, List.getElem?_eq_getElem hi, ← e] <;> rfl
      rw [← e2]
      exact b2 i (by omega)
/-- max(d, default=z) -/
def tMaxDf (t u : TD) : TD := fun ρ Q E => t ρ (fun a ρ1 => u ρ1 (fun z ρ2 => ∃ kvs is i, a = .dict kvs ∧ kvs.map Prod.fst = is.map PyData.int ∧ z = .int i ∧ (is = [] → Q (.int i) ρ2) ∧ ∀ m, m ∈ is → (∀ j ∈ is, j ≤ m) → Q (.int m) ρ2) E) E
theorem FzD.keysI {K : PySem.W.Frag} {F : Hp} : ∀ {kvs : List (D × D)} {xs : List (Key × V)} {is : List Int}, FzD K F kvs xs → kvs.map Prod.fst = is.map PyData.int → xs.map (·.1) = is.map Sum.inl
  | [], _, is, h, e => by
    simp only [FzD] at h
    subst h
    cases is with
    | nil => rfl
    | cons i is => simp at e
  | (k, d) :: r, _, is, h, e => by
    simp only [FzD] at h
    obtain ⟨key, v, xr, rfl, rfl, h1, h2⟩ := h
    cases is with
    | nil => simp at e
    | cons i is =>
      simp only [List.map_cons, List.cons.injEq] at e ⊢
      refine ⟨?_, FzD.keysI h2 e.2⟩
      cases key with
      | inl j => simp only [kD, PyData.int.injEq] at e; rw [e.1]
      | inr x => simp [kD] at e
variable {W : WX} {Γx Γ Γ1 Γ' : List Ty} {e f : Expr} {t u : TD} {p pos kpos : Pos}
theorem e_maxDf (hc : X.calm = true) (he : EOk X W Γx Γ e Γ1 .fz t) (hf : EOk X W Γx Γ1 f Γ' .fz u) (hg : Gl X "max") (hm : X.mg "max" = none) (hs : starEach [e] X.env = (false, eval e X.env) :: starEach [] X.env := by rfl)
    (h1 : backTo pos (starEach [e] X.env) = (false, eval e X.env) :: backTo pos (starEach [] X.env) := by rfl) (h2 : (backTo pos (starEach [e] X.env)).any (·.1) = false := by rfl)
    (h3 : (backToKw pos (keywordEach [⟨some "default", f, kpos⟩] X.env)).all (·.1.isSome) = true := by rfl) (h4 : (backToKw pos (keywordEach [⟨some "default", f, kpos⟩] X.env)).any (·.1.isNone) = false := by rfl) (h5 : (backToKw pos (keywordEach [⟨some "default", f, kpos⟩] X.env)).filterMap (·.1) = [Str.ofString "default"] := by rfl) :
    EOk X W Γx Γ (.Call (.Name "max" p) [e] [⟨some "default", f, kpos⟩] pos) Γ' .fz (tMaxDf t u) := by
  refine ⟨PE.imp (pe_callBK (cr_maxDf hc) hg hm rfl (pa_cons he.pe pa_nil hs) (pk_cons hf.pe pk_nil) (by decide) (by decide) h1 h2 h3 h4 h5) fun σ H Q ⟨F, S, ρ, Qd, Ed, w, q, p, px⟩ => ?_⟩
  refine ⟨F, S, ρ, _, Ed, w, q, fun a ρ1 q1 F1 H1 v bs g1 r1 w1 => ?_, px⟩
  obtain ⟨r1, rfl⟩ := r1
  refine ⟨F1, S, ρ1, _, Ed, w1, q1, fun z ρ2 ⟨kvs, is, i, ha, hk, hz, q0, q2⟩ F2 H2 y cs g2 r2 w2 => ?_, fun x ρ' hx F' H' cls dx g hr w' => px x ρ' hx F' H' cls dx (g1.trans g fun _ h => h) hr w'⟩
  obtain ⟨r2, rfl⟩ := r2
  subst ha hz
  have r1' := Fz.mono g2.fz r1
  simp only [Fz] at r1' r2
  subst r2
  obtain ⟨b, xs, rfl, hr, hd⟩ := r1'
  refine ⟨b, xs, is, i, rfl, rfl, w2.sub.rd hr, hd.keysI hk, fun e => ?_, fun m hm hl => ?_⟩
  · exact p _ ρ2 (q0 e) F2 H2 _ [] (g1.trans g2 fun _ h => h) ⟨rfl, rfl⟩ w2
  · exact p _ ρ2 (q2 m hm hl) F2 H2 _ [] (g1.trans g2 fun _ h => h) ⟨rfl, rfl⟩ w2
end
end T2

namespace T2E
open PySem Sem PySem.Spec L2 PyProof.Rows T2Z PySem.W

/-! ### list(zip(a, b)), a and b lists -/
structure Zps (xs ys : Array Value) (lo : Addr) (h : Heap) (as : List Addr) : Prop where
  rise : as.Pairwise (· < ·)
  above : ∀ a ∈ as, lo < a
  pairs : ∀ (j : Nat) (a : Addr), as[j]? = some a → ∃ x y, xs[j]? = some x ∧ ys[j]? = some y ∧ IsPair h a x y
theorem Zps.there {xs ys : Array Value} {lo : Addr} {h : Heap} {as : List Addr} (g : Zps xs ys lo h as) {a : Addr} (ha : a ∈ as) : a < h.objs.size := by
  obtain ⟨j, hj⟩ := List.mem_iff_getElem?.mp ha
  obtain ⟨_, _, _, _, e⟩ := g.pairs j a hj
  exact Heap.lt_size e
/-- the zip z at turn i, S the list that is filled -/
structure Zst (z TI TO i1 i2 l1 l2 S : Addr) (xs ys : Array Value) (i : Nat) (h : Heap) : Prop where
  ti : IsPair h TI (.ref i1) (.ref i2)
  h1 : h.IsListIter i1 l1 i
  h2 : h.IsListIter i2 l2 i
  a1 : h.IsList l1 xs
  a2 : h.IsList l2 ys
  st : (IsZip h z TI TO .none ∧ ∃ a b, IsPair h TO a b) ∨ ∃ T f oT, IsZipHeld h z TI TO T f ∧ h.get? T = some oT ∧ S < T
structure Zlo (z TI TO i1 i2 l1 l2 S : Addr) : Prop where
  D : ZipApart z TI TO i1 i2 l1 l2
  z : z < S
  ti : TI < S
  to : TO < S
  i1 : i1 < S
  i2 : i2 < S
  l1 : l1 < S
  l2 : l2 < S
section
variable {prog : Program} {w : World} {A : Around} {E : Value → Shared → Prop} {s : Shared} {z TI TO i1 i2 l1 l2 S : Addr} {xs ys : Array Value} {i : Nat}
theorem Zst.keep {h h' : Heap} (L : Zlo z TI TO i1 i2 l1 l2 S) (st : Zst z TI TO i1 i2 l1 l2 S xs ys i h) (hk : ∀ b o, b ≠ S → h.get? b = some o → h'.get? b = some o) : Zst z TI TO i1 i2 l1 l2 S xs ys i h' where
  ti := hk _ _ (Nat.ne_of_lt L.ti) st.ti
  h1 := st.h1.at fun o e => hk _ o (Nat.ne_of_lt L.i1) e
  h2 := st.h2.at fun o e => hk _ o (Nat.ne_of_lt L.i2) e
  a1 := st.a1.at fun o e => hk _ o (Nat.ne_of_lt L.l1) e
  a2 := st.a2.at fun o e => hk _ o (Nat.ne_of_lt L.l2) e
  st := by
    rcases st.st with ⟨hz, a, b, hTO⟩ | ⟨T, f, oT, hz, hT, r⟩
    · exact .inl ⟨hk _ _ (Nat.ne_of_lt L.z) hz, a, b, hk _ _ (Nat.ne_of_lt L.to) hTO⟩
    · exact .inr ⟨T, f, oT, hk _ _ (Nat.ne_of_lt L.z) hz, hk _ _ (Nat.ne_of_gt r) hT, r⟩
theorem zl_item {Q : Option Value → Shared → Prop} (L : Zlo z TI TO i1 i2 l1 l2 S) (st : Zst z TI TO i1 i2 l1 l2 S xs ys i s.heap) (hi : i < min xs.size ys.size) (hS : S < s.heap.objs.size)
    (hQ : ∀ h', Zst z TI TO i1 i2 l1 l2 S xs ys (i + 1) h' → (∃ x y, xs[i]? = some x ∧ ys[i]? = some y ∧ IsPair h' s.heap.objs.size x y) → (∀ b o, b ∉ [z, TO, i1, i2] → s.heap.get? b = some o → h'.get? b = some o) → Q (some (.ref s.heap.objs.size)) { s with heap := h' }) :
    wpAny (model prog w) A (pyNext (.ref z)) Q E s := by
  obtain ⟨hTI, h1, h2, hl1, hl2, hz⟩ := st
  have D := L.D
  have ex := Array.getElem?_eq_getElem (show i < xs.size by omega)
  have ey := Array.getElem?_eq_getElem (show i < ys.size by omega)
  rcases hz with ⟨hz, a, b, hTO⟩ | ⟨T, f, oT, hz, hT, r⟩
  · refine wpAny_pyNext_zip_item D hz hTI hTO h1 h2 hl1 hl2 ex ey fun h' a1 a2 a3 a4 a5 a6 hk => ?_
    exact hQ h' ⟨hk _ _ D.TIz D.TITO D.TIi1 D.TIi2 hTI, a3, a4, hl1.at fun o e => hk _ o D.l1z D.l1TO D.l1i1 D.l1i2 e, hl2.at fun o e => hk _ o D.l2z D.l2TO D.l2i1 D.l2i2 e, .inr ⟨_, false, _, a1, a5, hS⟩⟩
      ⟨_, _, ex, ey, a5⟩ fun c o hc e => hk c o (fun x => hc (by simp [x])) (fun x => hc (by simp [x])) (fun x => hc (by simp [x])) (fun x => hc (by simp [x])) e
  · have r1 : T ≠ z := Nat.ne_of_gt (Nat.lt_trans L.z r)
    have r2 : T ≠ i1 := Nat.ne_of_gt (Nat.lt_trans L.i1 r)
    have r3 : T ≠ i2 := Nat.ne_of_gt (Nat.lt_trans L.i2 r)
    refine wpAny_pyNext_zip_item_held D hz hT hTI h1 h2 hl1 hl2 ex ey fun h' a1 a3 a4 a5 a6 hk => ?_
    exact hQ h' ⟨hk _ _ D.TIz D.TIi1 D.TIi2 hTI, a3, a4, hl1.at fun o e => hk _ o D.l1z D.l1i1 D.l1i2 e, hl2.at fun o e => hk _ o D.l2z D.l2i1 D.l2i2 e, .inr ⟨T, true, oT, a1, hk _ _ r1 r2 r3 hT, r⟩⟩
      ⟨_, _, ex, ey, a5⟩ fun c o hc e => hk c o (fun x => hc (by simp [x])) (fun x => hc (by simp [x])) (fun x => hc (by simp [x])) e
theorem zl_done {Q : Option Value → Shared → Prop} (hh : A.handled = none) (L : Zlo z TI TO i1 i2 l1 l2 S) (st : Zst z TI TO i1 i2 l1 l2 S xs ys (min xs.size ys.size) s.heap)
    (hQ : ∀ h', (∀ b o, b ∉ [z, TO, i1, i2] → s.heap.get? b = some o → h'.get? b = some o) → Q none { s with heap := h' }) : wpAny (model prog w) A (pyNext (.ref z)) Q E s := by
  obtain ⟨hTI, h1, h2, hl1, hl2, hz⟩ := st
  have D := L.D
  have hend : xs[min xs.size ys.size]? = none ∨ ys[min xs.size ys.size]? = none := by
    rcases Nat.le_total xs.size ys.size with h | h
    · exact .inl (Array.getElem?_eq_none (by rw [Nat.min_eq_left h]; exact Nat.le_refl _))
    · exact .inr (Array.getElem?_eq_none (by rw [Nat.min_eq_right h]; exact Nat.le_refl _))
  rcases hz with ⟨hz, a, b, hTO⟩ | ⟨T, f, oT, hz, hT, r⟩
  · exact wpAny_pyNext_zip_end hh D hz hTI hTO h1 h2 hl1 hl2 hend fun h' hk => hQ h' fun c o hc e => hk c o (fun x => hc (by simp [x])) (fun x => hc (by simp [x])) (fun x => hc (by simp [x])) (fun x => hc (by simp [x])) e
  · exact wpAny_pyNext_zip_end_held hh D hz hT hTI h1 h2 hl1 hl2 hend fun h' hk => hQ h' fun c o hc e => hk c o (fun x => hc (by simp [x])) (fun x => hc (by simp [x])) (fun x => hc (by simp [x])) e
end
section
variable {prog : Program} {w : World} {A : Around} {s : Shared} {R : Result → Shared → Prop} {z TI TO i1 i2 l1 l2 S : Addr} {xs ys : Array Value}
theorem Zlo.off (L : Zlo z TI TO i1 i2 l1 l2 S) {b : Addr} (h : S ≤ b) : b ∉ [z, TO, i1, i2] := fun hm => by
  have a1 := L.z; have a2 := L.to; have a3 := L.i1; have a4 := L.i2
  simp only [List.mem_cons, List.not_mem_nil, or_false] at hm
  rcases hm with e | e | e | e <;> rw [e] at h
  · exact absurd a1 (Nat.not_lt.mpr h)
  · exact absurd a2 (Nat.not_lt.mpr h)
  · exact absurd a3 (Nat.not_lt.mpr h)
  · exact absurd a4 (Nat.not_lt.mpr h)
theorem zl_loop (hh : A.handled = none) (L : Zlo z TI TO i1 i2 l1 l2 S) (hn : min xs.size ys.size ≤ sizeLine) (res : Value) {h₁ : Heap}
    (hR : ∀ h' tk acc c as, (∀ b o, b ≠ S → b ∉ [z, TO, i1, i2] → h₁.get? b = some o → h'.get? b = some o) → h'.get? S = some { cls := .type "list", dict := none, data := .seq acc c, slots := #[] } → as.length = min xs.size ys.size → Zps xs ys S h' as →
      acc.toList = as.map Value.ref → R (.ok (.ret res)) { s with heap := h', toks := tk }) :
    ∀ (k i : Nat) (h : Heap) (tk c : Nat) (acc : Array Value) (as : List Addr), min xs.size ys.size - i = k → i ≤ min xs.size ys.size → Zst z TI TO i1 i2 l1 l2 S xs ys i h → (∀ b o, b ≠ S → b ∉ [z, TO, i1, i2] → h₁.get? b = some o → h.get? b = some o) →
      h.get? S = some { cls := .type "list", dict := none, data := .seq acc c, slots := #[] } → acc.toList = as.map Value.ref → as.length = i → Zps xs ys S h as →
      codeAny (model prog w) A (.builtin "list.extend.loop" ⟨[.ref S, .ref z, res], []⟩) R { s with heap := h, toks := tk } := by
  intro k
  induction k with
  | zero =>
    intro i h tk c acc as hk hi hst hkeep hS hacc hal hG
    have hin : i = min xs.size ys.size := by omega
    subst hin
    refine codeAny_builtin PySem.F.entry_extend_loop ?_
    rw [Around.under_plainId PySem.F.plain_extend_loop _]
    show wpAny _ A.in1 (pyNext (.ref z) >>= _) _ _ _
    refine wpAny_bind (zl_done (s := { s with heap := h, toks := tk }) (A := A.in1) hh L hst fun h' he => ?_)
    refine wpAny_pure (hR h' tk acc c as (fun b o b1 b2 e => he b o b2 (hkeep b o b1 b2 e)) (he S _ (L.off (Nat.le_refl _)) hS) hal ⟨hG.rise, hG.above, fun j a hj => ?_⟩ hacc)
    obtain ⟨x, y, e1, e2, e3⟩ := hG.pairs j a hj
    exact ⟨x, y, e1, e2, he a _ (L.off (Nat.le_of_lt (hG.above a (List.mem_of_getElem? hj)))) e3⟩
  | succ k ih =>
    intro i h tk c acc as hk hi hst hkeep hS hacc hal hG
    have hlt : i < min xs.size ys.size := by omega
    have hsz : acc.size = i := by rw [← Array.length_toList, hacc, List.length_map, hal]
    have hSl : S < h.objs.size := Heap.lt_size hS
    refine codeAny_builtin PySem.F.entry_extend_loop ?_
    rw [Around.under_plainId PySem.F.plain_extend_loop _]
    show wpAny _ A.in1 (pyNext (.ref z) >>= _) _ _ _
    refine wpAny_bind (zl_item (s := { s with heap := h, toks := tk }) (S := S) L hst hlt hSl fun h' hst' ht hkp => ?_)
    dsimp only at ht hkp ⊢
    obtain ⟨x, y, ex, ey, ht⟩ := ht
    have hS' := hkp S _ (L.off (Nat.le_refl _)) hS
    have up : ∀ b o, b ≠ S → h'.get? b = some o → (h'.update S (Obj.mapSeq (·.push (Value.ref h.objs.size)))).get? b = some o := fun b o hb e => (Heap.get?_update_other _ _ (Ne.symm hb)).trans e
    show wpAny _ A.in1 (updateSeq S (·.push (Value.ref h.objs.size)) >>= _) _ _ _
    refine wpAny_bind ?_
    refine wpAny_updateSeq hS' rfl (wpAny_pure ⟨plainId_quiet PySem.F.plain_extend_loop _, ih (i + 1) _ tk _ (acc.push (Value.ref h.objs.size)) (as ++ [h.objs.size]) (by omega) hlt (hst'.keep L up)
      (fun b o b1 b2 e => up b o b1 (hkp b o b2 (hkeep b o b1 b2 e))) (Heap.get?_update_self _ hS' rfl) (by rw [Array.toList_push, hacc, List.map_append]; rfl) (by rw [List.length_append, hal]; rfl) ⟨?_, ?_, ?_⟩⟩) (by rw [hsz]; omega) (by show (acc.push (Value.ref h.objs.size)).size ≤ sizeLine + 1; rw [Array.size_push, hsz]; omega)
    · refine List.pairwise_append.mpr ⟨hG.rise, List.pairwise_singleton _ _, fun a ha b hb => ?_⟩
      rw [List.mem_singleton.mp hb]
      exact hG.there ha
    · intro a ha
      rcases List.mem_append.mp ha with ha | ha
      · exact hG.above a ha
      · rw [List.mem_singleton.mp ha]; exact hSl
    · intro j b hj
      rcases Nat.lt_trichotomy j as.length with q1 | q1 | q1
      · rw [List.getElem?_append_left q1] at hj
        obtain ⟨x', y', e1, e2, e3⟩ := hG.pairs j b hj
        have hb := hG.above b (List.mem_of_getElem? hj)
        exact ⟨x', y', e1, e2, up b _ (Nat.ne_of_gt hb) (hkp b _ (L.off (Nat.le_of_lt hb)) e3)⟩
      · subst q1
        have hb : h.objs.size = b := by simpa using hj
        subst hb
        subst hal
        exact ⟨x, y, ex, ey, up _ _ (Nat.ne_of_gt hSl) ht⟩
      · have hnone : (as ++ [h.objs.size])[j]? = none := List.getElem?_eq_none (by rw [List.length_append, List.length_singleton]; omega)
        rw [hnone] at hj; cases hj
end
theorem zip_no_len : typeLookup (.type "zip") "__len__" = pure none := am_miss_of_fast (by decide +kernel)
theorem zip_no_hint : typeLookup (.type "zip") "__length_hint__" = pure none := am_miss_of_fast (by decide +kernel)
section
variable {prog : Program} {w : World} {A : Around} {E : Value → Shared → Prop} {s : Shared} {z TI TO i1 i2 l1 l2 S : Addr} {xs ys : Array Value}
theorem zl_extend {R : Result → Shared → Prop} (hh : A.handled = none) (L : Zlo z TI TO i1 i2 l1 l2 S) (st : Zst z TI TO i1 i2 l1 l2 S xs ys 0 s.heap) (hz : IsZip s.heap z TI TO .none) (hn : min xs.size ys.size ≤ sizeLine) (c₀ : Nat) (hS : s.heap.get? S = some { cls := .type "list", data := .seq #[] c₀ })
    (hR : ∀ h' tk acc c as, (∀ b o, b ≠ S → b ∉ [z, TO, i1, i2] → s.heap.get? b = some o → h'.get? b = some o) → h'.get? S = some { cls := .type "list", dict := none, data := .seq acc c, slots := #[] } → as.length = min xs.size ys.size → Zps xs ys S h' as →
      acc.toList = as.map Value.ref → R (.ok (.ret .none)) { s with heap := h', toks := tk }) :
    wpAny (model prog w) A.in1 (Builtin.List.listExtendWith (.ref S) (.ref z) .none)
      (fun fin s' => match fin with | .done f => R (.ok f) s' | .again c' => c'.quiet = true ∧ codeAny (model prog w) A c' R s') (fun e s' => R (.error e) s') s := by
  have hT : s.TypeIs (.ref z) "zip" := ⟨_, hz, rfl⟩
  have hSz : S ≠ z := Nat.ne_of_gt L.z
  unfold Builtin.List.listExtendWith
  refine wpAny_bind (wpAny_typeOf hT ?_)
  have h1 : Builtin.List.listSameRef (.ref S) (.ref z) = false := by simp [Builtin.List.listSameRef, hSz]
  have h2 : (Value.type "zip" == Value.type "list") = false := by decide
  have h3 : (Value.type "zip" == Value.type "tuple") = false := by decide
  simp only [h1, h2, h3, Bool.or_false, Bool.false_eq_true, if_false]
  refine wpAny_bind (wpAny_pyIter_zip hz ?_)
  refine wpAny_bind (wpAny_holding ?_)
  unfold Builtin.List.listLengthHint
  refine wpAny_bind (wpAny_specialOf hT zip_no_len ?_)
  show wpAny _ _ (specialOf (Value.ref z) (Str.ofString "__length_hint__") >>= _) _ _ _
  refine wpAny_bind (wpAny_specialOf hT zip_no_hint ?_)
  refine wpAny_pure ?_
  show wpAny _ _ (rule "list.extend.makes-room" >>= fun _ => Builtin.List.listTouch (.ref S) >>= fun _ =>
    again (.builtin "list.extend.loop" ⟨[.ref S, .ref z, .none], []⟩)) _ _ _
  refine wpAny_bind (wpAny_rule ?_)
  refine wpAny_bind ?_
  show wpAny _ _ (updateSeq S (·.push .none) >>= fun _ => updateSeq S (·.pop)) _ _ _
  refine wpAny_bind (wpAny_updateSeq hS rfl ?_)
  have hS₂ := Heap.get?_update_self (Obj.mapSeq (·.push Value.none)) hS rfl
  refine wpAny_updateSeq (hz := by seq_fits) hS₂ rfl ?_
  have hS₃ := Heap.get?_update_self (Obj.mapSeq (·.pop)) hS₂ rfl
  have oth : ∀ b o, b ≠ S → s.heap.get? b = some o → ((s.heap.update S (Obj.mapSeq (·.push Value.none))).update S (Obj.mapSeq (·.pop))).get? b = some o := fun b o hb e =>
    (Heap.get?_update_other _ _ (Ne.symm hb)).trans ((Heap.get?_update_other _ _ (Ne.symm hb)).trans e)
  refine wpAny_pure ⟨plainId_quiet PySem.F.plain_extend_loop _, ?_⟩
  exact zl_loop (s := s) (h₁ := s.heap) hh L hn .none hR _ 0 _ s.toks _ #[] [] rfl (Nat.zero_le _) (st.keep L oth) (fun b o b1 b2 e => oth b o b1 e) hS₃ rfl rfl ⟨List.Pairwise.nil, (fun _ ha => nomatch ha), (fun j a hj => by simp at hj)⟩
theorem zl_init {R : Result → Shared → Prop} (hh : A.handled = none) (L : Zlo z TI TO i1 i2 l1 l2 S) (st : Zst z TI TO i1 i2 l1 l2 S xs ys 0 s.heap) (hz : IsZip s.heap z TI TO .none) (hn : min xs.size ys.size ≤ sizeLine) (hS : s.heap.get? S = some { cls := .type "list", data := .seq #[] })
    (hR : ∀ h' tk acc c as, (∀ b o, b ≠ S → b ∉ [z, TO, i1, i2] → s.heap.get? b = some o → h'.get? b = some o) → h'.get? S = some { cls := .type "list", dict := none, data := .seq acc c, slots := #[] } → as.length = min xs.size ys.size → Zps xs ys S h' as →
      acc.toList = as.map Value.ref → R (.ok (.ret .none)) { s with heap := h', toks := tk }) :
    wpAny (model prog w) A.in1 (Builtin.«list.__init__» ⟨[.ref S, .ref z], []⟩)
      (fun fin s' => match fin with | .done f => R (.ok f) s' | .again c' => c'.quiet = true ∧ codeAny (model prog w) A c' R s') (fun e s' => R (.error e) s') s := by
  show wpAny _ _ (do let old ← Builtin.List.listItems (.ref S); Builtin.List.listUpdate (.ref S) (fun _ => #[]); letGo old.toList.reverse; Builtin.List.listExtendWith (.ref S) (.ref z) .none) _ _ s
  refine wpAny_bind ?_
  unfold Builtin.List.listItems
  refine wpAny_bind (wpAny_seqItems hS rfl (wpAny_pure ?_))
  show wpAny _ _ (updateSeq S (fun _ => #[]) >>= fun _ => letGo (#[] : Array Value).toList.reverse >>= fun _ => Builtin.List.listExtendWith (.ref S) (.ref z) .none) _ _ s
  refine wpAny_bind (wpAny_updateSeq hS rfl ?_)
  have hS₂ := Heap.get?_update_self (Obj.mapSeq (fun _ => (#[] : Array Value))) hS rfl
  have oth : ∀ b o, b ≠ S → s.heap.get? b = some o → (s.heap.update S (Obj.mapSeq (fun _ => (#[] : Array Value)))).get? b = some o :=
    fun b o hb e => (Heap.get?_update_other _ _ (Ne.symm hb)).trans e
  refine wpAny_bind (wpAny_letGo ?_)
  refine zl_extend hh L (st.keep L oth) (oth _ _ (Nat.ne_of_lt L.z) hz) hn _ hS₂ (fun h' tk acc c as hk hS' hl hG hacc => ?_)
  exact hR h' tk acc c as (fun b o b1 b2 e => hk b o b1 b2 (oth b o b1 e)) hS' hl hG hacc
theorem zl_call {Q : Value → Shared → Prop} (hh : A.handled = none) (D : ZipApart z TI TO i1 i2 l1 l2) (hz : IsZip s.heap z TI TO .none) (hTI : IsPair s.heap TI (.ref i1) (.ref i2)) {a b : Value} (hTO : IsPair s.heap TO a b) (h1 : s.heap.IsListIter i1 l1 0) (h2 : s.heap.IsListIter i2 l2 0) (hl1 : s.heap.IsList l1 xs) (hl2 : s.heap.IsList l2 ys) (hn : min xs.size ys.size ≤ sizeLine)
    (hQ : ∀ h' tk acc c as, (∀ b o, b ∉ [z, TO, i1, i2] → s.heap.get? b = some o → h'.get? b = some o) → h'.get? s.heap.objs.size = some { cls := .type "list", dict := none, data := .seq acc c, slots := #[] } → as.length = min xs.size ys.size → Zps xs ys s.heap.objs.size h' as →
      acc.toList = as.map Value.ref → Q (.ref s.heap.objs.size) { s with heap := h', toks := tk }) :
    wpAny (model prog w) A (call (.type "list") [.ref z]) Q E s := by
  refine callType_codes (Q₁ := fun obj s₁ => obj = .ref s.heap.objs.size ∧ s₁ = { s with heap := s.heap.push { cls := .type "list", data := .seq #[] } }) PySem.F.called_list (PySem.F.typeCall_list_1 _) PySem.F.entry_list_init
    (code_list_new _ ⟨rfl, rfl⟩) fun obj s₁ h₁ => ?_
  obtain ⟨rfl, rfl⟩ := h₁
  have hS : (s.heap.push { cls := .type "list", data := .seq #[] }).get? s.heap.objs.size = some { cls := .type "list", data := .seq #[] } := Heap.get?_push_size _ rfl
  have L : Zlo z TI TO i1 i2 l1 l2 s.heap.objs.size := ⟨D, Heap.lt_size hz, Heap.lt_size hTI, Heap.lt_size hTO, let ⟨_, e, _⟩ := h1; Heap.lt_size e, let ⟨_, e, _⟩ := h2; Heap.lt_size e, let ⟨_, e, _⟩ := hl1; Heap.lt_size e, let ⟨_, e, _⟩ := hl2; Heap.lt_size e⟩
  have k : ∀ b o, s.heap.get? b = some o → (s.heap.push { cls := .type "list", data := .seq #[] }).get? b = some o := fun b o e => Heap.get?_push_of_some _ e
  refine ⟨⟨_, hS, rfl⟩, PySem.F.args_list_init_2 _ _, zl_init (A := A.in1) hh L ⟨k _ _ hTI, h1.at fun o e => k _ o e, h2.at fun o e => k _ o e, hl1.at fun o e => k _ o e, hl2.at fun o e => k _ o e, .inl ⟨k _ _ hz, _, _, k _ _ hTO⟩⟩ (k _ _ hz) hn hS (fun h' tk acc c as hk hS' hl hG hacc => ?_)⟩
  exact ⟨rfl, hQ h' tk acc c as (fun b o b2 e => hk b o (Nat.ne_of_lt (Heap.lt_size e)) b2 (k b o e)) hS' hl hG hacc⟩
end
def putP : Hp → List Addr → List (V × V) → Hp
  | H, a :: as, p :: ps => putP (upd H a (.tup [p.1, p.2])) as ps
  | H, _, _ => H
theorem putP_off {b : Addr} : ∀ (as : List Addr) (ps : List (V × V)) (H : Hp), b ∉ as → putP H as ps b = H b
  | [], _, _, _ => rfl
  | _ :: _, [], _, _ => rfl
  | a :: as, p :: ps, H, h => by
    show putP (upd H a (.tup [p.1, p.2])) as ps b = H b
    rw [putP_off as ps _ (fun z => h (List.mem_cons_of_mem _ z)), upd_ne (fun z => h (by rw [z]; exact List.mem_cons_self))]
theorem putP_at : ∀ (as : List Addr) (ps : List (V × V)) (H : Hp), as.length = ps.length → as.Nodup → ∀ (j : Nat) (t : Addr), as[j]? = some t → ∃ p, ps[j]? = some p ∧ putP H as ps t = some (.tup [p.1, p.2])
  | [], _, _, _, _, _, _, e => by cases e
  | _ :: _, [], _, h, _, _, _, _ => by cases h
  | a :: as, p :: ps, H, h, hn, 0, t, e => by
    have hn' := List.nodup_cons.mp hn
    cases (Option.some.inj e)
    refine ⟨p, rfl, ?_⟩
    show putP (upd H a (.tup [p.1, p.2])) as ps a = _
    rw [putP_off as ps _ hn'.1, upd_same]
  | a :: as, p :: ps, H, h, hn, j + 1, t, e => putP_at as ps (upd H a (.tup [p.1, p.2])) (Nat.succ.inj h) (List.nodup_cons.mp hn).2 j t e
section
variable {X : Cx}
theorem zl_laid {pins : List (Addr × Obj)} {σ : L2.St} {H : Hp} {s : Shared} {h' : Heap} {tk : Nat} {us vs : List V} {xs ys : List Value} {acc : Array Value} {c : Nat} {as : List Addr} {S : Addr} (I : Inv X pins σ H s) (hz : min us.length vs.length ≤ sizeLine) (ru : Vals us xs) (rv : Vals vs ys)
    (hk : ∀ b o, s.heap.get? b = some o → h'.get? b = some o) (hS0 : s.heap.objs.size ≤ S) (hS : h'.get? S = some { cls := .type "list", dict := none, data := .seq acc c, slots := #[] }) (hl : as.length = min xs.toArray.size ys.toArray.size) (hG : Zps xs.toArray ys.toArray S h' as) (hacc : acc.toList = as.map Value.ref) :
    ∃ H' : Hp, (∀ b o, H b = some o → H' b = some o) ∧ H S = none ∧ (∀ t ∈ as, H t = none) ∧ S ∉ as ∧ as.Nodup ∧ as.length = min us.length vs.length ∧ H' S = some (.lst (as.map V.ref)) ∧ (∀ b, b ≠ S → b ∉ as → H' b = H b) ∧ (∀ (j : Nat) (t : Addr), as[j]? = some t → ∃ u v, us[j]? = some u ∧ vs[j]? = some v ∧ H' t = some (.tup [u, v])) ∧ Inv X pins σ H' { s with heap := h', toks := tk } := by
  have l1 := ru.length
  have l2 := rv.length
  have hl' : as.length = min us.length vs.length := by rw [hl, List.size_toArray, List.size_toArray]; omega
  have lz : as.length = (us.zip vs).length := by rw [List.length_zip]; exact hl'
  have hSn : S ∉ as := fun z => Nat.lt_irrefl _ (hG.above _ z)
  have nd : as.Nodup := List.Pairwise.imp (fun {a b} (h : a < b) => Nat.ne_of_lt h) hG.rise
  have new : ∀ t ∈ as, H t = none := fun t ht => I.hok.fresh (Nat.le_trans hS0 (Nat.le_of_lt (hG.above t ht)))
  have newS : H S = none := I.hok.fresh hS0
  have atP := putP_at as (us.zip vs) (upd H S (.lst (as.map V.ref))) lz nd
  have off : ∀ b, b ∉ as → b ≠ S → putP (upd H S (.lst (as.map V.ref))) as (us.zip vs) b = H b := fun b h1 h2 => by rw [putP_off as _ _ h1, upd_ne h2]
  have low : ∀ b o, s.heap.get? b = some o → b ∉ as ∧ b ≠ S := fun b o e => ⟨fun z => absurd (Heap.lt_size e) (Nat.not_lt.mpr (Nat.le_trans hS0 (Nat.le_of_lt (hG.above b z)))), fun z => absurd (Heap.lt_size e) (Nat.not_lt.mpr (by rw [z]; exact hS0))⟩
  have kp : ∀ b u, H b = some u → (putP (upd H S (.lst (as.map V.ref))) as (us.zip vs)) b = some u := fun b u e => by
    rw [off b (fun z => by rw [new b z] at e; cases e) (fun z => by rw [z, newS] at e; cases e)]
    exact e
  have eS : putP (upd H S (.lst (as.map V.ref))) as (us.zip vs) S = some (.lst (as.map V.ref)) := by rw [putP_off as _ _ hSn, upd_same]
  refine ⟨putP (upd H S (.lst (as.map V.ref))) as (us.zip vs), kp, newS, new, hSn, nd, hl', eS, fun b h1 h2 => off b h2 h1, fun j t e => ?_, ?_⟩
  · obtain ⟨p, e1, e2⟩ := atP j t e
    rw [List.getElem?_zip_eq_some] at e1
    exact ⟨p.1, p.2, e1.1, e1.2, e2⟩
  refine I.call' (ch := []) rfl ⟨fun b o q _ _ _ => hk b o q, fun b o q _ _ _ => ⟨o.slots, hk b o q⟩, fun b o q n _ => ?_, fun b o q _ => ⟨o, hk b o q⟩, fun b xs q => kp b _ q, fun b o u q => kp b _ q, fun b ps q => ⟨#[], by rw [kp b _ q]; simp⟩⟩ (fun b u q => ?_) I.bare fun b z => by simp at z
  · obtain ⟨z1, z2⟩ := low b o q
    rw [off b z1 z2]
    exact n
  · by_cases hb : b ∈ as
    · obtain ⟨j, e1⟩ := List.mem_iff_getElem?.mp hb
      obtain ⟨p, e2, e3⟩ := atP j b e1
      rw [e3] at q
      cases q
      rw [List.getElem?_zip_eq_some] at e2
      obtain ⟨x, y, f1, f2, f3⟩ := hG.pairs j b e1
      obtain ⟨x', g1, g2⟩ := ru.get e2.1
      obtain ⟨y', g3, g4⟩ := rv.get e2.2
      rw [List.getElem?_toArray, g1] at f1
      rw [List.getElem?_toArray, g3] at f2
      cases f1
      cases f2
      exact ⟨by show 2 ≤ sizeLine; decide, _, .cons g2 (.cons g4 .nil), ⟨_, f3, rfl, _, rfl⟩⟩
    · by_cases hb2 : b = S
      · rw [hb2] at q ⊢
        rw [eS] at q
        cases q
        refine ⟨by rw [List.length_map]; omega, acc.toList, c, by rw [hacc]; exact LiI.vals_refs as, ?_⟩
        rw [Array.toArray_toList]
        exact hS
      · rw [off b hb hb2] at q
        exact (I.hok b u q).stay (fun d v _ y => hk d v y) (fun d y => kp d _ y) fun d xs y => kp d _ y
def tZl (K : PySem.W.Frag) (ta : TA) : TE := fun σ H Q => ta σ H fun vs H1 => ∃ a b us ws, vs = [.ref a, .ref b] ∧ SqL K H1 a us ∧ SqL K H1 b ws ∧
  ∀ (H' : Hp) (S : Addr) (as : List Addr), (∀ b o, H1 b = some o → H' b = some o) → H1 S = none → (∀ t ∈ as, H1 t = none) → S ∉ as → as.Nodup → as.length = min us.length ws.length → H' S = some (.lst (as.map V.ref)) → (∀ b, b ≠ S → b ∉ as → H' b = H1 b) →
    (∀ (j : Nat) (t : Addr), as[j]? = some t → ∃ u v, us[j]? = some u ∧ ws[j]? = some v ∧ H' t = some (.tup [u, v])) → Q (.ref S) H'
theorem pe_zl {e e2 : Expr} {ta : TA} {p p2 pos pos2 : Pos} (hc : X.calm = true) (hg : Gl X "zip") (hm : X.mg "zip" = none) (hg2 : Gl X "list") (hm2 : X.mg "list" = none) (ha : PA X [e, e2] ta)
    (hs : starEach [e, e2] X.env = (false, eval e X.env) :: starEach [e2] X.env := by rfl) (hpl : (backTo pos2 (starEach [e2] X.env)).any (·.1) = false := by rfl)
    (hs2 : starEach [.Call (.Name "zip" p2) [e, e2] [] pos2] X.env = (false, eval (.Call (.Name "zip" p2) [e, e2] [] pos2) X.env) :: starEach [] X.env := by rfl) :
    PE X (.Call (.Name "list" p) [.Call (.Name "zip" p2) [e, e2] [] pos2] [] pos) (tZl X.K ta) := by
  refine ⟨fun pins s σ H Q I hq => ?_⟩
  refine wpAny_Call_Name_kw (ld_blt I hg2 hm2 (show bootBuiltins "list" = some (.type "list") from rfl) ?_)
  refine PyProof.Rows.callWith_type1 ?_ hs2 rfl
  rw [hs2]
  show wpAny _ _ (spliced ((false, eval (.Call (.Name "zip" p2) [e, e2] [] pos2) X.env) :: backTo pos (starEach [] X.env))) _ _ s
  refine Calls.spliced_cons ?_
  refine Call_ (ld_blt I hg hm PyProof.Rows.boot_zip (PyProof.Rows.callWith_type1 (thn (ha.run pos2 pins s σ H _ I hq) fun us s1 ⟨vs, H1, I1, r1, q1⟩ => ?_) hs hpl))
  obtain ⟨a, b, xs, ys, ex, hqx, hqy, q⟩ := q1
  subst ex
  cases r1 with
  | cons r rr =>
    cases rr with
    | cons r' rr =>
      cases rr
      cases r
      cases r'
      obtain ⟨its, rv, p1, z1⟩ := I1.list hqx
      obtain ⟨its2, rv2, p2, _⟩ := I1.list hqy
      have la : a < s1.heap.objs.size := p1.lt
      have lb : b < s1.heap.objs.size := p2.lt
      have l1 := rv.length
      refine call_zip_2 p1.isList p2.isList fun h' hz hTI hTO h1 h2 hsz hk => ?_
      refine Calls.spliced_nil ?_
      refine zl_call (s := { s1 with heap := h' }) (I1.ok.hd hc) (PySem.W.ktu_apart s1.heap.objs.size a b la lb) hz hTI hTO h1 h2 (p1.isList.at fun o e => hk _ o e) (p2.isList.at fun o e => hk _ o e) (by simp only [List.size_toArray]; omega) fun h'' tk acc c as hk2 hS hl hG hacc => ?_
      obtain ⟨H', k1, k2, k3, k4, k5, k6, k7, k8, k9, J⟩ := zl_laid (tk := tk) I1 (by omega) rv rv2 (fun b o e => hk2 b o (fun hm => by
        have lt := Heap.lt_size e
        simp only [List.mem_cons, List.not_mem_nil, or_false] at hm
        rcases hm with z | z | z | z <;> rw [z] at lt
        · exact absurd (Nat.le_add_right s1.heap.objs.size 4) (Nat.not_le.mpr lt)
        · exact absurd (Nat.le_add_right s1.heap.objs.size 3) (Nat.not_le.mpr lt)
        · exact Nat.lt_irrefl _ lt
        · exact absurd (Nat.le_add_right s1.heap.objs.size 1) (Nat.not_le.mpr lt)) (hk b o e)) (by show s1.heap.objs.size ≤ h'.objs.size; omega) hS hl hG hacc
      exact ⟨.ref _, H', J, rfl, q H' _ as k1 k2 k3 k4 k5 k6 k7 k8 k9⟩
end
end T2E
namespace T2
open L2 PySem PySem.Spec PyProof.Rows T2Z T2E
theorem FzL.of_get {K : PySem.W.Frag} {F : Hp} : ∀ {ds : List D} {vs : List V}, ds.length = vs.length → (∀ (j : Nat) (d : D) (v : V), ds[j]? = some d → vs[j]? = some v → Fz K F d v) → FzL K F ds vs
  | [], [], _, _ => by simp [FzL]
  | [], _ :: _, h, _ => by cases h
  | _ :: _, [], h, _ => by cases h
  | d :: ds, v :: vs, h, f => by
    simp only [FzL]
    exact ⟨v, vs, rfl, f 0 d v rfl rfl, FzL.of_get (Nat.succ.inj h) fun j d' v' e1 e2 => f (j + 1) d' v' e1 e2⟩
open Classical in
theorem Wd.made {K : PySem.W.Frag} {F H H' : Hp} {S : AS} {Γ : List Ty} {σ : St} {ρ : List D} {bs : List Addr} {p : Addr} {as : List Addr} (w : Wd K F H S Γ σ ρ bs) (k1 : ∀ b o, H b = some o → H' b = some o) (hp : H p = none) (ha : ∀ t ∈ as, H t = none) (hpa : p ∉ as) (hp' : H' p ≠ none) (k8 : ∀ b, b ≠ p → b ∉ as → H' b = H b) :
    ∃ F', Wd K F' H' S Γ σ ρ (p :: bs) ∧ Gr S F H F' H' ∧ ∀ t ∈ as, F' t = H' t := by
  obtain ⟨cs, h, nd, f⟩ := w.ex
  have off : ∀ a, H a ≠ none → a ≠ p ∧ a ∉ as := fun a q => ⟨fun e => q (e ▸ hp), fun e => q (ha a e)⟩
  have fn : ∀ a u, F a = some u → a ∉ as := fun a u e => (off a (w.sub.ne e)).2
  have sF : Sub F (fun b => if b ∈ as then H' b else F b) := .same fun a u e => by
    simp only [if_neg (fn a u e)]; exact e
  refine ⟨fun b => if b ∈ as then H' b else F b, ⟨fun a u e => ?_, fun a hS => ?_, cs, h.mono sF fun a q => ?_, ?_, fun a q => ?_⟩, ⟨sF, fun a hS => ?_⟩, fun t ht => by simp only [if_pos ht]⟩
  · by_cases q : a ∈ as
    · simp only [if_pos q] at e; exact ⟨u, e, .inl rfl⟩
    · simp only [if_neg q] at e
      obtain ⟨v, e2, l⟩ := w.sub _ _ e
      exact ⟨v, k1 _ _ e2, l⟩
  · obtain ⟨q1, q2⟩ := w.out a hS
    obtain ⟨z1, z2⟩ := off a q2
    simp only [if_neg z2]
    exact ⟨q1, by rw [k8 a z1 z2]; exact q2⟩
  · obtain ⟨z1, z2⟩ := off a (h.there a q)
    exact k8 a z1 z2
  · refine List.nodup_cons.mpr ⟨fun hm => (f p hm).2.2 hp, nd⟩
  · rcases List.mem_cons.mp q with rfl | hm
    · refine ⟨?_, fun z => (w.out _ z).2 hp, hp'⟩
      simp only [if_neg hpa]
      cases e : F a with
      | none => rfl
      | some u => exact absurd hp (w.sub.ne e)
    · obtain ⟨q1, q2, q3⟩ := f a hm
      obtain ⟨z1, z2⟩ := off a q3
      simp only [if_neg z2]
      exact ⟨q1, q2, by rw [k8 a z1 z2]; exact q3⟩
  · obtain ⟨q1, q2⟩ := w.out a hS
    obtain ⟨z1, z2⟩ := off a q2
    exact k8 a z1 z2
/-- list(zip(a, b)), a and b lists -/
def tZipL (tr : TL) : TD := fun ρ Q E => tr ρ (fun ds ρ' => match ds with
  | [.list xs, .list ys] => Q (.list (zipT xs ys)) ρ'
  | _ => False) E
section
variable {X : Cx} {W : WX} {Γx Γ Γ1 : List Ty} {e e2 : Expr} {tr : TL} {p p2 pos pos2 : Pos}
theorem e_zipl (hc : X.calm = true) (hg : Gl X "zip") (hm : X.mg "zip" = none) (hg2 : Gl X "list") (hm2 : X.mg "list" = none) (ha : AOk X W Γx Γ [e, e2] Γ1 [.fz, .fz] tr)
    (hs : starEach [e, e2] X.env = (false, eval e X.env) :: starEach [e2] X.env := by rfl) (hpl : (backTo pos2 (starEach [e2] X.env)).any (·.1) = false := by rfl)
    (hs2 : starEach [.Call (.Name "zip" p2) [e, e2] [] pos2] X.env = (false, eval (.Call (.Name "zip" p2) [e, e2] [] pos2) X.env) :: starEach [] X.env := by rfl) :
    EOk X W Γx Γ (.Call (.Name "list" p) [.Call (.Name "zip" p2) [e, e2] [] pos2] [] pos) Γ1 .ow (tZipL tr) := by
  refine ⟨PE.imp (pe_zl hc hg hm hg2 hm2 ha.pa hs hpl hs2) fun σ H Q ⟨F, S, ρ, Qd, Ed, w, q, p, px⟩ => ?_⟩
  refine ⟨F, S, ρ, _, Ed, w, q, fun ds ρ' hq F1 H1 vs bs g r w1 => ?_, px⟩
  obtain ⟨r1, rfl⟩ := r.fz rfl
  match ds, hq with
  | [.list xs, .list ys], hq =>
    obtain ⟨v1, vr, rfl, f1, v2, vr2, rfl, f2, e3⟩ := r1
    cases e3
    simp only [Fz] at f1 f2
    obtain ⟨a, us, rfl, h1, h2⟩ := f1
    obtain ⟨b, ws, rfl, h3, h4⟩ := f2
    refine ⟨a, b, us, ws, rfl, w1.sub.sql h1, w1.sub.sql h3, fun H' p2 as k1 k2 k3 k4 k5 k6 k7 k8 k9 => ?_⟩
    obtain ⟨F', w2, g2, hF⟩ := w1.made k1 k2 k3 k4 (by rw [k7]; simp) k8
    refine p _ ρ' hq F' H' (.ref p2) [p2] (g.trans g2 fun _ h => h) ?_ w2
    show Rp X.K F' H' .ow _ (.list _) _
    simp only [Rp]
    have l1 := h2.length
    have l2 := h4.length
    refine ⟨p2, _, rfl, k7, FzL.of_get ?_ fun j d v hd hv => ?_, rfl⟩
    · unfold zipT
      rw [List.length_zipWith, List.length_map, k6]
      omega
    · rw [List.getElem?_map] at hv
      obtain ⟨t, ht, rfl⟩ := Option.map_eq_some_iff.mp hv
      obtain ⟨u, v, hu, hv', e⟩ := k9 j t ht
      obtain ⟨d1, q1, f1⟩ := h2.getV hu
      obtain ⟨d2, q2, f2⟩ := h4.getV hv'
      unfold zipT at hd
      rw [List.getElem?_zipWith, q1, q2] at hd
      cases hd
      simp only [Fz]
      refine ⟨t, [u, v], rfl, SqT.of (by rw [hF t (List.mem_of_getElem? ht)]; exact e), ⟨u, [v], rfl, f1.mono g2.fz, ⟨v, [], rfl, f2.mono g2.fz, rfl⟩⟩⟩
end
end T2

namespace T2
open L2 PySem PySem.Spec PyProof.Rows

/-! ### a list of owned lists -/
theorem Each.app {R : V → D → List Addr → Prop} {vs ds as vs' ds' as'} (h : Each R vs ds as) (h' : Each R vs' ds' as') : Each R (vs ++ vs') (ds ++ ds') (as ++ as') := by
  induction h with
  | nil => exact h'
  | cons h1 _ ih =>
    rw [List.append_assoc]
    exact .cons h1 ih
section
variable {X : Cx} {W : WX} {ios : List Nat} {σ0 : St} {Γ Γ1 Γ2 Γ3 Γ4 Γb Γx Γ' : List Ty} {C : TC} {e c tg iter elt : Expr} {ifs : List Expr} {ti : TL} {te : TD} {g : GM} {tc : TB}
theorem lc_bodyO {vs : List Nat} (hlen : Γ2.length = Γb.length) (hb : botAt Γb vs = true) (hl : tyLe Γ1 Γb = true) (h3 : tyLe Γ3 Γb = true) (h4 : tyLe Γ4 Γb = true) {σ : St} {F1 H1 : Hp} {S : AS} {ρ1 xs : List D} {Qd : D → List D → Prop} {Q : VK} {J : It}
    (w1 : Wd X.K F1 H1 S Γ1 σ ρ1 []) (J1 : ItD X.K J S F1 H1 xs) (hx : lcD g tc te Qd xs [] ρ1) (p : ∀ d ρ', Qd d ρ' → ∀ F' H' v bs, Gr S F1 H1 F' H' → RpV X.K F' H' σ (.ol .ow) v d bs → Wd X.K F' H' S Γb σ ρ' bs → Q v H') :
    ∀ D, H1 D = none → ∃ W : Nat → Nat → Hp → Prop, (∃ m, W 0 m (upd H1 D (.lst []))) ∧ ∀ i m H, W i m H →
  (J.stop i H ∧ Q (.ref D) H) ∨ (J.go i H ∧ ∃ Nx : Hp → Prop, (∀ H', Nx H' → ∃ m', m' < m ∧ W (i + 1) m' H') ∧ ∀ x H', J.yld i H x H' → liftG X (rest Γb.length vs) (wipe σ vs) Γb Γ2 g x (wipe σ vs) H' fun σ2 H2 => wipe σ2 vs = wipe σ vs ∧ liftT X WN Γ2 Γ2 Γ3 tc σ2 H2 fun b H3 =>
    if b = true then liftE X WN Γ3 Γ3 Γ4 .ow te σ2 H3 fun y H4 => ∃ acc, H4 D = some (.lst acc) ∧ acc.length < sizeLine ∧ Nx (upd H4 D (.lst (acc ++ [y]))) else Nx H3) := by
  intro D hD
  have w1a := w1.alloc (o := .lst []) hD
  obtain ⟨F2, s2, w2⟩ := w1a.weakB hl
  have nd := w2.held
  have lenσ : (wipe σ vs).length = σ.length := wipe_length σ vs
  have lenΓ : Γb.length = σ.length := w2.len.1
  have toW : ∀ {F' H' S' ρ' bs}, Wd X.K F' H' S' Γb σ ρ' bs → Wd X.K F' H' S' Γb (wipe σ vs) ρ' bs := fun w => w.cong lenσ fun i hi => (wipe_ne σ vs i (botAt_ne hb hi)).symm
  have ofW : ∀ {F' H' S' ρ' bs}, Wd X.K F' H' S' Γb (wipe σ vs) ρ' bs → Wd X.K F' H' S' Γb σ ρ' bs := fun w => w.cong lenσ.symm fun i hi => wipe_ne σ vs i (botAt_ne hb hi)
  refine ⟨fun i m H' => m = xs.length - i ∧ i ≤ xs.length ∧ ∃ F' ρ' acc us as, Gr S F1 H1 F' H' ∧ Wd X.K F' H' (fun a => S a ∨ a ∈ D :: as) Γb (wipe σ vs) ρ' [] ∧ (D :: as).Nodup ∧ (∀ a ∈ D :: as, ¬ S a) ∧ H' D = some (.lst us) ∧ Each (Rp X.K F' H' .ow) us acc as ∧ lcD g tc te Qd (xs.drop i) acc ρ',
    ⟨xs.length, by simp, Nat.zero_le _, F2, ρ1, [], [], [], ⟨s2, fun a ha => ?_⟩, toW w2.lend0, nd.1, nd.2, upd_same, .nil, by simpa using hx⟩, ?_⟩
  · exact upd_ne (fun e => nd.2 D (by simp) (by rw [← e]; exact ha))
  rintro i m H3 ⟨rfl, hi, F3, ρ3, acc, us, as, s3, w3, nd3, ns3, d3, f3, l3⟩
  by_cases hlt : i < xs.length
  · refine .inr ⟨J1.go F3 H3 s3 w3.sub i hlt, fun H' => ∃ F' ρ' acc us as, Gr S F1 H1 F' H' ∧ Wd X.K F' H' (fun a => S a ∨ a ∈ D :: as) Γb (wipe σ vs) ρ' [] ∧ (D :: as).Nodup ∧ (∀ a ∈ D :: as, ¬ S a) ∧ H' D = some (.lst us) ∧ Each (Rp X.K F' H' .ow) us acc as ∧ lcD g tc te Qd (xs.drop (i + 1)) acc ρ',
      fun H' h => ⟨xs.length - (i + 1), by omega, rfl, hlt, h⟩, fun x H4 hy => ?_⟩
    obtain ⟨d, F4, e4, g4, w4, r4⟩ := J1.yld F3 H3 _ Γb _ ρ3 [] s3 (fun _ => .inl) w3 i x H4 hlt hy
    have ed : xs.drop i = d :: xs.drop (i + 1) := by
      rw [List.drop_eq_getElem_cons hlt]
      rw [List.getElem?_eq_getElem hlt] at e4
      cases e4
      rfl
    rw [ed] at l3
    refine ⟨F4, _, ρ3, d, _, w4, fun _ _ => rfl, r4, l3, fun ρ5 σ5 h5 io5 w5 => ?_⟩
    have len5 : σ5.length = σ.length := by rw [← w5.len.1, hlen, lenΓ]
    have same : ∀ j, j ∉ vs → σ5[j]? = (wipe σ vs)[j]? := fun j hj => by
      by_cases hlj : j < Γb.length
      · exact io5 j (mem_rest hlj hj)
      · rw [List.getElem?_eq_none (by omega), List.getElem?_eq_none (by omega)]
    have to5 : ∀ {F' H' S' ρ' bs}, Wd X.K F' H' S' Γb σ5 ρ' bs → Wd X.K F' H' S' Γb (wipe σ vs) ρ' bs := fun w => w.cong (by omega) fun j hj => same j (botAt_ne hb hj)
    have hw : wipe σ5 vs = wipe σ vs := by
      apply List.ext_getElem?
      intro j
      by_cases hj : j ∈ vs
      · by_cases hlj : j < σ.length
        · rw [wipe_get σ5 vs j (by omega) hj, wipe_get σ vs j hlj hj]
        · rw [List.getElem?_eq_none (by rw [wipe_length]; omega), List.getElem?_eq_none (by rw [wipe_length]; omega)]
      · rw [wipe_ne σ5 vs j hj, same j hj]
    refine ⟨hw, F4, _, ρ5, _, _, w5, h5, fun b ρ6 hb6 F6 H6 g6 w6 => ?_, fun _ _ z => z.elim⟩
    have g46 : Gr (fun a => S a ∨ a ∈ D :: as) F3 H3 F6 H6 := (Gr.shrink g4 fun _ h => .inl h).trans g6 fun _ h => h
    have d6 : H6 D = some (.lst us) := by rw [g46.eq D (.inr (by simp))]; exact d3
    cases b with
    | false =>
      simp only [Bool.false_eq_true, if_false] at hb6 ⊢
      obtain ⟨F7, s7, w7⟩ := w6.weak h3
      exact ⟨F7, ρ6, acc, us, as, ⟨(s3.fz.trans g46.fz).trans s7, fun a ha => (g46.eq a (.inl ha)).trans (s3.eq a ha)⟩, to5 w7, nd3, ns3, d6, f3.mono fun v d bs hb => Rp.mono (g46.fz.trans s7) .ow fun a ha => g46.eq a (.inr (List.mem_cons_of_mem _ (hb a ha))), hb6⟩
    | true =>
      simp only [if_true] at hb6 ⊢
      refine ⟨F6, _, ρ6, _, _, w6, hb6, fun y ρ7 h7 F7 H7 v bs g7 r7 w7 => ?_, fun _ _ z => z.elim⟩
      obtain ⟨h7a, h7b⟩ := h7
      have r7 : Rp X.K F7 H7 .ow v y bs := r7
      obtain ⟨nb, ob⟩ := w7.held
      have d7 : H7 D = some (.lst us) := by rw [g7.eq D (.inr (by simp))]; exact d6
      have w8 := w7.lend0.updS (p := D) (o := .lst (us ++ [v])) (.inl (.inr (by simp)))
      obtain ⟨F9, s9, w9⟩ := w8.weak h4
      have Db : D ∉ bs := fun hm => ob D hm (.inr (by simp))
      have Da : D ∉ as := (List.nodup_cons.mp nd3).1
      have eS : (fun a => (S a ∨ a ∈ D :: as) ∨ a ∈ bs) = fun a => S a ∨ a ∈ D :: (as ++ bs) := by
        funext a
        simp only [List.mem_cons, List.mem_append, eq_iff_iff]
        constructor
        · rintro ((h | h | h) | h)
          · exact .inl h
          · exact .inr (.inl h)
          · exact .inr (.inr (.inl h))
          · exact .inr (.inr (.inr h))
        · rintro (h | h | h | h)
          · exact .inl (.inl h)
          · exact .inl (.inr (.inl h))
          · exact .inl (.inr (.inr h))
          · exact .inr h
      rw [eS] at w9
      refine ⟨us, d7, by rw [f3.length]; exact h7a, F9, ρ7, acc ++ [y], us ++ [v], as ++ bs, ⟨((s3.fz.trans g46.fz).trans g7.fz).trans s9, fun a ha => ?_⟩, to5 w9, ?_, ?_, upd_same, ?_, h7b⟩
      · rw [upd_ne (fun e => nd.2 D (by simp) (by rw [← e]; exact ha))]
        exact (g7.eq a (.inl ha)).trans ((g46.eq a (.inl ha)).trans (s3.eq a ha))
      · refine List.nodup_cons.mpr ⟨fun hm => ?_, List.nodup_append.mpr ⟨(List.nodup_cons.mp nd3).2, nb, fun a ha b hb e => ?_⟩⟩
        · rcases List.mem_append.mp hm with h | h
          · exact Da h
          · exact Db h
        · subst e
          exact ob a hb (.inr (List.mem_cons_of_mem _ ha))
      · intro a ha hS
        rcases List.mem_cons.mp ha with h | h
        · exact ns3 a (by rw [h]; simp) hS
        · rcases List.mem_append.mp h with h | h
          · exact ns3 a (List.mem_cons_of_mem _ h) hS
          · exact ob a h (.inl hS)
      · refine Each.app (f3.mono fun v d cs hb => Rp.mono ((g46.fz.trans g7.fz).trans s9) .ow fun a ha => ?_) ?_
        · have hm := hb a ha
          rw [upd_ne (fun e => Da (by rw [← e]; exact hm))]
          exact (g7.eq a (.inr (List.mem_cons_of_mem _ hm))).trans (g46.eq a (.inr (List.mem_cons_of_mem _ hm)))
        · have r9 : Rp X.K F9 (upd H7 D (.lst (us ++ [v]))) .ow v y bs := Rp.mono s9 .ow (fun a ha => upd_ne fun e => Db (by rw [← e]; exact ha)) r7
          have e0 := Each.cons r9 .nil
          rw [List.append_nil] at e0
          exact e0
  · have e : i = xs.length := by omega
    subst e
    refine .inl ⟨J1.stop F3 H3 s3 w3.sub, ?_⟩
    rw [List.drop_length] at l3
    have wb := (ofW w3).back nd3 ns3
    rw [List.append_nil] at wb
    refine p _ ρ3 l3 F3 H3 (.ref D) (D :: as) s3 ?_ wb
    show Rp X.K F3 H3 (.ol .ow) (.ref D) (.list acc) (D :: as)
    simp only [Rp]
    exact ⟨D, us, acc, as, rfl, rfl, d3, f3, rfl⟩
theorem lc_pureO {vs : List Nat} (hlen : Γ2.length = Γb.length) (hb : botAt Γb vs = true) (hl : tyLe Γ1 Γb = true) (h3 : tyLe Γ3 Γb = true) (h4 : tyLe Γ4 Γb = true) {σ : St} {H : Hp} {Q : VK}
    (h : liftE X W Γx Γ Γb (.ol .ow) (tLC ti g tc te) σ H Q) : tLc (liftI X W Γx Γ Γ1 ti) (fun v σ H Q => liftG X (rest Γb.length vs) σ Γb Γ2 g v σ H Q) (liftT X WN Γ2 Γ2 Γ3 tc) (liftE X WN Γ3 Γ3 Γ4 .ow te) vs σ H Q := by
  obtain ⟨F, S, ρ, Qd, Ed, w, q, p, px⟩ := h
  exact ⟨F, S, ρ, _, Ed, w, q, fun xs ρ1 hx F1 H1 J g1 w1 J1 => lc_bodyO hlen hb hl h3 h4 w1 J1 hx fun d ρ' hd F' H' v bs g' => p d ρ' hd F' H' v bs (g1.trans g' fun _ h => h), px⟩
theorem e_lcO {scope : Scope} {pos : Pos} (own : List (Str × Nat)) (hc : X.calm = true) (hN : X.N.Nodup) (hi : IOk X W Γx Γ tg iter Γ1 ti) (ok : BlkOk X.N X.env.scope scope own)
    (hg : ∀ (s : Shared) (H : Hp) (C : Addr) (cl : List (Str × Addr)) (fp : List Addr) (σ0 : St), GOk (X.blk s H scope (compEnvC scope cl C X.env) fp) (rest Γb.length (own.map (·.2))) σ0 Γb tg Γ2 g)
    (ht : ∀ (s : Shared) (H : Hp) (C : Addr) (cl : List (Str × Addr)) (fp : List Addr), COk (X.blk s H scope (compEnvC scope cl C X.env) fp) Γ2 ifs Γ3 tc)
    (he : ∀ (s : Shared) (H : Hp) (C : Addr) (cl : List (Str × Addr)) (fp : List Addr), EOk (X.blk s H scope (compEnvC scope cl C X.env) fp) WN Γ3 Γ3 elt Γ4 .ow te)
    (hlen : Γ2.length = Γb.length := by rfl) (hb : botAt Γb (own.map (·.2)) = true := by rfl) (hl : tyLe Γ1 Γb = true := by rfl) (h3 : tyLe Γ3 Γb = true := by rfl) (h4 : tyLe Γ4 Γb = true := by rfl) (hs : ∀ x, foldedSetIterable iter X.env x = pure x := by intro _; rfl) :
    EOk X W Γx Γ (.ListComp elt [⟨tg, iter, ifs, 0⟩] scope pos) Γb (.ol .ow) (tLC ti g tc te) :=
  ⟨PE.imp (pe_lc (g := fun v σ H Q => liftG X (rest Γb.length (own.map fun p : Str × Nat => p.2)) σ Γb Γ2 g v σ H Q) (tt := liftT X WN Γ2 Γ2 Γ3 tc) (te := liftE X WN Γ3 Γ3 Γ4 .ow te) hc hN hi.pi ok (fun s H C cl fp => ⟨fun pins s' σ H' v u Q I r q => (hg s H C cl fp σ).pg.run pins s' σ H' v u Q I r q⟩) (fun s H C cl fp => (ht s H C cl fp).pt) (fun s H C cl fp => (he s H C cl fp).pe) hs) fun σ H Q h => lc_pureO hlen hb hl h3 h4 h⟩
theorem s_setLcO {ios : List Nat} {scope : Scope} {pos spos py : Pos} {y : Str} (i : Nat) (own : List (Str × Nat)) (hc : X.calm = true) (hN : X.N.Nodup) (hi : IOk X W C.ex Γ tg iter Γ1 ti) (ok : BlkOk X.N X.env.scope scope own)
    (hg : ∀ (s : Shared) (H : Hp) (C : Addr) (cl : List (Str × Addr)) (fp : List Addr) (σ0 : St), GOk (X.blk s H scope (compEnvC scope cl C X.env) fp) (rest Γb.length (own.map (·.2))) σ0 Γb tg Γ2 g)
    (ht : ∀ (s : Shared) (H : Hp) (C : Addr) (cl : List (Str × Addr)) (fp : List Addr), COk (X.blk s H scope (compEnvC scope cl C X.env) fp) Γ2 ifs Γ3 tc)
    (he : ∀ (s : Shared) (H : Hp) (C : Addr) (cl : List (Str × Addr)) (fp : List Addr), EOk (X.blk s H scope (compEnvC scope cl C X.env) fp) WN Γ3 Γ3 elt Γ4 .ow te)
    (hnx : C.nx = Γb.set i (.ol .ow) := by rfl) (hy : X.N[i]? = some y := by rfl) (hyl : X.env.scope.names.lookup y = some .local := by rfl) (hlt : i < Γb.length := by decide) (hio : ios.contains i = false := by rfl)
    (hsw : swapsWith (.ListComp elt [⟨tg, iter, ifs, 0⟩] scope pos) (some (.Name y py)) spos.line X.env = pure true := by first | rfl | exact sw_true rfl rfl rfl rfl)
    (hlen : Γ2.length = Γb.length := by rfl) (hb : botAt Γb (own.map (·.2)) = true := by rfl) (hl : tyLe Γ1 Γb = true := by rfl) (h3 : tyLe Γ3 Γb = true := by rfl) (h4 : tyLe Γ4 Γb = true := by rfl) (hs : ∀ x, foldedSetIterable iter X.env x = pure x := by intro _; rfl) :
    SOk X W ios σ0 Γ (.Assign [.Name y py] (.ListComp elt [⟨tg, iter, ifs, 0⟩] scope pos) spos) C (sSet i (tLC ti g tc te)) := by
  refine ⟨PS.imp (ps_setLc (g := fun v σ H Q => liftG X (rest Γb.length (own.map fun p : Str × Nat => p.2)) σ Γb Γ2 g v σ H Q) (tt := liftT X WN Γ2 Γ2 Γ3 tc) (te := liftE X WN Γ3 Γ3 Γ4 .ow te) hc hN hy hyl hsw hi.pi ok (fun s H C cl fp => ⟨fun pins s' σ H' v u Q I r q => (hg s H C cl fp σ).pg.run pins s' σ H' v u Q I r q⟩) (fun s H C cl fp => (ht s H C cl fp).pt) (fun s H C cl fp => (he s H C cl fp).pe) hs) fun D σ H ⟨F, S, ρ, P, w, io, q, cn⟩ => ?_⟩
  refine lc_pureO (Q := fun x H1 => gName i x σ H1 D.nx) hlen hb hl h3 h4 ⟨F, S, ρ, _, P.ex, w, q, fun d ρ' hq F' H' v bs g r w' => ?_, ex_of cn io⟩
  refine cn.nx _ hq F' H' _ g (io.set hio) ?_
  rw [hnx]
  exact Wd.put (bs := []) (cs := bs) (by rw [List.append_nil]; exact w') (List.getElem?_eq_getElem hlt) (r.val rfl)
end
end T2

namespace T2
open L2 PySem PySem.Spec PyProof.Rows

/-! ### a list of owned lists: its items read and changed -/
theorem Each.focus {R : V → D → List Addr → Prop} {vs : List V} {ds : List D} {as : List Addr} (h : Each R vs ds as) : ∀ {k : Nat} {d : D}, ds[k]? = some d →
    ∃ v pre bs post, vs[k]? = some v ∧ as = pre ++ bs ++ post ∧ R v d bs ∧ ∀ (R' : V → D → List Addr → Prop) (d' : D), (∀ v d cs, (∀ a ∈ cs, a ∈ pre ∨ a ∈ post) → R v d cs → R' v d cs) → R' v d' bs → Each R' vs (ds.set k d') as := by
  induction h with
  | nil => intro k d e; simp at e
  | @cons v0 d0 a0 vs ds bs h1 h2 ih =>
    intro k d e
    cases k with
    | zero =>
      simp at e; subst e
      refine ⟨v0, [], a0, bs, rfl, by simp, h1, fun R' d' m h' => .cons h' (h2.mono fun v d cs hs q => m v d cs (fun a ha => .inr (hs a ha)) q)⟩
    | succ k =>
      obtain ⟨v, pre, cs, post, e1, e2, h3, f⟩ := ih (k := k) (d := d) (by simpa using e)
      refine ⟨v, a0 ++ pre, cs, post, by simpa using e1, by rw [e2]; simp [List.append_assoc], h3, fun R' d' m h' => .cons (m _ _ _ (fun a ha => .inl (List.mem_append_left _ ha)) h1) (f R' d' (fun v d cs hs q => m v d cs (fun a ha => ?_) q) h')⟩
      rcases hs a ha with z | z
      · exact .inl (List.mem_append_right _ z)
      · exact .inr z
section
variable {K : PySem.W.Frag} {F H : Hp} {S : AS} {Γ : List Ty} {σ : St} {ρ : List D} {bs : List Addr}
theorem Wd.mutO {i : Nat} {ds : List D} (w : Wd K F H S Γ σ ρ []) (ht : Γ[i]? = some (.ol .ow)) (hx : rd ρ i = .list ds) :
    ∃ p vs, σ[i]? = some (some (.ref p)) ∧ H p = some (.lst vs) ∧ vs.length = ds.length ∧ ∀ (k : Nat) (xs : List D), ds[k]? = some (.list xs) → ∃ q us, vs[k]? = some (.ref q) ∧ H q = some (.lst us) ∧ FzL K F xs us ∧ F q = none ∧
      ∀ ys us', FzL K F ys us' → Wd K F (upd H q (.lst us')) S Γ σ (wr ρ i (.list (ds.set k (.list ys)))) [] ∧ Gr S F H F (upd H q (.lst us')) := by
  obtain ⟨as, r, nd, f⟩ := w.ex
  simp only [List.nil_append] at nd f
  obtain ⟨o, d', cs, rest, e1, e2, e3, pm, g⟩ := r.focus ht
  obtain ⟨v, rfl, hr⟩ := e3
  have ed : rd ρ i = d' := by unfold rd; rw [List.getD_eq_getElem?_getD, e2]; rfl
  rw [← ed, hx] at hr
  simp only [Rp] at hr
  obtain ⟨p, vs, ds', bs, rfl, hd, h1, h2, rfl⟩ := hr
  obtain rfl : ds = ds' := by injection hd
  have nd' := pm.nodup_iff.mp nd
  refine ⟨p, vs, e1, h1, h2.length, fun k xs hk => ?_⟩
  obtain ⟨v, pre, cs, post, k1, k2, k3, k4⟩ := h2.focus hk
  simp only [Rp] at k3
  obtain ⟨q, us, rfl, m1, m2, rfl⟩ := k3
  subst k2
  have hq : q ∈ p :: (pre ++ [q] ++ post) ++ rest := by simp
  obtain ⟨q1, q2, q3⟩ := f q (pm.mem_iff.mpr hq)
  refine ⟨q, us, k1, m1, m2, q1, fun ys us' hy => ?_⟩
  have nq : q ≠ p ∧ q ∉ pre ∧ q ∉ post ∧ q ∉ rest := by
    simp only [List.cons_append, List.append_assoc, List.nodup_cons, List.nodup_append, List.mem_append, List.mem_cons, List.not_mem_nil, or_false] at nd'
    obtain ⟨n1, n2, n3, n4⟩ := nd'
    refine ⟨fun e => n1 (by rw [← e]; simp), fun e => n4 q e q (by simp) rfl, fun e => ?_, fun e => ?_⟩
    · have := n3.1
      simp [e] at this
    · have := n3.1
      simp [e] at this
  obtain ⟨n1, n2, n3, n4⟩ := nq
  obtain ⟨as', r', pm'⟩ := g F (upd H q (.lst us')) (.ol .ow) (some (.ref p)) (.list (ds.set k (.list ys))) (p :: (pre ++ [q] ++ post)) (.refl _) (fun a ha => upd_ne fun e => n4 (e ▸ ha)) ⟨_, rfl, by
    simp only [Rp]
    refine ⟨p, vs, _, _, rfl, rfl, by rw [upd_ne (Ne.symm n1)]; exact h1, k4 _ _ (fun v d cs hs h => Rp.mono (.refl _) .ow (fun a ha => upd_ne fun e => ?_) h) ?_, rfl⟩
    · rcases hs a ha with z | z
      · exact n2 (by rw [← e]; exact z)
      · exact n3 (by rw [← e]; exact z)
    · simp only [Rp]
      exact ⟨q, us', rfl, upd_same, hy, rfl⟩⟩
  have sΓ : Γ.set i (.ol .ow) = Γ := by
    apply List.ext_getElem?
    intro j
    rw [List.getElem?_set]
    split
    · rename_i h; subst h
      split
      · exact ht.symm
      · rename_i h2
        rw [List.getElem?_eq_none (Nat.le_of_not_lt h2)]
    · rfl
  rw [sΓ, Wd.setσ e1] at r'
  have fne : ∀ a u, F a = some u → a ≠ q := fun a u e z => by rw [z, q1] at e; cases e
  refine ⟨⟨fun a u e => by rw [upd_ne (fne a u e)]; exact w.sub _ _ e, fun a ha => ⟨(w.out a ha).1, ?_⟩, as', r', by simpa using pm'.nodup_iff.mpr nd', fun a ha => ?_⟩, ⟨.refl _, fun a ha => upd_ne fun e => q2 (e ▸ ha)⟩⟩
  · by_cases z : a = q
    · subst z; rw [upd_same]; simp
    · rw [upd_ne z]; exact (w.out a ha).2
  · have ha' := pm.mem_iff.mpr (pm'.mem_iff.mp (by simpa using ha))
    obtain ⟨x1, x2, x3⟩ := f a ha'
    refine ⟨x1, x2, ?_⟩
    by_cases z : a = q
    · subst z; rw [upd_same]; simp
    · rw [upd_ne z]; exact x3
end
end T2

namespace T2
open L2 PySem PySem.Spec PyProof.Rows

/-! ### x[a], x[a][b], x[a][b] = e, x[a].pop(b): x an owned list of owned lists, a and b names -/
theorem Wd.fzS {K : PySem.W.Frag} {F H : Hp} {S : AS} {Γ : List Ty} {σ : St} {ρ : List D} {bs : List Addr} {i : Nat} (w : Wd K F H S Γ σ ρ bs) (ht : Γ[i]? = some .fz) : ∃ v, σ[i]? = some (some v) ∧ Fz K F (rd ρ i) v := by
  obtain ⟨as, r, _, _⟩ := w.ex
  obtain ⟨o, d', b', rest, e1, e2, e3, _⟩ := r.focus ht
  obtain ⟨v, rfl, e3⟩ := e3
  have ed : rd ρ i = d' := by unfold rd; rw [List.getD_eq_getElem?_getD, e2]; rfl
  simp only [Rp] at e3
  exact ⟨v, e1, by rw [ed]; exact e3.1⟩
theorem Wd.intS {K : PySem.W.Frag} {F H : Hp} {S : AS} {Γ : List Ty} {σ : St} {ρ : List D} {bs : List Addr} {i : Nat} {n : Int} (w : Wd K F H S Γ σ ρ bs) (ht : Γ[i]? = some .fz) (h : rd ρ i = .int n) : σ[i]? = some (some (.int n)) := by
  obtain ⟨v, e, f⟩ := w.fzS ht
  rw [h] at f
  simp only [Fz] at f
  rw [e, f]
section
variable {X : Cx} {W : WX} {ios : List Nat} {σ0 : St} {Γ Γ1 Γx Γ' : List Ty} {C : TC} {e : Expr} {t : TD} {x a b : Str} {px pa pb p p2 pos : Pos} {i ka kb : Nat}
/-- x[a] as it is evaluated -/
abbrev tInO (K : PySem.W.Frag) (i ka : Nat) : TE := tOp (rIx K) (L2.tVar i) (L2.tVar ka)
theorem inO_of {F H : Hp} {S : AS} {σ : St} {ρ : List D} {K : PySem.W.Frag} {ds : List D} {k : Nat} {xs : List D} {Q : VK} (w : Wd K F H S Γ σ ρ []) (ht : Γ[i]? = some (.ol .ow)) (ha : Γ[ka]? = some .fz) (hx : rd ρ i = .list ds) (hk : rd ρ ka = .int (k : Int)) (hd : ds[k]? = some (.list xs))
    (h : ∀ q us, H q = some (.lst us) → FzL K F xs us → F q = none → (∀ ys us', FzL K F ys us' → Wd K F (upd H q (.lst us')) S Γ σ (wr ρ i (.list (ds.set k (.list ys)))) [] ∧ Gr S F H F (upd H q (.lst us'))) → Q (.ref q) H) : tInO K i ka σ H Q := by
  obtain ⟨p, vs, e1, h1, h2, f⟩ := w.mutO ht hx
  obtain ⟨q, us, g1, g2, g3, g0, g4⟩ := f k xs hd
  exact ⟨_, e1, _, w.intS ha hk, .inl ⟨p, vs, (k : Int), _, rfl, rfl, .inl (.inl h1), by rw [atI_nat]; exact g1, h q us g2 g3 g0 g4⟩⟩
theorem pe_inO (hN : X.N[i]? = some x) (hv : Vis X.env.scope x) (hd : (x == ("__debug__" : Str)) = false) (hcd : (x == ("__classdict__" : Str)) = false) (hNa : X.N[ka]? = some a) (hva : Vis X.env.scope a) (hda : (a == ("__debug__" : Str)) = false) (hcda : (a == ("__classdict__" : Str)) = false) :
    PE X (.Subscript (.Name x px) (.Name a pa) p) (tInO X.K i ka) := pe_ix ix_seq (pe_var hN hv hd hcd) (pe_var hNa hva hda hcda) fun _ _ => rfl
/-- x[a][b] -/
def tIx2 (i ka kb : Nat) : TD := fun ρ Q _ => ∃ (ds xs : List D) (k m : Nat) (d : D), rd ρ i = .list ds ∧ rd ρ ka = .int (k : Int) ∧ ds[k]? = some (.list xs) ∧ rd ρ kb = .int (m : Int) ∧ xs[m]? = some d ∧ Q d ρ
theorem e_ix2 (i ka kb : Nat) (ht : Γ[i]? = some (.ol .ow) := by rfl) (hta : Γ[ka]? = some .fz := by rfl) (htb : Γ[kb]? = some .fz := by rfl) (hN : X.N[i]? = some x := by rfl) (hNa : X.N[ka]? = some a := by rfl) (hNb : X.N[kb]? = some b := by rfl)
    (hv : Vis X.env.scope x := by first | exact Or.inl rfl | exact Or.inr (Or.inl rfl) | exact Or.inr (Or.inr rfl)) (hva : Vis X.env.scope a := by first | exact Or.inl rfl | exact Or.inr (Or.inl rfl) | exact Or.inr (Or.inr rfl)) (hvb : Vis X.env.scope b := by first | exact Or.inl rfl | exact Or.inr (Or.inl rfl) | exact Or.inr (Or.inr rfl))
    (hd : (x == ("__debug__" : Str)) = false := by decide) (hcd : (x == ("__classdict__" : Str)) = false := by decide) (hda : (a == ("__debug__" : Str)) = false := by decide) (hcda : (a == ("__classdict__" : Str)) = false := by decide) (hdb : (b == ("__debug__" : Str)) = false := by decide) (hcdb : (b == ("__classdict__" : Str)) = false := by decide) :
    EOk X W Γx Γ (.Subscript (.Subscript (.Name x px) (.Name a pa) p) (.Name b pb) p2) Γ .fz (tIx2 i ka kb) := by
  refine ⟨PE.imp (pe_ix ix_seq (pe_inO hN hv hd hcd hNa hva hda hcda) (pe_var hNb hvb hdb hcdb) fun _ _ => rfl) fun σ H Q ⟨F, S, ρ, Qd, Ed, w, ⟨ds, xs, k, m, d, h1, h2, h3, h4, h5, hq⟩, p, px⟩ => ?_⟩
  refine inO_of w ht hta h1 h2 h3 fun q us g1 g2 _ _ => ?_
  obtain ⟨v, e, f⟩ := g2.get h5
  exact ⟨_, w.intS htb h4, .inl ⟨q, us, (m : Int), v, rfl, rfl, .inl (.inl g1), by rw [atI_nat]; exact e, p d ρ hq F H v [] .refl ⟨f, rfl⟩ w⟩⟩
/-- len(x[a]) -/
def tLen2 (i ka : Nat) : TD := fun ρ Q _ => ∃ (ds xs : List D) (k : Nat), rd ρ i = .list ds ∧ rd ρ ka = .int (k : Int) ∧ ds[k]? = some (.list xs) ∧ Q (.int (xs.length : Nat)) ρ
theorem e_len2 (i ka : Nat) {l : Str} {pl : Pos} (hg : Gl X l) (hm : X.mg l = none) (hvl : bootBuiltins l = some (.builtin "len")) (ht : Γ[i]? = some (.ol .ow) := by rfl) (hta : Γ[ka]? = some .fz := by rfl) (hN : X.N[i]? = some x := by rfl) (hNa : X.N[ka]? = some a := by rfl)
    (hv : Vis X.env.scope x := by first | exact Or.inl rfl | exact Or.inr (Or.inl rfl) | exact Or.inr (Or.inr rfl)) (hva : Vis X.env.scope a := by first | exact Or.inl rfl | exact Or.inr (Or.inl rfl) | exact Or.inr (Or.inr rfl))
    (hd : (x == ("__debug__" : Str)) = false := by decide) (hcd : (x == ("__classdict__" : Str)) = false := by decide) (hda : (a == ("__debug__" : Str)) = false := by decide) (hcda : (a == ("__classdict__" : Str)) = false := by decide) (hn : l ≠ "__name__" := by decide) (hdl : (l == ("__debug__" : Str)) = false := by decide)
    (he : starEach [.Subscript (.Name x px) (.Name a pa) p] X.env = (false, eval (.Subscript (.Name x px) (.Name a pa) p) X.env) :: starEach [] X.env := by rfl) :
    EOk X W Γx Γ (.Call (.Name l pl) [.Subscript (.Name x px) (.Name a pa) p] [] pos) Γ .fz (tLen2 i ka) := by
  refine ⟨PE.imp (pe_callB call_len_seq hg hm hvl (pa_cons (pe_inO hN hv hd hcd hNa hva hda hcda) pa_nil he) hn hdl he rfl) fun σ H Q ⟨F, S, ρ, Qd, Ed, w, ⟨ds, xs, k, h1, h2, h3, hq⟩, p, px⟩ => ?_⟩
  refine inO_of w ht hta h1 h2 h3 fun q us g1 g2 _ _ => ?_
  exact ⟨q, us, rfl, .inl (.inl (.inl g1)), by rw [← g2.length]; exact p (.int (xs.length : Nat)) ρ hq F H _ [] .refl ⟨by simp only [Fz], rfl⟩ w⟩
/-- x[a].pop(b) -/
def mPop2 (i ka kb : Nat) : TD := fun ρ Q _ => ∃ (ds xs : List D) (k m : Nat) (d : D), rd ρ i = .list ds ∧ rd ρ ka = .int (k : Int) ∧ ds[k]? = some (.list xs) ∧ rd ρ kb = .int (m : Int) ∧ (m : Int) < 2 ^ 62 ∧ xs[m]? = some d ∧ Q d (wr ρ i (.list (ds.set k (.list (xs.eraseIdx m)))))
theorem e_pop2 (i ka kb : Nat) {apos cpos : Pos} (slot : Slot "list" "pop" "list.pop") (hty : typeOf (.builtin "list.pop") = pure (.type "method_descriptor")) (ht : Γ[i]? = some (.ol .ow) := by rfl) (hta : Γ[ka]? = some .fz := by rfl) (htb : Γ[kb]? = some .fz := by rfl) (hN : X.N[i]? = some x := by rfl) (hNa : X.N[ka]? = some a := by rfl) (hNb : X.N[kb]? = some b := by rfl)
    (hv : Vis X.env.scope x := by first | exact Or.inl rfl | exact Or.inr (Or.inl rfl) | exact Or.inr (Or.inr rfl)) (hva : Vis X.env.scope a := by first | exact Or.inl rfl | exact Or.inr (Or.inl rfl) | exact Or.inr (Or.inr rfl)) (hvb : Vis X.env.scope b := by first | exact Or.inl rfl | exact Or.inr (Or.inl rfl) | exact Or.inr (Or.inr rfl))
    (hd : (x == ("__debug__" : Str)) = false := by decide) (hcd : (x == ("__classdict__" : Str)) = false := by decide) (hda : (a == ("__debug__" : Str)) = false := by decide) (hcda : (a == ("__classdict__" : Str)) = false := by decide) (hdb : (b == ("__debug__" : Str)) = false := by decide) (hcdb : (b == ("__classdict__" : Str)) = false := by decide)
    (hbase : attributeBase (.Subscript (.Name x px) (.Name a pa) p) "pop" X.env (eval (.Subscript (.Name x px) (.Name a pa) p) X.env) = eval (.Subscript (.Name x px) (.Name a pa) p) X.env := by rfl)
    (hfew : ((backTo cpos (starEach [.Name b pb] X.env)).all (fun x => !x.1) && (backToKw cpos (keywordEach [] X.env)).all (fun x => x.1.isSome)
      && decide ([Expr.Name b pb].length + ([] : List Keyword).length + (if ([] : List Keyword).isEmpty then 0 else 1) < 30)) = true := by rfl)
    (hline : (apos.endLine == cpos.line) = true := by rfl) (hs : starEach [.Name b pb] X.env = (false, eval (.Name b pb) X.env) :: starEach [] X.env := by rfl) (hplain : (backTo cpos (starEach [] X.env)).any (·.1) = false := by rfl) :
    EOk X W Γx Γ (.Call (.Attribute (.Subscript (.Name x px) (.Name a pa) p) "pop" apos) [.Name b pb] [] cpos) Γ .fz (mPop2 i ka kb) := by
  refine ⟨PE.imp (pe_bm PySem.F.plainAttrs_list slot hty mt_popAt (pe_inO hN hv hd hcd hNa hva hda hcda) (pa_cons (pe_var hNb hvb hdb hcdb) pa_nil hs) hbase hfew hline hs hplain) fun σ H Q ⟨F, S, ρ, Qd, Ed, w, ⟨ds, xs, k, m, d, h1, h2, h3, h4, h5, h6, hq⟩, p, px⟩ => ?_⟩
  refine inO_of w ht hta h1 h2 h3 fun q us g1 g2 _ g3 => ⟨.inl ⟨rfl, us, .inl (.inl g1)⟩, ?_⟩
  obtain ⟨v, e, f⟩ := g2.get h6
  have hl : m < us.length := (List.getElem?_eq_some_iff.mp e).1
  obtain ⟨w2, gr⟩ := g3 _ _ (g2.eraseIdx m)
  refine ⟨_, w.intS htb h4, q, us, (m : Int), m, v, rfl, rfl, g1, by omega, by omega, ?_, e, p d _ hq F _ v [] gr ⟨f, rfl⟩ w2⟩
  have e0 : ¬ ((m : Int) < 0) := by omega
  simp [seqIndex?, e0, hl]
/-- x[a][b] = e -/
def sSub2 (i ka kb : Nat) (te : TD) : SM := fun ρ P => te ρ (fun d ρ1 => ∃ (ds xs : List D) (k m : Nat), rd ρ1 i = .list ds ∧ rd ρ1 ka = .int (k : Int) ∧ ds[k]? = some (.list xs) ∧ rd ρ1 kb = .int (m : Int) ∧ m < xs.length ∧ P.nx (wr ρ1 i (.list (ds.set k (.list (xs.set m d)))))) P.ex
theorem s_sub2 (i ka kb : Nat) {pt : Pos} (he : EOk X W C.ex Γ e C.nx .fz t) (ht : C.nx[i]? = some (.ol .ow) := by rfl) (hta : C.nx[ka]? = some .fz := by rfl) (htb : C.nx[kb]? = some .fz := by rfl) (hN : X.N[i]? = some x := by rfl) (hNa : X.N[ka]? = some a := by rfl) (hNb : X.N[kb]? = some b := by rfl)
    (hv : Vis X.env.scope x := by first | exact Or.inl rfl | exact Or.inr (Or.inl rfl) | exact Or.inr (Or.inr rfl)) (hva : Vis X.env.scope a := by first | exact Or.inl rfl | exact Or.inr (Or.inl rfl) | exact Or.inr (Or.inr rfl)) (hvb : Vis X.env.scope b := by first | exact Or.inl rfl | exact Or.inr (Or.inl rfl) | exact Or.inr (Or.inr rfl))
    (hd : (x == ("__debug__" : Str)) = false := by decide) (hcd : (x == ("__classdict__" : Str)) = false := by decide) (hda : (a == ("__debug__" : Str)) = false := by decide) (hcda : (a == ("__classdict__" : Str)) = false := by decide) (hdb : (b == ("__debug__" : Str)) = false := by decide) (hcdb : (b == ("__classdict__" : Str)) = false := by decide)
    (ha : ∀ v, assign (.Subscript (.Subscript (.Name x px) (.Name a pa) p) (.Name b pb) pt) X.env v = (do
      let ov ← holding [v] (eval (.Subscript (.Name x px) (.Name a pa) p) X.env)
      let iv ← holding [v, ov] (eval (.Name b pb) X.env)
      standAt pt
      holding [v, ov, iv] (setItem ov iv v)
      release [v, ov, iv] []) := by intro _; rfl)
    (hs : swapsWithSole [.Subscript (.Subscript (.Name x px) (.Name a pa) p) (.Name b pb) pt] e pos.line X.env = pure false := by rfl) (hw : swappedStores [.Subscript (.Subscript (.Name x px) (.Name a pa) p) (.Name b pb) pt] e X.env = pure none := by rfl)
    (h1 : (assignEach [.Subscript (.Subscript (.Name x px) (.Name a pa) p) (.Name b pb) pt] X.env).map (·.2) = [assign (.Subscript (.Subscript (.Name x px) (.Name a pa) p) (.Name b pb) pt) X.env] := by rfl) :
    SOk X W ios σ0 Γ (.Assign [.Subscript (.Subscript (.Name x px) (.Name a pa) p) (.Name b pb) pt] e pos) C (sSub2 i ka kb t) := by
  refine ⟨PS.imp (ps_asg he.pe (pg_sub (pe_inO hN hv hd hcd hNa hva hda hcda) (pe_var hNb hvb hdb hcdb) set_list ha) hs hw h1) fun D σ H ⟨F, S, ρ, P, w, io, q, cn⟩ => ?_⟩
  refine ⟨F, S, ρ, _, P.ex, w, q, fun d ρ1 ⟨ds, xs, k, m, q1, q2, q3, q4, q5, hq⟩ F1 H1 v bs g1 r1 w1 => ?_, ex_of cn io⟩
  obtain ⟨r1, rfl⟩ := r1
  refine inO_of w1 ht hta q1 q2 q3 fun q us m1 m2 _ m3 => ?_
  obtain ⟨w2, gr⟩ := m3 _ _ (m2.set r1 m)
  have hl : m < us.length := by rw [← m2.length]; exact q5
  exact ⟨_, w1.intS htb q4, q, us, (m : Int), m, rfl, rfl, m1, by rw [ixN_of (Int.natCast_nonneg m) (by omega), Int.toNat_natCast], cn.nx _ hq F1 _ σ (g1.trans gr fun _ h => h) io w2⟩
/-- o[lo:hi] = a list -/
def gSlS (to : TE) (tl th : TO) : TG := fun v σ H Q => to σ H fun x H1 => tl σ H1 fun l H2 => th σ H2 fun u H3 => ∃ (p b : Addr) (xs ys : List V) (a c : Int), x = .ref p ∧ v = .ref b ∧ l = some a ∧ u = some c ∧ H3 p = some (.lst xs) ∧ H3 b = some (.lst ys) ∧ p ≠ b ∧ 0 ≤ a ∧ a ≤ c ∧ c ≤ xs.length ∧ xs.length + ys.length ≤ sizeLine ∧
  Q σ (upd H3 p (.lst (xs.take a.toNat ++ ys ++ xs.drop c.toNat)))
theorem pg_slS {o : Expr} {lo hi : Option Expr} {to : TE} {tl th : TO} {p2 pos : Pos} (ho : PE X o to) (hl : PO X lo tl) (hu : PO X hi th)
    (ha : ∀ v, assign (.Subscript o (.Slice lo hi none p2) pos) X.env v = (do
      let ov ← holding [v] (eval o X.env)
      let iv ← holding [v, ov] (eval (.Slice lo hi none p2) X.env)
      standAt pos
      holding [v, ov, iv] (setItem ov iv v)
      release [iv, v, ov] []) := by intro _; rfl) : PG X (.Subscript o (.Slice lo hi none p2) pos) (gSlS to tl th) := by
  refine ⟨fun pins s σ H v u Q I r h => ?_⟩
  rw [ha]
  refine wpAny_bind (wpAny_holding (thn (ho.run pins s σ H _ I h) fun ov s1 ⟨x, H1, I1, r1, q1⟩ => ?_))
  refine wpAny_bind (wpAny_holding ?_)
  refine wpAny_Slice (thn (hl.run pins s1 σ H1 _ I1 q1) fun vl s2 ⟨l, H2, I2, pl, q2⟩ => thn (hu.run pins s2 σ H2 _ I2 q2) fun vu s3 ⟨w, H3, I3, pu, q3⟩ => ?_)
  rw [evalPart_none]
  refine wpAny_pure ?_
  have I4 : Inv X pins σ H3 { s3 with heap := s3.heap.push { cls := .type "slice", data := .fields #[vl, vu, .none] } } := I3.kept (t' := s3.toks) fun b ob q => Heap.get?_push_of_some _ q
  obtain ⟨p, b, xs, ys, a, c, rfl, rfl, rfl, rfl, hp, hb, ne, h0, hac, hc, hz, q⟩ := q3
  cases pl with
  | int i t1 =>
    cases pu with
    | int j t2 =>
      obtain rfl : ov = Value.ref p := r1
      obtain rfl : u = Value.ref b := r
      refine wpAny_bind (wpAny_standAt (wpAny_bind (wpAny_holding ?_)))
      refine set_slice I4 hp hb ne (Heap.IsSliceOf.new ..) ⟨t1, rfl⟩ ⟨t2, rfl⟩ h0 hac hc hz fun s' I5 => ?_
      exact wpAny_release ⟨σ, _, I5, q⟩
end
end T2

namespace T2
open L2 PySem PySem.Spec PyProof.Rows

section
variable {X : Cx} {W : WX} {ios : List Nat} {σ0 : St} {Γ Γ1 Γx Γ' : List Ty} {C : TC} {e : Expr} {t : TD} {x a b b2 : Str} {px pa pb pb2 p p2 p3 pn pos : Pos} 
/-- x[a][b:b + n] = a new list -/
def sSlS2 (i ka kb : Nat) (n : Int) (te : TD) : SM := fun ρ P => te ρ (fun d ρ1 => ∃ (ds xs ys : List D) (k m : Nat), d = .list ys ∧ rd ρ1 i = .list ds ∧ rd ρ1 ka = .int (k : Int) ∧ ds[k]? = some (.list xs) ∧ rd ρ1 kb = .int (m : Int) ∧ 0 ≤ n ∧ m + n ≤ xs.length ∧ xs.length + ys.length ≤ sizeLine ∧ P.nx (wr ρ1 i (.list (ds.set k (.list (xs.take m ++ ys ++ xs.drop ((m : Int) + n).toNat)))))) P.ex
theorem s_slS2 (i ka kb : Nat) {n : Int} {kj : Nat} {pt : Pos} (he : EOk X W C.ex Γ e C.nx .ow t) (ht : C.nx[i]? = some (.ol .ow) := by rfl) (hta : C.nx[ka]? = some .fz := by rfl) (htb : C.nx[kb]? = some .fz := by rfl) (hN : X.N[i]? = some x := by rfl) (hNa : X.N[ka]? = some a := by rfl) (hNb : X.N[kb]? = some b := by rfl)
    (hv : Vis X.env.scope x := by first | exact Or.inl rfl | exact Or.inr (Or.inl rfl) | exact Or.inr (Or.inr rfl)) (hva : Vis X.env.scope a := by first | exact Or.inl rfl | exact Or.inr (Or.inl rfl) | exact Or.inr (Or.inr rfl)) (hvb : Vis X.env.scope b := by first | exact Or.inl rfl | exact Or.inr (Or.inl rfl) | exact Or.inr (Or.inr rfl))
    (hd : (x == ("__debug__" : Str)) = false := by decide) (hcd : (x == ("__classdict__" : Str)) = false := by decide) (hda : (a == ("__debug__" : Str)) = false := by decide) (hcda : (a == ("__classdict__" : Str)) = false := by decide) (hdb : (b == ("__debug__" : Str)) = false := by decide) (hcdb : (b == ("__classdict__" : Str)) = false := by decide)
    (ha : ∀ v, assign (.Subscript (.Subscript (.Name x px) (.Name a pa) p) (.Slice (some (.Name b pb)) (some (.BinOp (.Name b pb2) .Add (.Constant (.int n) kj pn) p3)) none p2) pt) X.env v = (do
      let ov ← holding [v] (eval (.Subscript (.Name x px) (.Name a pa) p) X.env)
      let iv ← holding [v, ov] (eval (.Slice (some (.Name b pb)) (some (.BinOp (.Name b pb2) .Add (.Constant (.int n) kj pn) p3)) none p2) X.env)
      standAt pt
      holding [v, ov, iv] (setItem ov iv v)
      release [iv, v, ov] []) := by intro _; rfl)
    (hs : swapsWithSole [.Subscript (.Subscript (.Name x px) (.Name a pa) p) (.Slice (some (.Name b pb)) (some (.BinOp (.Name b pb2) .Add (.Constant (.int n) kj pn) p3)) none p2) pt] e pos.line X.env = pure false := by rfl) (hw : swappedStores [.Subscript (.Subscript (.Name x px) (.Name a pa) p) (.Slice (some (.Name b pb)) (some (.BinOp (.Name b pb2) .Add (.Constant (.int n) kj pn) p3)) none p2) pt] e X.env = pure none := by rfl)
    (h1 : (assignEach [.Subscript (.Subscript (.Name x px) (.Name a pa) p) (.Slice (some (.Name b pb)) (some (.BinOp (.Name b pb2) .Add (.Constant (.int n) kj pn) p3)) none p2) pt] X.env).map (·.2) = [assign (.Subscript (.Subscript (.Name x px) (.Name a pa) p) (.Slice (some (.Name b pb)) (some (.BinOp (.Name b pb2) .Add (.Constant (.int n) kj pn) p3)) none p2) pt) X.env] := by rfl) :
    SOk X W ios σ0 Γ (.Assign [.Subscript (.Subscript (.Name x px) (.Name a pa) p) (.Slice (some (.Name b pb)) (some (.BinOp (.Name b pb2) .Add (.Constant (.int n) kj pn) p3)) none p2) pt] e pos) C (sSlS2 i ka kb n t) := by
  refine ⟨PS.imp (ps_asg he.pe (pg_slS (pe_inO hN hv hd hcd hNa hva hda hcda) (po_some (pe_var hNb hvb hdb hcdb)) (po_some (pe_add (pe_var hNb hvb hdb hcdb) pe_int)) ha) hs hw h1) fun D σ H ⟨F, S, ρ, P, w, io, q, cn⟩ => ?_⟩
  refine ⟨F, S, ρ, _, P.ex, w, q, fun d ρ1 ⟨ds, xs, ys, k, m, hd', q1, q2, q3, q4, q5, q6, q7, hq⟩ F1 H1 v bs g1 r1 w1 => ?_, ex_of cn io⟩
  subst hd'
  have r1 : Rp X.K F1 H1 .ow v (.list ys) bs := r1
  simp only [Rp] at r1
  obtain ⟨pb, us, rfl, z1, z2, rfl⟩ := r1
  obtain ⟨w2, s2⟩ := w1.freeze
  refine inO_of w2 ht hta q1 q2 q3 fun q vs m1 m2 m0 m3 => ?_
  have ne : q ≠ pb := fun e => by
    subst e
    simp only [if_true] at m0
    rw [z1] at m0
    cases m0
  have hlen := m2.length
  have fy := z2.mono s2
  obtain ⟨w3, gr⟩ := m3 (xs.take m ++ ys ++ xs.drop ((m : Int) + n).toNat) (vs.take m ++ us ++ vs.drop ((m : Int) + n).toNat) (((m2.take m).append fy).append (m2.drop _))
  have e1 := w2.intS htb q4
  refine ⟨_, e1, (m : Int), rfl, _, e1, (m : Int), n, rfl, rfl, _, rfl, q, pb, vs, us, (m : Int), (m : Int) + n, rfl, rfl, rfl, rfl, m1, z1, ne, by omega, by omega, by omega, by rw [← hlen, ← z2.length]; exact q7, ?_⟩
  rw [Int.toNat_natCast]
  exact cn.nx _ hq _ _ σ ((g1.trans ⟨s2, fun _ _ => rfl⟩ fun _ h => h).trans gr fun _ h => h) io w3
end
theorem Wd.frzE {K : PySem.W.Frag} {H : Hp} {S : AS} {Γ : List Ty} {σ : St} {ρ : List D} : ∀ {vs : List V} {ds : List D} {as : List Addr} {F : Hp} {bs0 : List Addr}, Each (Rp K F H .ow) vs ds as → Wd K F H S Γ σ ρ (as ++ bs0) → ∃ F2, Sub F F2 ∧ Wd K F2 H S Γ σ ρ bs0 ∧ FzL K F2 ds vs
  | _, _, _, F, _, .nil, w => ⟨F, .refl _, w, by simp only [FzL]⟩
  | _, _, _, F, bs0, @Each.cons _ v d as vs ds bs h1 h2, w => by
    obtain ⟨F1, s1, w1, f1⟩ := Wd.frz (cs := as) (bs := bs ++ bs0) (by rw [← List.append_assoc]; exact w) h1
    obtain ⟨F2, s2, w2, f2⟩ := Wd.frzE (h2.mono fun v d cs _ q => Rp.mono s1 .ow (fun _ _ => rfl) q) w1
    exact ⟨F2, s1.trans s2, w2, by simp only [FzL]; exact ⟨v, vs, rfl, f1.mono s2, f2⟩⟩
section
variable {X : Cx} {W : WX} {Γx Γ Γ' : List Ty} {e : Expr} {t : TD}
/-- a list of owned lists, frozen -/
theorem e_frzO (h : EOk X W Γx Γ e Γ' (.ol .ow) t) : EOk X W Γx Γ e Γ' .fz t := by
  refine ⟨PE.imp h.pe fun σ H Q ⟨F, S, ρ, Qd, Ed, w, q, p, px⟩ => ⟨F, S, ρ, Qd, Ed, w, q, fun d ρ' hq F' H' v bs g r w' => ?_, px⟩⟩
  have r : Rp X.K F' H' (.ol .ow) v d bs := r
  simp only [Rp] at r
  obtain ⟨a, vs, ds, cs, rfl, rfl, h1, h2, rfl⟩ := r
  have w1 : Wd X.K F' H' S Γ' σ ρ' (cs ++ [a]) := w'.perm (by
    have := List.perm_append_comm (l₁ := [a]) (l₂ := cs)
    exact this)
  obtain ⟨F2, s2, w2, f2⟩ := Wd.frzE h2 w1
  obtain ⟨w3, s3⟩ := w2.freeze
  refine p _ ρ' hq _ H' (.ref a) [] ⟨(g.fz.trans s2).trans s3, g.eq⟩ ⟨?_, rfl⟩ w3
  simp only [Fz]
  exact ⟨a, vs, rfl, .inl (.inl (by simp only [if_pos rfl]; exact h1)), f2.mono s3⟩
end
end T2

namespace T2
open PySem PySem.Spec L2

/-! ### dicts from ints to ints, plainly -/
abbrev NI := List (Int × Int)
def dI (ns : NI) : List (D × D) := ns.map fun p => (.int p.1, .int p.2)
def getN1 (ns : NI) (k : Int) : Option Int := (ns.find? fun p => decide (p.1 = k)).map (·.2)
def putN1 (ns : NI) (k n : Int) : NI := if (ns.any fun p => decide (p.1 = k)) = true then ns.map (fun p => if p.1 = k then (p.1, n) else p) else ns ++ [(k, n)]
def delN1 (ns : NI) (k : Int) : NI := ns.filter fun p => decide (p.1 ≠ k)
theorem keyI (a k : Int) : (keyOf (.int a) = keyOf (.int k)) = (a = k) := by simp [keyOf]
theorem dget_dI (k : Int) (ns : NI) : dget (dI ns) (.int k) = (getN1 ns k).map .int := by
  unfold dget getN1 dI
  rw [List.find?_map, Option.map_map, Option.map_map]
  congr 1
  congr 1
  funext p
  simp [keyI]
theorem dput_dI (k n : Int) (ns : NI) : dput (dI ns) (.int k) (.int n) = dI (putN1 ns k n) := by
  unfold dput putN1 dI
  rw [List.any_map]
  have e : ((fun p : D × D => decide (keyOf p.1 = keyOf (.int k))) ∘ fun p : Int × Int => ((.int p.1 : D), (.int p.2 : D))) = fun p : Int × Int => decide (p.1 = k) := by
    funext p
    simp [keyI]
  rw [e]
  split
  · rw [List.map_map, List.map_map]
    congr 1
    funext p
    simp only [Function.comp, keyI]
    split <;> rfl
  · rw [List.map_append]
    rfl
theorem ddel_dI (k : Int) (ns : NI) : ddel (dI ns) (.int k) = dI (delN1 ns k) := by
  unfold ddel delN1 dI
  rw [List.filter_map]
  congr 1
  congr 1
  funext p
  simp [keyI]
end T2

namespace T2
open PySem PySem.Spec L2

/-- ns counts the items of M -/
def Rep (ns : NI) (M : List Int) : Prop := (ns.map Prod.fst).Nodup ∧ ∀ k, getN1 ns k = if M.count k = 0 then none else some (M.count k : Int)
theorem Rep.nil : Rep [] [] := ⟨by simp, fun k => by simp [getN1]⟩
theorem Rep.perm {ns : NI} {M N : List Int} (h : Rep ns M) (p : M.Perm N) : Rep ns N := ⟨h.1, fun k => by rw [h.2 k, p.count_eq k]⟩
theorem getN1_mem {ns : NI} {k n : Int} (h : getN1 ns k = some n) : (k, n) ∈ ns := by
  unfold getN1 at h
  rw [Option.map_eq_some_iff] at h
  obtain ⟨p, e, rfl⟩ := h
  have h1 := List.find?_some e
  have h2 := List.mem_of_find?_eq_some e
  simp at h1
  rw [← h1]
  exact h2
theorem getN1_of_mem : ∀ {ns : NI} {k n : Int}, (ns.map Prod.fst).Nodup → (k, n) ∈ ns → getN1 ns k = some n
  | [], _, _, _, h => by simp at h
  | (a, m) :: r, k, n, nd, h => by
    simp only [List.map_cons, List.nodup_cons] at nd
    rcases List.mem_cons.mp h with e | e
    · cases e
      simp [getN1]
    · have ne : a ≠ k := fun z => nd.1 (by rw [z]; exact List.mem_map.mpr ⟨(k, n), e, rfl⟩)
      have ih := getN1_of_mem nd.2 e
      unfold getN1 at ih ⊢
      rw [List.find?_cons_of_neg (by simpa using ne)]
      exact ih
theorem getN1_none {ns : NI} {k : Int} : getN1 ns k = none ↔ k ∉ ns.map Prod.fst := by
  unfold getN1
  rw [Option.map_eq_none_iff, List.find?_eq_none]
  constructor
  · intro h hm
    obtain ⟨p, hp, e⟩ := List.mem_map.mp hm
    exact h p hp (by simpa using e)
  · intro h p hp e
    exact h (List.mem_map.mpr ⟨p, hp, by simpa using e⟩)
theorem Rep.key {ns : NI} {M : List Int} (h : Rep ns M) (k : Int) : k ∈ ns.map Prod.fst ↔ k ∈ M := by
  rw [← Decidable.not_iff_not, ← getN1_none, h.2 k, ← List.count_eq_zero]
  split <;> simp_all
theorem putN1_keys (ns : NI) (k n : Int) : (putN1 ns k n).map Prod.fst = if k ∈ ns.map Prod.fst then ns.map Prod.fst else ns.map Prod.fst ++ [k] := by
  have e : ((ns.any fun p => decide (p.1 = k)) = true) ↔ k ∈ ns.map Prod.fst := by
    rw [List.any_eq_true, List.mem_map]
    simp
  unfold putN1
  by_cases h : k ∈ ns.map Prod.fst
  · rw [if_pos (e.mpr h), if_pos h, List.map_map]
    apply List.map_congr_left
    intro p _
    simp only [Function.comp]
    split <;> rfl
  · rw [if_neg (fun z => h (e.mp z)), if_neg h, List.map_append]
    rfl
theorem putN1_nodup {ns : NI} (nd : (ns.map Prod.fst).Nodup) (k n : Int) : ((putN1 ns k n).map Prod.fst).Nodup := by
  rw [putN1_keys]
  split
  · exact nd
  · rename_i h
    exact List.nodup_append.mpr ⟨nd, by simp, fun a ha b hb e => by
      rw [List.mem_singleton] at hb
      subst hb; subst e
      exact h ha⟩
theorem getN1_put {ns : NI} (nd : (ns.map Prod.fst).Nodup) (k n j : Int) : getN1 (putN1 ns k n) j = if j = k then some n else getN1 ns j := by
  have nd' := putN1_nodup nd k n
  split
  · rename_i h
    subst h
    refine getN1_of_mem nd' ?_
    unfold putN1
    split
    · rename_i h
      obtain ⟨p, hp, e⟩ := List.any_eq_true.mp h
      refine List.mem_map.mpr ⟨p, hp, ?_⟩
      have e : p.1 = j := by simpa using e
      rw [if_pos e, e]
    · simp
  · rename_i h
    cases e : getN1 ns j with
    | none =>
      rw [getN1_none] at e ⊢
      rw [putN1_keys]
      split
      · exact e
      · simp [e, h]
    | some m =>
      refine getN1_of_mem nd' ?_
      have hm := getN1_mem e
      unfold putN1
      split
      · exact List.mem_map.mpr ⟨(j, m), hm, by simp [h]⟩
      · exact List.mem_append_left _ hm
theorem getN1_del {ns : NI} (nd : (ns.map Prod.fst).Nodup) (k j : Int) : ((delN1 ns k).map Prod.fst).Nodup ∧ getN1 (delN1 ns k) j = if j = k then none else getN1 ns j := by
  have nd' : ((delN1 ns k).map Prod.fst).Nodup := by
    unfold delN1
    exact nd.sublist (List.Sublist.map _ List.filter_sublist)
  refine ⟨nd', ?_⟩
  split
  · rename_i h
    subst h
    rw [getN1_none]
    intro hm
    obtain ⟨p, hp, e⟩ := List.mem_map.mp hm
    unfold delN1 at hp
    rw [List.mem_filter] at hp
    have := hp.2
    simp [e] at this
  · rename_i h
    cases e : getN1 ns j with
    | none =>
      rw [getN1_none] at e ⊢
      intro hm
      obtain ⟨p, hp, e2⟩ := List.mem_map.mp hm
      unfold delN1 at hp
      rw [List.mem_filter] at hp
      exact e (List.mem_map.mpr ⟨p, hp.1, e2⟩)
    | some m =>
      refine getN1_of_mem nd' ?_
      have hm := getN1_mem e
      unfold delN1
      rw [List.mem_filter]
      exact ⟨hm, by simpa using h⟩
theorem Rep.bump {ns : NI} {M : List Int} (h : Rep ns M) (k : Int) : Rep (putN1 ns k ((getN1 ns k).getD 0 + 1)) (k :: M) := by
  refine ⟨putN1_nodup h.1 _ _, fun j => ?_⟩
  rw [getN1_put h.1, h.2 k, h.2 j, List.count_cons]
  by_cases e : j = k
  · subst e
    by_cases z : List.count j M = 0 <;> simp [z]
  · have e' : (k == j) = false := by simpa using fun z => e z.symm
    rw [if_neg e, e']
    simp
/-- one less, and it goes at nought -/
def lessN (ns : NI) (k : Int) : NI := if (getN1 ns k).getD 0 - 1 = 0 then delN1 (putN1 ns k ((getN1 ns k).getD 0 - 1)) k else putN1 ns k ((getN1 ns k).getD 0 - 1)
theorem Rep.less {ns : NI} {M : List Int} (h : Rep ns M) {k : Int} (hk : k ∈ M) : Rep (lessN ns k) (M.erase k) := by
  have c0 : 0 < List.count k M := List.count_pos_iff.mpr hk
  have e1 : getN1 ns k = some (List.count k M : Int) := by rw [h.2 k, if_neg (by omega)]
  have nd := putN1_nodup h.1 k ((List.count k M : Int) - 1)
  have ce : ∀ j, List.count j (M.erase k) = if j = k then List.count k M - 1 else List.count j M := fun j => by
    by_cases z : j = k
    · subst z; simp [List.count_erase_self]
    · rw [if_neg z, List.count_erase_of_ne z]
  unfold lessN
  rw [e1, Option.getD_some]
  split
  · rename_i z
    obtain ⟨n1, _⟩ := getN1_del nd k k
    refine ⟨n1, fun j => ?_⟩
    rw [(getN1_del nd k j).2, getN1_put h.1, ce j, h.2 j]
    by_cases e : j = k
    · subst e
      rw [if_pos rfl, if_pos rfl, if_pos (by omega)]
    · rw [if_neg e, if_neg e, if_neg e]
  · rename_i z
    refine ⟨nd, fun j => ?_⟩
    rw [getN1_put h.1, ce j, h.2 j]
    by_cases e : j = k
    · subst e
      rw [if_pos rfl, if_pos rfl, if_neg (by omega)]
      congr 1
      omega
    · rw [if_neg e, if_neg e]
theorem eqI_rep {ns ms : NI} {M N : List Int} (h : Rep ns M) (g : Rep ms N) : eqI ns ms = true ↔ M.Perm N := by
  unfold eqI
  rw [Bool.and_eq_true, beq_iff_eq, List.all_eq_true]
  constructor
  · rintro ⟨hl, ha⟩
    have sub : ∀ p ∈ ns, getN1 ms p.1 = some p.2 := fun p hp => by
      have := ha p hp
      rw [beq_iff_eq] at this
      exact this
    have ks : ns.map Prod.fst ⊆ ms.map Prod.fst := fun k hk => by
      obtain ⟨p, hp, rfl⟩ := List.mem_map.mp hk
      exact List.mem_map.mpr ⟨_, getN1_mem (sub p hp), rfl⟩
    have pk : ∀ k, k ∈ ms.map Prod.fst → k ∈ ns.map Prod.fst := fun k hk => by
      apply Classical.byContradiction
      intro hn
      have nd : (k :: ns.map Prod.fst).Nodup := List.nodup_cons.mpr ⟨hn, h.1⟩
      have := nd.length_le_of_subset (l₂ := ms.map Prod.fst) fun a ha => by
        rcases List.mem_cons.mp ha with e | e
        · rw [e]; exact hk
        · exact ks e
      rw [List.length_cons, List.length_map, List.length_map] at this
      omega
    rw [List.perm_iff_count]
    intro k
    have e1 := h.2 k
    have e2 := g.2 k
    cases q : getN1 ns k with
    | none =>
      have : k ∉ ms.map Prod.fst := fun z => (getN1_none.mp q) (pk k z)
      rw [getN1_none.mpr this] at e2
      rw [q] at e1
      split at e1
      · split at e2
        · omega
        · cases e2
      · cases e1
    | some n =>
      have := sub _ (getN1_mem q)
      rw [this] at e2
      rw [q] at e1
      split at e1
      · cases e1
      · split at e2
        · cases e2
        · cases e1
          injection e2 with e2
          omega
  · intro p
    have key : ∀ k, getN1 ns k = getN1 ms k := fun k => by rw [h.2 k, g.2 k, p.count_eq k]
    have pk : (ns.map Prod.fst).Perm (ms.map Prod.fst) := by
      rw [List.perm_ext_iff_of_nodup h.1 g.1]
      intro k
      rw [h.key k, g.key k, p.mem_iff]
    refine ⟨by simpa using pk.length_eq, fun q hq => ?_⟩
    rw [beq_iff_eq]
    show getN1 ms q.1 = some q.2
    rw [← key]
    exact getN1_of_mem h.1 hq
end T2

namespace T2
open L2 PySem PySem.Spec PyProof.Rows

/-! ### sum of a list or a tuple of ints -/
def oSumS (xs : List D) (q : D → Prop) : Prop := ∃ ns : List Int, (xs = [.list (ns.map .int)] ∨ xs = [.tuple (ns.map .int)]) ∧ q (.int ns.sum)
def rSumS (K : PySem.W.Frag) : List V → Hp → VK → Prop := fun vs H Q => ∃ (a : Addr) (ns : List Int), vs = [V.ref a] ∧ (SqL K H a (ns.map V.int) ∨ SqT K H a (ns.map V.int)) ∧ Q (.int ns.sum) H
section
variable {X : Cx}
theorem cr_sumS (hc : X.calm = true) : CallR X (.builtin "sum") (rSumS X.K) := by
  intro pins s σ H vs us Q I r h
  obtain ⟨a, ns, rfl, hs, q⟩ := h
  rcases hs with hs | hs
  · exact cr_sum hc _ _ _ _ _ _ _ I r ⟨a, ns, rfl, hs, q⟩
  · obtain ⟨its, rv, hl, _⟩ := I.tuple hs
    rw [Vals.ref1 r]
    obtain ⟨xs, hx⟩ := (Vals.ints rv).allInts.items
    have hn : numsOf its.toArray.toList = ns := (Vals.ints rv).numsOf
    rw [hx] at hl hn
    rw [nums_intItems] at hn
    refine PySem.W.ktm_sumG (I.ok.hd hc) hl fun h' tk t' hk => ?_
    rw [preSum_eq, List.take_of_length_le (by simp), hn]
    exact ⟨.int _, H, I.kept hk, ⟨_, rfl⟩, q⟩
theorem cd_sumS (hc : X.calm = true) : CalD X (.builtin "sum") .fz oSumS := by
  refine ⟨_, cr_sumS hc, fun F H S Γ σ ρ bs xs vs q Q w hx ⟨ns, ex, h⟩ f => ?_⟩
  rcases ex with rfl | rfl
  · obtain ⟨v, rfl, hv⟩ := hx.one
    obtain ⟨a, us, rfl, h1, h2⟩ := hv.list
    exact ⟨a, ns, rfl, .inl (by rw [← FzL.ints h2]; exact h1), Fin.fz f w h rfl⟩
  · obtain ⟨v, rfl, hv⟩ := hx.one
    obtain ⟨a, us, rfl, h1, h2⟩ := hv.tuple w.sub
    exact ⟨a, ns, rfl, .inr (by rw [← FzL.ints h2]; exact h1), Fin.fz f w h rfl⟩
end
theorem ints_inj {xs ys : List Int} (h : xs.map PyData.int = ys.map PyData.int) : xs = ys := (List.map_inj_right fun _ _ e => by simpa using e).mp h
theorem oSumS_t (ns : List Int) (q : D → Prop) : oSumS [.tuple (ns.map .int)] q = q (.int ns.sum) := by
  refine propext ⟨fun ⟨ms, e, h⟩ => ?_, fun h => ⟨ns, .inr rfl, h⟩⟩
  rcases e with e | e
  · simp at e
  · simp only [List.cons.injEq, PyData.tuple.injEq, and_true] at e
    rw [ints_inj e]
    exact h
theorem oSumS_l (ns : List Int) (q : D → Prop) : oSumS [.list (ns.map .int)] q = q (.int ns.sum) := by
  refine propext ⟨fun ⟨ms, e, h⟩ => ?_, fun h => ⟨ns, .inl rfl, h⟩⟩
  rcases e with e | e
  · simp only [List.cons.injEq, PyData.list.injEq, and_true] at e
    rw [ints_inj e]
    exact h
  · simp at e
end T2

namespace T2
open L2 PySem PySem.Spec PyProof.Rows

/-! ### try .. except C: without a name; xs.count(k) -/
/-- try: body, except Y: suite; all that the body raises is of the class y, which the clause takes -/
def sTryO (ys : List Str) (b su : SM) : SM := fun ρ P => b ρ { P with ex := fun x ρ' => x.num = none ∧ x.name ∈ ys ∧ su ρ' { P with ex := fun _ _ => False } }
section
variable {X : Cx} {W : WX} {ios : List Nat} {σ0 : St} {Γx Γ Γ1 Γ' : List Ty} {C : TC}
theorem s_tryO (ys : List Str) (Γe : List Ty) {x : Str} {c : Value} {body suite : List Stmt} {b₀ : Stmt} {np pos pos' : Pos} {mb ms : SM} (hs : X.stack = X.env :: X.outer) (hf : X.env.frame = some X.env.locals) (hcn : Names X x c) (tk : L2N.Takes X W)
    (hcat : ∀ y ∈ ys, ∃ D : Addr, X.mg y = some (.ref D) ∧ PySem.W.exmOne X.K (.ref D) c = some true)
    (hb : ∀ (W' : WX) (pn : List (Addr × Obj)) (xe : Value → Shared → Prop), L2N.Takes (X.tr pn xe) W' → PassesOwn (model X.prog X.w) X.A X.env xe → BOk (X.tr pn xe) W' ios σ0 Γ body { C with ex := Γe } mb)
    (hsu : ∀ (a : Addr) (oe : Obj) (pn : List (Addr × Obj)), BOk (X.suite a ((a, oe) :: pn)) WN ios σ0 Γe (b₀ :: suite) C ms) :
    SOk X W ios σ0 Γ (.Try body [.ExceptHandler (some (.Name x np)) none (b₀ :: suite) pos'] [] [] pos) C (sTryO ys mb ms) := by
  refine ⟨PS.imp (L2N.ps_try_many (tb := fun W' => liftS X W' ios σ0 Γ { C with ex := Γe } mb) (l := [(c, fun a cls d D σ H => liftS X WN ios σ0 Γe C ms D σ H)]) hs hf tk
    (fun W' pn xe t p => PSs.imp (hb W' pn xe t p).ps fun D σ H ⟨F, S, ρ, P, w, io, hp, cn⟩ => ⟨F, S, ρ, P, w, io, hp, ⟨cn.nx, cn.rt, cn.bk, cn.ct, cn.ex⟩⟩) (.cons hcn (fun a oe cls d pn z hv => ⟨fun pins s σ H D I q => ?_⟩) .nil)) fun D σ H ⟨F, S, ρ, P, w, io, hp, cn⟩ => ?_⟩
  · obtain ⟨F, S, ρ, P, w, io, hp, cn⟩ := q
    exact (hsu a oe pn).ps.run pins s σ H D I ⟨F, S, ρ, P, w, io, hp, ⟨cn.nx, cn.rt, cn.bk, cn.ct, cn.ex⟩⟩
  · refine ⟨F, S, ρ, _, w, io, hp, ⟨cn.nx, cn.rt, cn.bk, cn.ct, fun x ρ' ⟨hn, hm, ha⟩ F' H' σ' cls dx g io' hr w' => ?_⟩⟩
    obtain ⟨Cy, e1, e2⟩ := hcat _ hm
    have r1 := hr.1
    rw [e1] at r1
    cases r1
    refine ⟨true, e2, fun _ a na => ⟨F', S, _, _, w', io', ha, ?_⟩, fun z => by cases z⟩
    have c2 := cn.later g
    exact ⟨c2.nx, c2.rt, c2.bk, c2.ct, fun _ _ z => z.elim⟩
/-- xs.count(k), xs a list of ints -/
def tCount (τ : Ty) (to te : TD) : TD := fun ρ Q E => to ρ (fun a ρ1 => (∃ ns : List Int, see τ ρ1 a = .list (ns.map .int)) ∧ te ρ1 (fun k ρ2 => ∃ (ns : List Int) (j : Int), see τ ρ2 a = .list (ns.map .int) ∧ k = .int j ∧ Q (.int (ns.count j : Nat)) ρ2) E) E
theorem e_count {o e : Expr} {apos cpos : Pos} {τ : Ty} {to te : TD} (ho : EOk X W Γx Γ o Γ1 τ to) (he : EOk X W Γx Γ1 e Γ' .fz te) (v1 : opd Γ1 τ = true := by rfl) (v2 : opd Γ' τ = true := by rfl)
    (hbase : attributeBase o "count" X.env (eval o X.env) = eval o X.env := by rfl)
    (hfew : ((backTo cpos (starEach [e] X.env)).all (fun x => !x.1) && (backToKw cpos (keywordEach [] X.env)).all (fun x => x.1.isSome)
      && decide ([e].length + ([] : List Keyword).length + (if ([] : List Keyword).isEmpty then 0 else 1) < 30)) = true := by rfl)
    (hline : (apos.endLine == cpos.line) = true := by rfl) (hs : starEach [e] X.env = (false, eval e X.env) :: starEach [] X.env := by rfl) (hplain : (backTo cpos (starEach [] X.env)).any (·.1) = false := by rfl) :
    EOk X W Γx Γ (.Call (.Attribute o "count" apos) [e] [] cpos) Γ' .fz (tCount τ to te) := by
  refine ⟨PE.imp (pe_bm PySem.F.plainAttrs_list PySem.F.slot_list_count PySem.F.type_list_count mt_lcount ho.pe (pa_cons he.pe pa_nil hs) hbase hfew hline hs hplain) fun σ H Q ⟨F, S, ρ, Qd, Ed, w, q, p, px⟩ => ?_⟩
  refine ⟨F, S, ρ, _, Ed, w, q, fun a ρ1 ⟨⟨ns0, h0⟩, q1⟩ F1 H1 v bs g1 r1 w1 => ?_, px⟩
  have vw := w1.view v1 r1
  rw [h0] at vw
  obtain ⟨l, us, rfl, hl, _⟩ := vw.list
  obtain ⟨nd, nsS⟩ := w1.held
  refine ⟨.inl ⟨rfl, us, hl⟩, F1, fun a => S a ∨ a ∈ bs, ρ1, _, Ed, w1.lend0, q1, fun k ρ2 ⟨ns, j, h2, ek, hq⟩ F2 H2 u cs g2 r2 w2 => ?_, fun x ρ' hx F' H' cls dx g hr w' => px x ρ' hx F' H' cls dx (g1.trans g fun _ => .inl) hr (w'.shrink fun _ => .inl)⟩
  obtain ⟨r2, rfl⟩ := r2
  have w4 := w2.back nd nsS
  have r1' := RpV.mono g2.fz (fun a ha => g2.eq a (.inr ha)) r1
  have vw := w4.view v2 r1'
  rw [h2] at vw
  obtain ⟨l3, us3, e3, hl3, hz3⟩ := vw.list
  cases e3
  subst ek
  have ek : u = .int j := r2
  subst ek
  exact ⟨l, ns, j, rfl, rfl, by rw [← FzL.ints hz3]; exact hl3, p _ ρ2 hq F2 H2 _ [] (g1.trans g2 fun _ => .inl) ⟨rfl, rfl⟩ w4.drop0⟩
end
end T2

namespace T2
open L2 PySem PySem.Spec PyProof.Rows

/-! ### sorted(set(list or tuple of ints)) -/
section
variable {X : Cx} {W : WX} {Γx Γ Γ' : List Ty} {a : Expr} {τ : Ty} {t : TD}
def rSetLT (X : Cx) : List V → Hp → VK → Prop := fun xs H Q => ∃ (l : Addr) (ns : List Int), xs = [V.ref l] ∧ (SqL X.K H l (ns.map V.int) ∨ SqT X.K H l (ns.map V.int)) ∧ ns.length + 1 < scanBound ∧ ∀ p c, H p = none → c ≤ ns.length → Q (.ref p) (upd H p (SetO X.w p (fun j => decide (j ∈ ns)) c))
theorem cr_setLT (hc : X.calm = true) : CallR X (.type "set") (rSetLT X) := by
  intro pins s σ H xs us Q I r ⟨l, ns, ex, hq, hb, q⟩
  rcases hq with hq | hq
  · exact cr_setLI hc _ _ _ _ _ _ _ I r ⟨l, ns, ex, hq, hb, q⟩
  · subst ex
    rw [Vals.ref1 r]
    obtain ⟨its, rv, pt, _⟩ := I.tuple hq
    refine call_set_tupI ns (I.ok.hd hc) (show s.heap.IsTuple l its.toArray from pt) (ints_of_vals rv) hb fun h' tk c R hc' k => ?_
    exact ⟨.ref _, _, I.laid (t' := tk) k (Nat.le_refl _) (setO_new R), rfl, q _ c (I.hok.fresh (Nat.le_refl _)) hc'⟩
def tSrtSetT (τ : Ty) (t : TD) : TD := fun ρ Q E => t ρ (fun d ρ' => ∃ ns : List Int, (see τ ρ' d = .list (ns.map .int) ∨ see τ ρ' d = .tuple (ns.map .int)) ∧ ns.length < 64 ∧ ∀ ms : List Int, ms.Pairwise (· < ·) → (∀ k, k ∈ ms ↔ k ∈ ns) → Q (.list (ms.map .int)) ρ') E
theorem e_srtSetT {p p2 pos pos2 : Pos} (hc : X.calm = true) (h : EOk X W Γx Γ a Γ' τ t) (hg : Gl X "sorted") (hm : X.mg "sorted" = none) (hg2 : Gl X "set") (hm2 : X.mg "set" = none) (ho : opd Γ' τ = true := by rfl)
    (he : starEach [a] X.env = (false, eval a X.env) :: starEach [] X.env := by rfl) (hpl : (backTo pos2 (starEach [] X.env)).any (·.1) = false := by rfl) (he2 : starEach [.Call (.Name "set" p2) [a] [] pos2] X.env = (false, eval (.Call (.Name "set" p2) [a] [] pos2) X.env) :: starEach [] X.env := by rfl) (hpl2 : (backTo pos (starEach [] X.env)).any (·.1) = false := by rfl) :
    EOk X W Γx Γ (.Call (.Name "sorted" p) [.Call (.Name "set" p2) [a] [] pos2] [] pos) Γ' .ow (tSrtSetT τ t) := by
  refine ⟨PE.imp (pe_callB (cr_sortedSet hc) hg hm PyProof.Rows.boot_sorted (pa_cons (pe_callTy (cr_setLT hc) hg2 hm2 PyProof.Rows.boot_set (pa_cons h.pe pa_nil he) (by decide) (by decide) he hpl) pa_nil he2) (by decide) (by decide) he2 hpl2) fun σ H Q ⟨F, S, ρ, Qd, Ed, w, q, pp, px⟩ => ?_⟩
  refine ⟨F, S, ρ, _, Ed, w, q, fun d ρ' ⟨ns, e1, hl, hq⟩ F' H' v bs g r w' => ?_, px⟩
  have vw := w'.view ho r
  obtain ⟨l, ev, hs⟩ : ∃ l, v = .ref l ∧ (SqL X.K H' l (ns.map V.int) ∨ SqT X.K H' l (ns.map V.int)) := by
    rcases e1 with e1 | e1
    · rw [e1] at vw
      obtain ⟨l, us, rfl, h1, h2⟩ := vw.list
      exact ⟨l, rfl, .inl (by rw [← FzL.ints h2]; exact h1)⟩
    · rw [e1] at vw
      obtain ⟨l, us, rfl, h1, h2⟩ := vw.tuple w'.sub
      exact ⟨l, rfl, .inr (by rw [← FzL.ints h2]; exact h1)⟩
  subst ev
  refine ⟨l, ns, rfl, hs, Nat.lt_of_le_of_lt hl (by decide), fun p c np hc' => ⟨p, _, c, rfl, upd_same, Nat.lt_of_le_of_lt hc' hl, fun ms p2 hs hmem _ np2 => ?_⟩⟩
  obtain ⟨w2, s2⟩ := w'.allocF (o := SetO X.w p (fun j => decide (j ∈ ns)) c) np
  exact Fin.nl (q := fun d => d = .list (ms.map .int)) (fun d e F2 H2 z cs g2 rz w3 => pp d ρ' (by rw [e]; exact hq ms hs fun k => (hmem k).trans (by simp)) F2 H2 z cs (g.trans ((w'.grF np).trans g2 fun _ h => h) fun _ => .inl) rz (w3.perm List.perm_append_comm).drop) w2 np2 rfl (fzIs ms)
end
end T2

namespace K38
open PySem PySem.Spec PyProof PyProof.Rows L2 T2
abbrev top (i : Nat) : Stmt := PySem.Challenge.pw_twoknives_k38_whole_books_told_otherwise.main.body.getD i (.Pass ⟨0, 0, 0, 0⟩)
def xt : XT := ⟨[("TooMany" : Str)], [], ("KnifeError" : Str), isaF⟩
def k_MARKS : List D := [.str ("a" : Str), .str ("b" : Str), .str ("ab" : Str)]
/-! ### is_length -/
def N_is_length : List Str := ["thing"]
abbrev st_is_length : Stmt := top 6
theorem sc_is_length : FnScope N_is_length ["thing"] (defScope st_is_length) := ⟨rfl, rfl, rfl, by decide +kernel, rfl, by decide +kernel, by decide +kernel⟩
def m_is_length : SM := (sLast (sRet (tAndD (tIsi .int (.fz) (tVar 0)) (tAndD (tNotD (tIsi .bool (.fz) (tVar 0))) (tBin oGt (.fz) (.fz) (tVar 0) (tK (.int 0)))))))
def t_is_length : TD := semOf 0 [.bot] true (m_is_length)
theorem ok_is_length {P : Program} {w : World} {K : PySem.W.Frag} {mg : Str → Option Value} {base : Heap} {k : Nat} {f : Addr} {fd : FuncData} (FD : FunD K ("is_length" : Str) ("is_length" : Str) (defArgs st_is_length) (defBody st_is_length) (defScope st_is_length) [] [] f fd) (hm : mg ("is_length" : Str) = some (.ref f)) (g_bool : mg ("bool" : Str) = none) (g_int : mg ("int" : Str) = none) (g_isinstance : mg ("isinstance" : Str) = none) :
    Fn P w K mg base (k + 1) ("is_length" : Str) [.fz] [.bot] .fz (t_is_length) := by
  have nd : (N_is_length).Nodup := sc_is_length.nd
  exact fn_ok (ios := []) 0 FD hm sc_is_length (fun _ _ _ _ _ _ us hl => match us, hl with | [_], _ => rfl) (fun cdv A outer s H E σ0 hr tk hp =>
  (b_end (s_ret (e_and (e_isi .int (e_var 0) (by rfl) g_isinstance boot_isinstance (by rfl) g_int boot_int) (e_and (e_not (e_isi .bool (e_var 0) (by rfl) g_isinstance boot_isinstance (by rfl) g_bool boot_bool)) (e_one (e_cmp od_gt (e_var 0) e_int))))))) rfl rfl rfl rfl
/-! ### are_pieces -/
def N_are_pieces : List Str := ["thing", "piece"]
abbrev st_are_pieces : Stmt := top 7
theorem sc_are_pieces : FnScope N_are_pieces ["thing"] (defScope st_are_pieces) := ⟨rfl, rfl, rfl, by decide +kernel, rfl, by decide +kernel, by decide +kernel⟩
def m_are_pieces (s_is_length : TD) : SM := (sSeq (sIf (cOr (cNot (tTest (tIsi .list (.fz) (tVar 0)))) (cNot (tTest (tChn oLe oLe (.fz) (.fz) (.fz) (tK (.int 1)) (tCB oLen [.fz] (aCons (tVar 0) aNil)) (tK (.int 12)))))) (sLast (sRet (tK (.bool false)))) sNil)
  (sSeq (sFor (iD (tVar 0)) (gN 1) (sSeq (sIf (cOr (cNot (tTest (tIsi .tuple (.fz) (tVar 1)))) (cOr (tTest (tBin oNe (.fz) (.fz) (tCB oLen [.fz] (aCons (tVar 1) aNil)) (tK (.int 2)))) (cNot (tTest (tCallD [.fz] [.bot] s_is_length (aCons (tBin oIx (.fz) (.fz) (tVar 1) (tK (.int 0))) aNil)))))) (sLast (sRet (tK (.bool false)))) sNil)
  (sSeq (sIf (cOr (cNot (tTest (tIsi .str (.fz) (tBin oIx (.fz) (.fz) (tVar 1) (tK (.int 1)))))) (tTest (tBin (oIn true) (.fz) (.fz) (tBin oIx (.fz) (.fz) (tVar 1) (tK (.int 1))) (tK (.tuple k_MARKS))))) (sLast (sRet (tK (.bool false)))) sNil)
  sNil)))
  (sLast (sRet (tK (.bool true))))))
def t_are_pieces (s_is_length : TD) : TD := semOf 1 [.bot] true (m_are_pieces s_is_length)
theorem ok_are_pieces {P : Program} {w : World} {K : PySem.W.Frag} {mg : Str → Option Value} {base : Heap} {k : Nat} {f : Addr} {fd : FuncData} {s_is_length : TD} (FD : FunD K ("are_pieces" : Str) ("are_pieces" : Str) (defArgs st_are_pieces) (defBody st_are_pieces) (defScope st_are_pieces) [] [] f fd) (hm : mg ("are_pieces" : Str) = some (.ref f)) (c_is_length : Fn P w K mg base k ("is_length" : Str) [.fz] [.bot] .fz s_is_length) (g_isinstance : mg ("isinstance" : Str) = none) (g_len : mg ("len" : Str) = none) (g_list : mg ("list" : Str) = none) (g_str : mg ("str" : Str) = none) (g_tuple : mg ("tuple" : Str) = none) (g_MARKS : mg ("MARKS" : Str) = some (.ref (He.ga K ("MARKS" : Str))) ∧ ∀ F, Fz K F (.tuple k_MARKS) (.ref (He.ga K ("MARKS" : Str)))) (g_MOST_PIECES : ∃ t, mg ("MOST_PIECES" : Str) = some (.int 12 t)) :
    Fn P w K mg base (k + 1) ("are_pieces" : Str) [.fz] [.bot] .fz (t_are_pieces s_is_length) := by
  have nd : (N_are_pieces).Nodup := sc_are_pieces.nd
  exact fn_ok (ios := []) 1 FD hm sc_are_pieces (fun _ _ _ _ _ _ us hl => match us, hl with | [_], _ => rfl) (fun cdv A outer s H E σ0 hr tk hp =>
  (b_cons (Γ1 := [.fz, .bot]) (s_if (WOk.to (w_or (t_not (t_val (e_isi .list (e_var 0) (by rfl) g_isinstance boot_isinstance (by rfl) g_list boot_list))) (w_or1 (t_not (t_chain od_le od_le e_int (e_callB cd_len (a_cons (e_var 0) a_nil) (by rfl) g_len boot_len) (e_gint (by rfl) g_MOST_PIECES))))))
  (b_end (s_ret e_bl))
  b_nil)
  (b_cons (Γ1 := [.fz, .bot]) (s_for hp (by rfl) (i_seq (e_var 0)) (g_name 1 nd)
  (b_cons (Γ1 := [.fz, .fz]) (s_if (WOk.to (w_or (t_not (t_val (e_isi .tuple (e_var 1) (by rfl) g_isinstance boot_isinstance (by rfl) g_tuple boot_tuple))) (w_or (t_cmp (od_ne (u64 hr)) (e_callB cd_len (a_cons (e_var 1) a_nil) (by rfl) g_len boot_len) e_int) (w_or1 (t_not (t_val (e_call c_is_length tk hr (by rfl) (a_cons (e_ix (u1 hr) (e_var 1) e_int) a_nil))))))))
  (b_end (s_ret e_bl))
  b_nil)
  (b_cons (Γ1 := [.fz, .fz]) (s_if (WOk.to (w_or (t_not (t_val (e_isi .str (e_ix (u1 hr) (e_var 1) e_int) (by rfl) g_isinstance boot_isinstance (by rfl) g_str boot_str))) (w_or1 (t_cmp (od_notin (u65 hr)) (e_ix (u1 hr) (e_var 1) e_int) (e_gtup (by rfl) g_MARKS.1 g_MARKS.2)))))
  (b_end (s_ret e_bl))
  b_nil)
  b_nil)))
  (b_end (s_ret e_bl))))) rfl rfl rfl rfl
/-! ### is_line -/
def N_is_line : List Str := ["thing"]
abbrev st_is_line : Stmt := top 8
theorem sc_is_line : FnScope N_is_line ["thing"] (defScope st_is_line) := ⟨rfl, rfl, rfl, by decide +kernel, rfl, by decide +kernel, by decide +kernel⟩
def m_is_line (s_are_pieces : TD) : SM := (sLast (sRet (tAndD (tCallD [.fz] [.bot] s_are_pieces (aCons (tVar 0) aNil)) (tBin oEq (.fz) (.fz) (tBin oIx (.fz) (.fz) (tBin oIx (.fz) (.fz) (tVar 0) (tNegD (tK (.int 1)))) (tK (.int 1))) (tK (.str ("ab" : Str)))))))
def t_is_line (s_are_pieces : TD) : TD := semOf 0 [.bot] true (m_is_line s_are_pieces)
theorem ok_is_line {P : Program} {w : World} {K : PySem.W.Frag} {mg : Str → Option Value} {base : Heap} {k : Nat} {f : Addr} {fd : FuncData} {s_are_pieces : TD} (FD : FunD K ("is_line" : Str) ("is_line" : Str) (defArgs st_is_line) (defBody st_is_line) (defScope st_is_line) [] [] f fd) (hm : mg ("is_line" : Str) = some (.ref f)) (c_are_pieces : Fn P w K mg base k ("are_pieces" : Str) [.fz] [.bot] .fz s_are_pieces) :
    Fn P w K mg base (k + 1) ("is_line" : Str) [.fz] [.bot] .fz (t_is_line s_are_pieces) := by
  have nd : (N_is_line).Nodup := sc_is_line.nd
  exact fn_ok (ios := []) 0 FD hm sc_is_line (fun _ _ _ _ _ _ us hl => match us, hl with | [_], _ => rfl) (fun cdv A outer s H E σ0 hr tk hp =>
  (b_end (s_ret (e_and (e_call c_are_pieces tk hr (by rfl) (a_cons (e_var 0) a_nil)) (e_one (e_cmp (od_eq (u64 hr)) (e_ix (u1 hr) (e_ix (u1 hr) (e_var 0) (e_neg e_int)) e_int) e_str)))))) rfl rfl rfl rfl
/-! ### lengths_of -/
def N_lengths_of : List Str := ["line", "knife", "found", "open_length", "length", "mark"]
abbrev st_lengths_of : Stmt := top 9
theorem sc_lengths_of : FnScope N_lengths_of ["line", "knife"] (defScope st_lengths_of) := ⟨rfl, rfl, rfl, by decide +kernel, rfl, by decide +kernel, by decide +kernel⟩
def m_lengths_of : SM := (sSeq (sSet 2 (tLst aNil))
  (sSeq (sSet 3 (tK (.int 0)))
  (sSeq (sFor (iD (tVar 0)) (gS 2 (gsCons (gN 4) (gsCons (gN 5) gsNil))) (sSeq (sAug 3 (oI2 (fun _ _ => True) fun i j => .int (i + j)) (tVar 4))
  (sSeq (sIf (cOr (tTest (tBin oEq (.fz) (.fz) (tVar 1) (tK (.str ("ab" : Str))))) (tTest (tBin (oIn false) (.fz) (.fz) (tVar 1) (tVar 5)))) (sSeq (sDo (mApp 2 (tVar 3)))
  (sSeq (sSet 3 (tK (.int 0)))
  sNil)) sNil)
  sNil)))
  (sLast (sRet (tVar 2))))))
def t_lengths_of : TD := semOf 4 [.bot, .bot] true (m_lengths_of)
theorem ok_lengths_of {P : Program} {w : World} {K : PySem.W.Frag} {mg : Str → Option Value} {base : Heap} {k : Nat} {f : Addr} {fd : FuncData} (FD : FunD K ("lengths_of" : Str) ("lengths_of" : Str) (defArgs st_lengths_of) (defBody st_lengths_of) (defScope st_lengths_of) [] [] f fd) (hm : mg ("lengths_of" : Str) = some (.ref f)) :
    Fn P w K mg base (k + 1) ("lengths_of" : Str) [.fz, .fz] [.bot, .bot] .fz (t_lengths_of) := by
  have nd : (N_lengths_of).Nodup := sc_lengths_of.nd
  exact fn_ok (ios := []) 4 FD hm sc_lengths_of (fun _ _ _ _ _ _ us hl => match us, hl with | [_, _], _ => rfl) (fun cdv A outer s H E σ0 hr tk hp =>
  (b_cons (Γ1 := [.fz, .fz, .ow, .bot, .bot, .bot]) (s_set 2 nd (e_list a_nil))
  (b_cons (Γ1 := [.fz, .fz, .ow, .fz, .bot, .bot]) (s_set 3 nd e_int)
  (b_cons (Γ1 := [.fz, .fz, .ow, .fz, .bot, .bot]) (s_for hp (by rfl) (i_seq (e_var 0)) (g_seq 2 (by rfl) (gs_cons (g_name 4 nd) (gs_cons (g_name 5 nd) gs_nil)))
  (b_cons (Γ1 := [.fz, .fz, .ow, .fz, .fz, .fz]) (s_aug 3 od_iadd nd (e_var 4))
  (b_cons (Γ1 := [.fz, .fz, .ow, .fz, .fz, .fz]) (s_if (WOk.to (w_or (t_cmp (od_eq (u64 hr)) (e_var 1) e_str) (w_or1 (t_cmp (od_in (u65 hr)) (e_var 1) (e_var 5)))))
  (b_cons (Γ1 := [.fz, .fz, .ow, .fz, .fz, .fz]) (s_do (e_app 2 (e_var 3)))
  (b_cons (Γ1 := [.fz, .fz, .ow, .fz, .fz, .fz]) (s_set 3 nd e_int)
  b_nil))
  b_nil)
  b_nil)))
  (b_end (s_ret (e_varF 2 (e_var 2)))))))) rfl rfl rfl rfl
/-! ### book_of -/
def N_book_of : List Str := ["line", "knife"]
abbrev st_book_of : Stmt := top 11
theorem sc_book_of : FnScope N_book_of ["line"] (defScope st_book_of) := ⟨rfl, rfl, rfl, by decide +kernel, rfl, by decide +kernel, by decide +kernel⟩
def m_book_of (s_lengths_of : TD) : SM := (sLast (sRet (tCB oTuple [.ow] (aCons (tLC (iD (tTup (aCons (tK (.str ("a" : Str))) (aCons (tK (.str ("b" : Str))) (aCons (tK (.str ("ab" : Str))) aNil))))) (gN 1) cYes (tCB oTuple [.ow] (aCons (tCB oSorted [.fz] (aCons (tCallD [.fz, .fz] [.bot, .bot] s_lengths_of (aCons (tVar 0) (aCons (tVar 1) aNil))) aNil)) aNil))) aNil))))
def t_book_of (s_lengths_of : TD) : TD := semOf 1 [.bot] true (m_book_of s_lengths_of)
theorem ok_book_of {P : Program} {w : World} {K : PySem.W.Frag} {mg : Str → Option Value} {base : Heap} {k : Nat} {f : Addr} {fd : FuncData} {s_lengths_of : TD} (FD : FunD K ("book_of" : Str) ("book_of" : Str) (defArgs st_book_of) (defBody st_book_of) (defScope st_book_of) [] [] f fd) (hm : mg ("book_of" : Str) = some (.ref f)) (c_lengths_of : Fn P w K mg base k ("lengths_of" : Str) [.fz, .fz] [.bot, .bot] .fz s_lengths_of) (g_sorted : mg ("sorted" : Str) = none) (g_tuple : mg ("tuple" : Str) = none) :
    Fn P w K mg base (k + 1) ("book_of" : Str) [.fz] [.bot] .fz (t_book_of s_lengths_of) := by
  have nd : (N_book_of).Nodup := sc_book_of.nd
  exact fn_ok (ios := []) 1 FD hm sc_book_of (fun _ _ _ _ _ _ us hl => match us, hl with | [_], _ => rfl) (fun cdv A outer s H E σ0 hr tk hp =>
  (b_end (s_ret (e_callT cd_tuple (a_cons (e_lc (Γb := [.fz, .bot]) [(("knife" : Str), 1)] (by rfl) nd (i_seq (e_tuple (a_cons e_str (a_cons e_str (a_cons e_str a_nil))))) (blkOk_by (N := N_book_of) (sc := defScope st_book_of) (by decide +kernel)) (fun _ _ _ _ _ _ => (g_name 1 nd)) (fun _ _ _ _ _ => c_nil) (fun _ _ _ _ _ => (e_callT cd_tuple (a_cons (e_callB (cd_sorted (u65 hr)) (a_cons (e_call c_lengths_of takesN hr (by rfl) (a_cons (e_var 0) (a_cons (e_var 1) a_nil))) a_nil) (by rfl) g_sorted boot_sorted) a_nil) (by rfl) g_tuple boot_tuple))) a_nil) (by rfl) g_tuple boot_tuple)))) rfl rfl rfl rfl
/-! ### counted -/
def N_counted : List Str := ["lengths", "found", "length"]
abbrev st_counted : Stmt := top 15
theorem sc_counted : FnScope N_counted ["lengths"] (defScope st_counted) := ⟨rfl, rfl, rfl, by decide +kernel, rfl, by decide +kernel, by decide +kernel⟩
def m_counted : SM := (sSeq (sSet 1 tDict0)
  (sSeq (sFor (iD (tVar 0)) (gN 2) (sSeq (sDPut 1 (tVar 2) (tBin oAdd (.fz) (.fz) (tDGet (.pk 1) (tPk 1) (tVar 2) (tK (.int 0))) (tK (.int 1))))
  sNil))
  (sLast (sRet (tVar 1)))))
def t_counted : TD := semOf 2 [.bot] true (m_counted)
theorem ok_counted {P : Program} {w : World} {K : PySem.W.Frag} {mg : Str → Option Value} {base : Heap} {k : Nat} {f : Addr} {fd : FuncData} (FD : FunD K ("counted" : Str) ("counted" : Str) (defArgs st_counted) (defBody st_counted) (defScope st_counted) [] [] f fd) (hm : mg ("counted" : Str) = some (.ref f)) :
    Fn P w K mg base (k + 1) ("counted" : Str) [.fz] [.bot] .fz (t_counted) := by
  have nd : (N_counted).Nodup := sc_counted.nd
  exact fn_ok (ios := []) 2 FD hm sc_counted (fun _ _ _ _ _ _ us hl => match us, hl with | [_], _ => rfl) (fun cdv A outer s H E σ0 hr tk hp =>
  (b_cons (Γ1 := [.fz, .ow, .bot]) (s_set 1 nd e_dict0)
  (b_cons (Γ1 := [.fz, .ow, .bot]) (s_for hp (by rfl) (i_seq (e_var 0)) (g_name 2 nd)
  (b_cons (Γ1 := [.fz, .ow, .fz]) (s_dput 1 (u1 hr) (e_frz (e_bin od_add (e_dget2 (u1 hr) (e_pk 1) (e_var 2) e_int ⟨by rfl, by rfl, by rfl, by rfl⟩) e_int)) (e_var 2))
  b_nil))
  (b_end (s_ret (e_varF 1 (e_var 1))))))) rfl rfl rfl rfl
/-! ### without -/
def N_without : List Str := ["counts", "length", "found"]
abbrev st_without : Stmt := top 16
theorem sc_without : FnScope N_without ["counts", "length"] (defScope st_without) := ⟨rfl, rfl, rfl, by decide +kernel, rfl, by decide +kernel, by decide +kernel⟩
def m_without : SM := (sSeq (sSet 2 (tCB oDict [.fz] (aCons (tVar 0) aNil)))
  (sSeq (sDAug 2 (oI2 (fun _ _ => True) fun i j => .int (i - j)) (tVar 1) (tK (.int 1)))
  (sSeq (sIf (tTest (tBin oEq (.fz) (.fz) (tBin oIx (.pk 2) (.fz) (tPk 2) (tVar 1)) (tK (.int 0)))) (sSeq (sDo (mDPop 2 (tVar 1)))
  sNil) sNil)
  (sLast (sRet (tVar 2))))))
def t_without : TD := semOf 1 [.bot, .bot] true (m_without)
theorem ok_without {P : Program} {w : World} {K : PySem.W.Frag} {mg : Str → Option Value} {base : Heap} {k : Nat} {f : Addr} {fd : FuncData} (FD : FunD K ("without" : Str) ("without" : Str) (defArgs st_without) (defBody st_without) (defScope st_without) [] [] f fd) (hm : mg ("without" : Str) = some (.ref f)) (g_dict : mg ("dict" : Str) = none) :
    Fn P w K mg base (k + 1) ("without" : Str) [.fz, .fz] [.bot, .bot] .fz (t_without) := by
  have nd : (N_without).Nodup := sc_without.nd
  exact fn_ok (ios := []) 1 FD hm sc_without (fun _ _ _ _ _ _ us hl => match us, hl with | [_, _], _ => rfl) (fun cdv A outer s H E σ0 hr tk hp =>
  (b_cons (Γ1 := [.fz, .fz, .ow]) (s_set 2 nd (e_callT cd_dict (a_cons (e_var 0) a_nil) (by rfl) g_dict (by decide +kernel)))
  (b_cons (Γ1 := [.fz, .fz, .ow]) (s_daug 2 (u1 hr) od_isub (e_var 1) e_int)
  (b_cons (Γ1 := [.fz, .fz, .ow]) (s_if (t_cmp (od_eq (u64 hr)) (e_ix (u1 hr) (e_pk 2) (e_var 1)) e_int)
  (b_cons (Γ1 := [.fz, .fz, .ow]) (s_do (e_dpop 2 (e_var 1) ⟨by rfl, by rfl, by rfl, by rfl⟩))
  b_nil)
  b_nil)
  (b_end (s_ret (e_varF 2 (e_var 2)))))))) rfl rfl rfl rfl
/-! ### steps_from -/
def N_steps_from : List Str := ["length", "mark", "opened", "left", "later_open", "later_left", "at", "knife", "total"]
abbrev st_steps_from : Stmt := top 17
theorem sc_steps_from : FnScope N_steps_from ["length", "mark", "opened", "left"] (defScope st_steps_from) := ⟨rfl, rfl, rfl, by decide +kernel, rfl, by decide +kernel, by decide +kernel⟩
def m_steps_from (s_without : TD) : SM := (sSeq (sSet 4 (tLst aNil))
  (sSeq (sSet 5 (tLst aNil))
  (sSeq (sFor (tEn (aCons (tTup (aCons (tK (.str ("a" : Str))) (aCons (tK (.str ("b" : Str))) aNil))) aNil)) (gS 2 (gsCons (gN 6) (gsCons (gN 7) gsNil))) (sSeq (sSet 8 (tBin oAdd (.fz) (.fz) (tBin oIx (.fz) (.fz) (tVar 2) (tVar 6)) (tVar 0)))
  (sSeq (sIf (tTest (tBin (oIn false) (.fz) (.fz) (tVar 7) (tVar 1))) (sSeq (sIf (tTest (tBin (oIn true) (.fz) (.fz) (tVar 8) (tBin oIx (.fz) (.fz) (tVar 3) (tVar 6)))) (sLast (sRet (tK .none))) sNil)
  (sSeq (sDo (mApp 4 (tK (.int 0))))
  (sSeq (sDo (mApp 5 (tCallD [.fz, .fz] [.bot, .bot] s_without (aCons (tBin oIx (.fz) (.fz) (tVar 3) (tVar 6)) (aCons (tVar 8) aNil)))))
  sNil))) (sSeq (sIf (tTest (tBin oLe (.fz) (.fz) (tMaxDf (tBin oIx (.fz) (.fz) (tVar 3) (tVar 6)) (tK (.int 0))) (tVar 8))) (sLast (sRet (tK .none))) sNil)
  (sSeq (sDo (mApp 4 (tVar 8)))
  (sSeq (sDo (mApp 5 (tBin oIx (.fz) (.fz) (tVar 3) (tVar 6))))
  sNil))))
  sNil)))
  (sLast (sRet (tTup (aCons (tVar 4) (aCons (tVar 5) aNil))))))))
def t_steps_from (s_without : TD) : TD := semOf 5 [.bot, .bot, .bot, .bot] true (m_steps_from s_without)
theorem ok_steps_from {P : Program} {w : World} {K : PySem.W.Frag} {mg : Str → Option Value} {base : Heap} {k : Nat} {f : Addr} {fd : FuncData} {s_without : TD} (FD : FunD K ("steps_from" : Str) ("steps_from" : Str) (defArgs st_steps_from) (defBody st_steps_from) (defScope st_steps_from) [] [] f fd) (hm : mg ("steps_from" : Str) = some (.ref f)) (c_without : Fn P w K mg base k ("without" : Str) [.fz, .fz] [.bot, .bot] .fz s_without) (g_enumerate : mg ("enumerate" : Str) = none) (g_max : mg ("max" : Str) = none) :
    Fn P w K mg base (k + 1) ("steps_from" : Str) [.fz, .fz, .fz, .fz] [.bot, .bot, .bot, .bot] .fz (t_steps_from s_without) := by
  have nd : (N_steps_from).Nodup := sc_steps_from.nd
  exact fn_ok (ios := []) 5 FD hm sc_steps_from (fun _ _ _ _ _ _ us hl => match us, hl with | [_, _, _, _], _ => rfl) (fun cdv A outer s H E σ0 hr tk hp =>
  (b_cons (Γ1 := [.fz, .fz, .fz, .fz, .ow, .bot, .bot, .bot, .bot]) (s_set 4 nd (e_list a_nil))
  (b_cons (Γ1 := [.fz, .fz, .fz, .fz, .ow, .ow, .bot, .bot, .bot]) (s_set 5 nd (e_list a_nil))
  (b_cons (Γ1 := [.fz, .fz, .fz, .fz, .ow, .ow, .bot, .bot, .bot]) (s_for hp (by rfl) (i_en (by rfl) g_enumerate (a_cons (e_tuple (a_cons e_str (a_cons e_str a_nil))) a_nil)) (g_seq 2 (by rfl) (gs_cons (g_name 6 nd) (gs_cons (g_name 7 nd) gs_nil)))
  (b_cons (Γ1 := [.fz, .fz, .fz, .fz, .ow, .ow, .fz, .fz, .fz]) (s_set 8 nd (e_frz (e_bin od_add (e_ix (u1 hr) (e_var 2) (e_var 6)) (e_var 0))))
  (b_cons (Γ1 := [.fz, .fz, .fz, .fz, .ow, .ow, .fz, .fz, .fz]) (s_if (t_cmp (od_in (u65 hr)) (e_var 7) (e_var 1))
  (b_cons (Γ1 := [.fz, .fz, .fz, .fz, .ow, .ow, .fz, .fz, .fz]) (s_if (t_cmp (od_notin (u65 hr)) (e_var 8) (e_ix (u1 hr) (e_var 3) (e_var 6)))
  (b_end (s_ret e_non))
  b_nil)
  (b_cons (Γ1 := [.fz, .fz, .fz, .fz, .ow, .ow, .fz, .fz, .fz]) (s_do (e_app 4 e_int))
  (b_cons (Γ1 := [.fz, .fz, .fz, .fz, .ow, .ow, .fz, .fz, .fz]) (s_do (e_app 5 (e_call c_without tk hr (by rfl) (a_cons (e_ix (u1 hr) (e_var 3) (e_var 6)) (a_cons (e_var 8) a_nil)))))
  b_nil)))
  (b_cons (Γ1 := [.fz, .fz, .fz, .fz, .ow, .ow, .fz, .fz, .fz]) (s_if (t_cmp od_le (e_maxDf (by rfl) (e_ix (u1 hr) (e_var 3) (e_var 6)) e_int (by rfl) g_max) (e_var 8))
  (b_end (s_ret e_non))
  b_nil)
  (b_cons (Γ1 := [.fz, .fz, .fz, .fz, .ow, .ow, .fz, .fz, .fz]) (s_do (e_app 4 (e_var 8)))
  (b_cons (Γ1 := [.fz, .fz, .fz, .fz, .ow, .ow, .fz, .fz, .fz]) (s_do (e_app 5 (e_ix (u1 hr) (e_var 3) (e_var 6))))
  b_nil))))
  b_nil)))
  (b_end (s_ret (e_tuple (a_cons (e_varF 4 (e_var 4)) (a_cons (e_varF 5 (e_var 5)) a_nil))))))))) rfl rfl rfl rfl
/-! ### extended -/
def N_extended : List Str := ["line", "opened", "left", "pieces", "found", "length", "mark", "step"]
abbrev st_extended : Stmt := top 18
theorem sc_extended : FnScope N_extended ["line", "opened", "left", "pieces", "found"] (defScope st_extended) := ⟨rfl, rfl, rfl, by decide +kernel, rfl, by decide +kernel, by decide +kernel⟩
def m_extended (s_without : TD) (s_steps_from : TD) (s_extended : TD) : SM := (sSeq (sIf (tTest (tBin (oEqX false) (.fz) (.ow) (tVar 3) tDict0)) (sSeq (sIf (tTest (tBin (oEqX false) (.fz) (.ow) (tVar 2) (tLst (aCons tDict0 (aCons tDict0 aNil))))) (sSeq (sDo (mApp 4 (tCB oList [.fz] (aCons (tVar 0) aNil))))
  sNil) sNil)
  (sSeq (sIf (tTest (tBin oGt (.fz) (.fz) (tCB oLen [.pk 4] (aCons (tPk 4) aNil)) (tK (.int 500)))) (sLast (sRaise ("TooMany" : Str))) sNil)
  (sLast sRetN))) sNil)
  (sSeq (sFor (iK (tVar 3)) (gN 5) (sSeq (sFor (iD (tTup (aCons (tK (.str ("a" : Str))) (aCons (tK (.str ("b" : Str))) (aCons (tK (.str ("ab" : Str))) aNil))))) (gN 6) (sSeq (sSet 7 (tCallD [.fz, .fz, .fz, .fz] [.bot, .bot, .bot, .bot] s_steps_from (aCons (tVar 5) (aCons (tVar 6) (aCons (tVar 1) (aCons (tVar 2) aNil))))))
  (sSeq (sIf (tTest (tBin (oIs true) (.fz) (.fz) (tVar 7) (tK .none))) (sSeq (sDo (tCallD [.fz, .fz, .fz, .fz, .pk 4] [.bot, .bot, .bot, .bot, .ow] s_extended (aCons (tBin oAdd (.fz) (.ow) (tVar 0) (tLst (aCons (tTup (aCons (tVar 5) (aCons (tVar 6) aNil))) aNil))) (aCons (tBin oIx (.fz) (.fz) (tVar 7) (tK (.int 0))) (aCons (tBin oIx (.fz) (.fz) (tVar 7) (tK (.int 1))) (aCons (tCallD [.fz, .fz] [.bot, .bot] s_without (aCons (tVar 3) (aCons (tVar 5) aNil))) (aCons (tPk 4) aNil)))))))
  sNil) sNil)
  sNil)))
  sNil))
  sNil))
def t_extended (s_without : TD) (s_steps_from : TD) (s_extended : TD) : TD := semOf 3 [.bot, .bot, .bot, .bot, .ow] true (m_extended s_without s_steps_from s_extended)
theorem ok_extended {P : Program} {w : World} {K : PySem.W.Frag} {mg : Str → Option Value} {base : Heap} {k : Nat} {f : Addr} {fd : FuncData} {s_without : TD} {s_steps_from : TD} {s_extended : TD} (FD : FunD K ("extended" : Str) ("extended" : Str) (defArgs st_extended) (defBody st_extended) (defScope st_extended) [] [] f fd) (hm : mg ("extended" : Str) = some (.ref f)) (c_without : Fn P w K mg base k ("without" : Str) [.fz, .fz] [.bot, .bot] .fz s_without) (c_steps_from : Fn P w K mg base k ("steps_from" : Str) [.fz, .fz, .fz, .fz] [.bot, .bot, .bot, .bot] .fz s_steps_from) (c_extended : Fn P w K mg base k ("extended" : Str) [.fz, .fz, .fz, .fz, .ow] [.bot, .bot, .bot, .bot, .ow] .fz s_extended) (xf : XFacts xt K mg) (g_len : mg ("len" : Str) = none) (g_list : mg ("list" : Str) = none) (g_MOST_LINES : ∃ t, mg ("MOST_LINES" : Str) = some (.int 500 t)) :
    Fn P w K mg base (k + 1) ("extended" : Str) [.fz, .fz, .fz, .fz, .ow] [.bot, .bot, .bot, .bot, .ow] .fz (t_extended s_without s_steps_from s_extended) := by
  have nd : (N_extended).Nodup := sc_extended.nd
  exact fn_ok (ios := [4]) 3 FD hm sc_extended (fun _ _ _ _ _ _ us hl => match us, hl with | [_, _, _, _, _], _ => rfl) (fun cdv A outer s H E σ0 hr tk hp =>
  (b_cons (Γ1 := [.fz, .fz, .fz, .fz, .ow, .bot, .bot, .bot]) (s_if (t_cmp (od_eqX (u64 hr)) (e_var 3) e_dict0)
  (b_cons (Γ1 := [.fz, .fz, .fz, .fz, .ow, .bot, .bot, .bot]) (s_if (t_cmp (od_eqX (u64 hr)) (e_var 2) (e_list (a_cons (e_frz e_dict0) (a_cons (e_frz e_dict0) a_nil))))
  (b_cons (Γ1 := [.fz, .fz, .fz, .fz, .ow, .bot, .bot, .bot]) (s_do (e_app 4 (e_frz (e_callT cd_list (a_cons (e_var 0) a_nil) (by rfl) g_list boot_list))))
  b_nil)
  b_nil)
  (b_cons (Γ1 := [.fz, .fz, .fz, .fz, .ow, .bot, .bot, .bot]) (s_if (t_cmp od_gt (e_callB cd_len (a_cons (e_pk 4) a_nil) (by rfl) g_len boot_len) (e_gint (by rfl) g_MOST_LINES))
  (b_end (s_raise (xf.own ("TooMany" : Str) (by decide)) (by rfl) tk (by rfl)))
  b_nil)
  (b_end s_retN)))
  b_nil)
  (b_cons (Γ1 := [.fz, .fz, .fz, .fz, .ow, .bot, .bot, .bot]) (s_for hp (by rfl) (i_keys (e_var 3)) (g_name 5 nd)
  (b_cons (Γ1 := [.fz, .fz, .fz, .fz, .ow, .fz, .bot, .bot]) (s_for hp (by rfl) (i_seq (e_tuple (a_cons e_str (a_cons e_str (a_cons e_str a_nil))))) (g_name 6 nd)
  (b_cons (Γ1 := [.fz, .fz, .fz, .fz, .ow, .fz, .fz, .fz]) (s_set 7 nd (e_call c_steps_from tk hr (by rfl) (a_cons (e_var 5) (a_cons (e_var 6) (a_cons (e_var 1) (a_cons (e_var 2) a_nil))))))
  (b_cons (Γ1 := [.fz, .fz, .fz, .fz, .ow, .fz, .fz, .fz]) (s_if (t_cmp od_isnot (e_var 7) e_non)
  (b_cons (Γ1 := [.fz, .fz, .fz, .fz, .ow, .fz, .fz, .fz]) (s_do (e_call c_extended tk hr (by rfl) (a_cons (e_frz (e_bin od_add (e_var 0) (e_list (a_cons (e_tuple (a_cons (e_var 5) (a_cons (e_var 6) a_nil))) a_nil)))) (a_cons (e_ix (u1 hr) (e_var 7) e_int) (a_cons (e_ix (u1 hr) (e_var 7) e_int) (a_cons (e_call c_without tk hr (by rfl) (a_cons (e_var 3) (a_cons (e_var 5) a_nil))) (a_cons (e_pk 4) a_nil)))))))
  b_nil)
  b_nil)
  b_nil)))
  b_nil))
  b_nil))) rfl rfl rfl rfl
/-! ### lines_of -/
def N_lines_of : List Str := ["book", "found"]
abbrev st_lines_of : Stmt := top 19
theorem sc_lines_of : FnScope N_lines_of ["book"] (defScope st_lines_of) := ⟨rfl, rfl, rfl, by decide +kernel, rfl, by decide +kernel, by decide +kernel⟩
def m_lines_of (s_counted : TD) (s_extended : TD) : SM := (sSeq (sIf (tTest (tBin oGt (.fz) (.fz) (tCB oLen [.fz] (aCons (tBin oIx (.fz) (.fz) (tVar 0) (tK (.int 2))) aNil)) (tK (.int 8)))) (sLast (sRaise ("TooMany" : Str))) sNil)
  (sSeq (sSet 1 (tLst aNil))
  (sSeq (sIf (tTest (tChn oEq oEq (.fz) (.fz) (.fz) (tCB oSumS [.fz] (aCons (tBin oIx (.fz) (.fz) (tVar 0) (tK (.int 0))) aNil)) (tCB oSumS [.fz] (aCons (tBin oIx (.fz) (.fz) (tVar 0) (tK (.int 1))) aNil)) (tCB oSumS [.fz] (aCons (tBin oIx (.fz) (.fz) (tVar 0) (tK (.int 2))) aNil)))) (sSeq (sDo (tCallD [.fz, .fz, .fz, .fz, .pk 1] [.bot, .bot, .bot, .bot, .ow] s_extended (aCons (tLst aNil) (aCons (tLst (aCons (tK (.int 0)) (aCons (tK (.int 0)) aNil))) (aCons (tLst (aCons (tCallD [.fz] [.bot] s_counted (aCons (tBin oIx (.fz) (.fz) (tVar 0) (tK (.int 0))) aNil)) (aCons (tCallD [.fz] [.bot] s_counted (aCons (tBin oIx (.fz) (.fz) (tVar 0) (tK (.int 1))) aNil)) aNil))) (aCons (tCallD [.fz] [.bot] s_counted (aCons (tBin oIx (.fz) (.fz) (tVar 0) (tK (.int 2))) aNil)) (aCons (tPk 1) aNil)))))))
  sNil) sNil)
  (sLast (sRet (tCB oSorted [.pk 1] (aCons (tPk 1) aNil)))))))
def t_lines_of (s_counted : TD) (s_extended : TD) : TD := semOf 1 [.bot] true (m_lines_of s_counted s_extended)
theorem ok_lines_of {P : Program} {w : World} {K : PySem.W.Frag} {mg : Str → Option Value} {base : Heap} {k : Nat} {f : Addr} {fd : FuncData} {s_counted : TD} {s_extended : TD} (FD : FunD K ("lines_of" : Str) ("lines_of" : Str) (defArgs st_lines_of) (defBody st_lines_of) (defScope st_lines_of) [] [] f fd) (hm : mg ("lines_of" : Str) = some (.ref f)) (c_counted : Fn P w K mg base k ("counted" : Str) [.fz] [.bot] .fz s_counted) (c_extended : Fn P w K mg base k ("extended" : Str) [.fz, .fz, .fz, .fz, .ow] [.bot, .bot, .bot, .bot, .ow] .fz s_extended) (xf : XFacts xt K mg) (g_len : mg ("len" : Str) = none) (g_sorted : mg ("sorted" : Str) = none) (g_sum : mg ("sum" : Str) = none) (g_MOST_FITTED : ∃ t, mg ("MOST_FITTED" : Str) = some (.int 8 t)) :
    Fn P w K mg base (k + 1) ("lines_of" : Str) [.fz] [.bot] .fz (t_lines_of s_counted s_extended) := by
  have nd : (N_lines_of).Nodup := sc_lines_of.nd
  exact fn_ok (ios := []) 1 FD hm sc_lines_of (fun _ _ _ _ _ _ us hl => match us, hl with | [_], _ => rfl) (fun cdv A outer s H E σ0 hr tk hp =>
  (b_cons (Γ1 := [.fz, .bot]) (s_if (t_cmp od_gt (e_callB cd_len (a_cons (e_ix (u1 hr) (e_var 0) e_int) a_nil) (by rfl) g_len boot_len) (e_gint (by rfl) g_MOST_FITTED))
  (b_end (s_raise (xf.own ("TooMany" : Str) (by decide)) (by rfl) tk (by rfl)))
  b_nil)
  (b_cons (Γ1 := [.fz, .ow]) (s_set 1 nd (e_list a_nil))
  (b_cons (Γ1 := [.fz, .ow]) (s_if (t_chain (od_eq (u64 hr)) (od_eq (u64 hr)) (e_callB (cd_sumS (by rfl)) (a_cons (e_ix (u1 hr) (e_var 0) e_int) a_nil) (by rfl) g_sum (by decide +kernel)) (e_callB (cd_sumS (by rfl)) (a_cons (e_ix (u1 hr) (e_var 0) e_int) a_nil) (by rfl) g_sum (by decide +kernel)) (e_callB (cd_sumS (by rfl)) (a_cons (e_ix (u1 hr) (e_var 0) e_int) a_nil) (by rfl) g_sum (by decide +kernel)))
  (b_cons (Γ1 := [.fz, .ow]) (s_do (e_call c_extended tk hr (by rfl) (a_cons (e_frz (e_list a_nil)) (a_cons (e_frz (e_list (a_cons e_int (a_cons e_int a_nil)))) (a_cons (e_frz (e_list (a_cons (e_call c_counted tk hr (by rfl) (a_cons (e_ix (u1 hr) (e_var 0) e_int) a_nil)) (a_cons (e_call c_counted tk hr (by rfl) (a_cons (e_ix (u1 hr) (e_var 0) e_int) a_nil)) a_nil)))) (a_cons (e_call c_counted tk hr (by rfl) (a_cons (e_ix (u1 hr) (e_var 0) e_int) a_nil)) (a_cons (e_pk 1) a_nil)))))))
  b_nil)
  b_nil)
  (b_end (s_ret (e_frz (e_callB (cd_sorted (u65 hr)) (a_cons (e_pk 1) a_nil) (by rfl) g_sorted boot_sorted)))))))) rfl rfl rfl rfl
/-! ### _law_deck -/
def N__law_deck : List Str := ["cell", "turn"]
abbrev st__law_deck : Stmt := top 21
theorem sc__law_deck : FnScope N__law_deck ["cell", "turn"] (defScope st__law_deck) := ⟨rfl, rfl, rfl, by decide +kernel, rfl, by decide +kernel, by decide +kernel⟩
def m__law_deck : SM := (sSeq (sIf (tTest (tBin oGe (.fz) (.fz) (tVar 0) (tBin oPow (.fz) (.fz) (tK (.int 10)) (tK (.int 18))))) (sLast (sRet (tLst (aCons (tBin oSub (.fz) (.fz) (tVar 0) (tBin oPow (.fz) (.fz) (tK (.int 10)) (tK (.int 18)))) (aCons (tBin oMod (.fz) (.fz) (tVar 0) (tK (.int 2147483579))) (aCons (tVar 1) aNil)))))) sNil)
  (sLast (sRet (tLst (aCons (tK (.int 0)) (aCons (tBin oMod (.fz) (.fz) (tVar 0) (tK (.int 2147483579))) (aCons (tVar 1) aNil)))))))
def t__law_deck : TD := semOf 0 [.bot, .bot] true (m__law_deck)
theorem ok__law_deck {P : Program} {w : World} {K : PySem.W.Frag} {mg : Str → Option Value} {base : Heap} {k : Nat} {f : Addr} {fd : FuncData} (FD : FunD K ("_law_deck" : Str) ("_law_deck" : Str) (defArgs st__law_deck) (defBody st__law_deck) (defScope st__law_deck) [] [] f fd) (hm : mg ("_law_deck" : Str) = some (.ref f)) :
    Fn P w K mg base (k + 1) ("_law_deck" : Str) [.fz, .fz] [.bot, .bot] .ow (t__law_deck) := by
  have nd : (N__law_deck).Nodup := sc__law_deck.nd
  exact fn_ok (ios := []) 0 FD hm sc__law_deck (fun _ _ _ _ _ _ us hl => match us, hl with | [_, _], _ => rfl) (fun cdv A outer s H E σ0 hr tk hp =>
  (b_cons (Γ1 := [.fz, .fz]) (s_if (t_cmp od_ge (e_var 0) (e_bin od_pow e_int e_int))
  (b_end (s_ret (e_list (a_cons (e_bin od_sub (e_var 0) (e_bin od_pow e_int e_int)) (a_cons (e_bin od_mod (e_var 0) e_int) (a_cons (e_var 1) a_nil))))))
  b_nil)
  (b_end (s_ret (e_list (a_cons e_int (a_cons (e_bin od_mod (e_var 0) e_int) (a_cons (e_var 1) a_nil)))))))) rfl rfl rfl rfl
/-! ### _law_pick -/
def N__law_pick : List Str := ["deck", "many", "found", "number"]
abbrev st__law_pick : Stmt := top 22
theorem sc__law_pick : FnScope N__law_pick ["deck", "many"] (defScope st__law_pick) := ⟨rfl, rfl, rfl, by decide +kernel, rfl, by decide +kernel, by decide +kernel⟩
def m__law_pick : SM := (sSeq (sIf (tTest (tBin oGt (.fz) (.fz) (tBin oIx (.pk 0) (.fz) (tPk 0) (tK (.int 0))) (tK (.int 1)))) (sSeq (sSet 2 (tBin oMod (.fz) (.fz) (tBin oIx (.pk 0) (.fz) (tPk 0) (tK (.int 0))) (tVar 1)))
  (sSeq (sSub 0 (tK (.int 0)) (tBin oDiv (.fz) (.fz) (tBin oIx (.pk 0) (.fz) (tPk 0) (tK (.int 0))) (tVar 1)))
  (sLast (sRet (tVar 2))))) sNil)
  (sSeq (sSub 0 (tK (.int 2)) (tBin oAdd (.fz) (.fz) (tBin oIx (.pk 0) (.fz) (tPk 0) (tK (.int 2))) (tK (.int 1))))
  (sSeq (sSet 3 (tBin oMod (.fz) (.fz) (tBin oPow (.ow) (.fz) (tBin oAdd (.fz) (.fz) (tBin oIx (.pk 0) (.fz) (tPk 0) (tK (.int 1))) (tBin oMulI (.fz) (.fz) (tK (.int 15485867)) (tBin oIx (.pk 0) (.fz) (tPk 0) (tK (.int 2))))) (tK (.int 5))) (tK (.int 2147483647))))
  (sSeq (sSet 2 (tBin oDiv (.fz) (.fz) (tBin oMod (.fz) (.fz) (tBin oPow (.ow) (.fz) (tBin oAdd (.fz) (.fz) (tVar 3) (tBin oMulI (.fz) (.fz) (tK (.int 7919)) (tBin oIx (.pk 0) (.fz) (tPk 0) (tK (.int 2))))) (tK (.int 3))) (tK (.int 2147483629))) (tK (.int 32))))
  (sSeq (sIf (tTest (tBin oGt (.fz) (.fz) (tVar 1) (tK (.int 1000000)))) (sLast (sRet (tBin oMod (.ow) (.fz) (tBin oAdd (.fz) (.fz) (tBin oMulI (.fz) (.fz) (tVar 2) (tK (.int 2147483563))) (tVar 3)) (tVar 1)))) sNil)
  (sLast (sRet (tBin oMod (.fz) (.fz) (tVar 2) (tVar 1)))))))))
def t__law_pick : TD := semOf 2 [.ow, .bot] true (m__law_pick)
theorem ok__law_pick {P : Program} {w : World} {K : PySem.W.Frag} {mg : Str → Option Value} {base : Heap} {k : Nat} {f : Addr} {fd : FuncData} (FD : FunD K ("_law_pick" : Str) ("_law_pick" : Str) (defArgs st__law_pick) (defBody st__law_pick) (defScope st__law_pick) [] [] f fd) (hm : mg ("_law_pick" : Str) = some (.ref f)) :
    Fn P w K mg base (k + 1) ("_law_pick" : Str) [.ow, .fz] [.ow, .bot] .fz (t__law_pick) := by
  have nd : (N__law_pick).Nodup := sc__law_pick.nd
  exact fn_ok (ios := [0]) 2 FD hm sc__law_pick (fun _ _ _ _ _ _ us hl => match us, hl with | [_, _], _ => rfl) (fun cdv A outer s H E σ0 hr tk hp =>
  (b_cons (Γ1 := [.ow, .fz, .bot, .bot]) (s_if (t_cmp od_gt (e_ix (u1 hr) (e_pk 0) e_int) e_int)
  (b_cons (Γ1 := [.ow, .fz, .fz, .bot]) (s_set 2 nd (e_bin od_mod (e_ix (u1 hr) (e_pk 0) e_int) (e_var 1)))
  (b_cons (Γ1 := [.ow, .fz, .fz, .bot]) (s_sub 0 (e_bin od_div (e_ix (u1 hr) (e_pk 0) e_int) (e_var 1)) e_int)
  (b_end (s_ret (e_var 2)))))
  b_nil)
  (b_cons (Γ1 := [.ow, .fz, .bot, .bot]) (s_sub 0 (e_frz (e_bin od_add (e_ix (u1 hr) (e_pk 0) e_int) e_int)) e_int)
  (b_cons (Γ1 := [.ow, .fz, .bot, .fz]) (s_set 3 nd (e_bin od_mod (e_bin od_pow (e_bin od_add (e_ix (u1 hr) (e_pk 0) e_int) (e_bin od_mulI e_int (e_ix (u1 hr) (e_pk 0) e_int))) e_int) e_int))
  (b_cons (Γ1 := [.ow, .fz, .fz, .fz]) (s_set 2 nd (e_bin od_div (e_bin od_mod (e_bin od_pow (e_bin od_add (e_var 3) (e_bin od_mulI e_int (e_ix (u1 hr) (e_pk 0) e_int))) e_int) e_int) e_int))
  (b_cons (Γ1 := [.ow, .fz, .fz, .fz]) (s_if (t_cmp od_gt (e_var 1) e_int)
  (b_end (s_ret (e_bin od_mod (e_bin od_add (e_bin od_mulI (e_var 2) e_int) (e_var 3)) (e_var 1))))
  b_nil)
  (b_end (s_ret (e_bin od_mod (e_var 2) (e_var 1)))))))))) rfl rfl rfl rfl
/-! ### _law_line -/
def N__law_line : List Str := ["deck", "most", "many", "few", "marks", "line", "k"]
abbrev st__law_line : Stmt := top 23
theorem sc__law_line : FnScope N__law_line ["deck", "most"] (defScope st__law_line) := ⟨rfl, rfl, rfl, by decide +kernel, rfl, by decide +kernel, by decide +kernel⟩
def m__law_line (s__law_pick : TD) : SM := (sSeq (sSet 2 (tBin oIx (.ow) (.fz) (tLst (aCons (tVar 1) (aCons (tBin oAdd (.fz) (.fz) (tK (.int 1)) (tCallD [.pk 0, .fz] [.ow, .bot] s__law_pick (aCons (tPk 0) (aCons (tVar 1) aNil)))) (aCons (tBin oAdd (.fz) (.fz) (tK (.int 1)) (tCallD [.pk 0, .fz] [.ow, .bot] s__law_pick (aCons (tPk 0) (aCons (tVar 1) aNil)))) aNil)))) (tCallD [.pk 0, .fz] [.ow, .bot] s__law_pick (aCons (tPk 0) (aCons (tK (.int 3)) aNil)))))
  (sSeq (sSet 3 (tBin oIx (.ow) (.fz) (tLst (aCons (tBin oAdd (.fz) (.fz) (tK (.int 1)) (tCallD [.pk 0, .fz] [.ow, .bot] s__law_pick (aCons (tPk 0) (aCons (tK (.int 3)) aNil)))) (aCons (tK (.int 9)) (aCons (tK (.int 3)) (aCons (tBin oPow (.fz) (.fz) (tK (.int 10)) (tK (.int 13))) aNil))))) (tCallD [.pk 0, .fz] [.ow, .bot] s__law_pick (aCons (tPk 0) (aCons (tK (.int 4)) aNil)))))
  (sSeq (sSet 4 (tBin oIx (.ow) (.fz) (tLst (aCons (tLst (aCons (tK (.str ("a" : Str))) (aCons (tK (.str ("b" : Str))) (aCons (tK (.str ("ab" : Str))) aNil)))) (aCons (tLst (aCons (tK (.str ("a" : Str))) (aCons (tK (.str ("b" : Str))) aNil))) (aCons (tLst (aCons (tK (.str ("a" : Str))) (aCons (tK (.str ("a" : Str))) (aCons (tK (.str ("b" : Str))) aNil)))) (aCons (tLst (aCons (tK (.str ("ab" : Str))) (aCons (tK (.str ("a" : Str))) (aCons (tK (.str ("b" : Str))) (aCons (tK (.str ("b" : Str))) aNil))))) aNil))))) (tCallD [.pk 0, .fz] [.ow, .bot] s__law_pick (aCons (tPk 0) (aCons (tK (.int 4)) aNil)))))
  (sSeq (sSet 5 (tLC (iR (aCons (tVar 2) aNil)) (gN 6) cYes (tTup (aCons (tBin oAdd (.fz) (.fz) (tK (.int 1)) (tCallD [.pk 0, .fz] [.ow, .bot] s__law_pick (aCons (tPk 0) (aCons (tVar 3) aNil)))) (aCons (tBin oIx (.fz) (.fz) (tVar 4) (tCallD [.pk 0, .fz] [.ow, .bot] s__law_pick (aCons (tPk 0) (aCons (tCB oLen [.fz] (aCons (tVar 4) aNil)) aNil)))) aNil)))))
  (sLast (sRet (tBin oAdd (.ow) (.ow) (tSl (.pk 5) (tPk 5) pNone (pSome (tNegD (tK (.int 1))))) (tLst (aCons (tTup (aCons (tBin oIx (.fz) (.fz) (tBin oIx (.pk 5) (.fz) (tPk 5) (tNegD (tK (.int 1)))) (tK (.int 0))) (aCons (tK (.str ("ab" : Str))) aNil))) aNil)))))))))
def t__law_line (s__law_pick : TD) : TD := semOf 5 [.ow, .bot] true (m__law_line s__law_pick)
theorem ok__law_line {P : Program} {w : World} {K : PySem.W.Frag} {mg : Str → Option Value} {base : Heap} {k : Nat} {f : Addr} {fd : FuncData} {s__law_pick : TD} (FD : FunD K ("_law_line" : Str) ("_law_line" : Str) (defArgs st__law_line) (defBody st__law_line) (defScope st__law_line) [] [] f fd) (hm : mg ("_law_line" : Str) = some (.ref f)) (c__law_pick : Fn P w K mg base k ("_law_pick" : Str) [.ow, .fz] [.ow, .bot] .fz s__law_pick) (g_len : mg ("len" : Str) = none) (g_range : mg ("range" : Str) = none) :
    Fn P w K mg base (k + 1) ("_law_line" : Str) [.ow, .fz] [.ow, .bot] .fz (t__law_line s__law_pick) := by
  have nd : (N__law_line).Nodup := sc__law_line.nd
  exact fn_ok (ios := [0]) 5 FD hm sc__law_line (fun _ _ _ _ _ _ us hl => match us, hl with | [_, _], _ => rfl) (fun cdv A outer s H E σ0 hr tk hp =>
  (b_cons (Γ1 := [.ow, .fz, .fz, .bot, .bot, .bot, .bot]) (s_set 2 nd (e_ix (u1 hr) (e_list (a_cons (e_var 1) (a_cons (e_frz (e_bin od_add e_int (e_call c__law_pick tk hr (by rfl) (a_cons (e_pk 0) (a_cons (e_var 1) a_nil))))) (a_cons (e_frz (e_bin od_add e_int (e_call c__law_pick tk hr (by rfl) (a_cons (e_pk 0) (a_cons (e_var 1) a_nil))))) a_nil)))) (e_call c__law_pick tk hr (by rfl) (a_cons (e_pk 0) (a_cons e_int a_nil)))))
  (b_cons (Γ1 := [.ow, .fz, .fz, .fz, .bot, .bot, .bot]) (s_set 3 nd (e_ix (u1 hr) (e_list (a_cons (e_frz (e_bin od_add e_int (e_call c__law_pick tk hr (by rfl) (a_cons (e_pk 0) (a_cons e_int a_nil))))) (a_cons e_int (a_cons e_int (a_cons (e_bin od_pow e_int e_int) a_nil))))) (e_call c__law_pick tk hr (by rfl) (a_cons (e_pk 0) (a_cons e_int a_nil)))))
  (b_cons (Γ1 := [.ow, .fz, .fz, .fz, .fz, .bot, .bot]) (s_set 4 nd (e_ix (u1 hr) (e_list (a_cons (e_frz (e_list (a_cons e_str (a_cons e_str (a_cons e_str a_nil))))) (a_cons (e_frz (e_list (a_cons e_str (a_cons e_str a_nil)))) (a_cons (e_frz (e_list (a_cons e_str (a_cons e_str (a_cons e_str a_nil))))) (a_cons (e_frz (e_list (a_cons e_str (a_cons e_str (a_cons e_str (a_cons e_str a_nil)))))) a_nil))))) (e_call c__law_pick tk hr (by rfl) (a_cons (e_pk 0) (a_cons e_int a_nil)))))
  (b_cons (Γ1 := [.ow, .fz, .fz, .fz, .fz, .ow, .bot]) (s_setLc (Γb := [.ow, .fz, .fz, .fz, .fz, .bot, .bot]) 5 [(("k" : Str), 6)] (by rfl) nd (i_range1 (a_cons (e_var 2) a_nil) (by rfl) g_range) (blkOk_by (N := N__law_line) (sc := defScope st__law_line) (by decide +kernel)) (fun _ _ _ _ _ _ => (g_name 6 nd)) (fun _ _ _ _ _ => c_nil) (fun _ _ _ _ _ => (e_tuple (a_cons (e_frz (e_bin od_add e_int (e_call c__law_pick takesN hr (by rfl) (a_cons (e_pk 0) (a_cons (e_var 3) a_nil))))) (a_cons (e_ix (u1 hr) (e_var 4) (e_call c__law_pick takesN hr (by rfl) (a_cons (e_pk 0) (a_cons (e_callB cd_len (a_cons (e_var 4) a_nil) (by rfl) g_len boot_len) a_nil)))) a_nil)))))
  (b_end (s_ret (e_frz (e_bin od_add (e_slice (e_pk 5) p_none (p_some (e_neg e_int))) (e_list (a_cons (e_tuple (a_cons (e_ix (u1 hr) (e_ix (u1 hr) (e_pk 5) (e_neg e_int)) e_int) (a_cons e_str a_nil))) a_nil))))))))))) rfl rfl rfl rfl
/-! ### _law_counts -/
def N__law_counts : List Str := ["line", "marks", "found", "length", "mark", "knife"]
abbrev st__law_counts : Stmt := top 24
theorem sc__law_counts : FnScope N__law_counts ["line"] (defScope st__law_counts) := ⟨rfl, rfl, rfl, by decide +kernel, rfl, by decide +kernel, by decide +kernel⟩
def m__law_counts : SM := (sSeq (sSet 1 (tLC (iD (tVar 0)) (gS 2 (gsCons (gN 3) (gsCons (gN 4) gsNil))) cYes (tVar 4)))
  (sSeq (sSet 2 (tLC (iD (tK (.str ("ab" : Str)))) (gN 5) cYes (tCB oLen [.ow] (aCons (tLC (iD (tVar 1)) (gN 4) (tTest (tBin (oIn false) (.fz) (.fz) (tVar 5) (tVar 4))) (tVar 4)) aNil))))
  (sLast (sRet (tBin oAdd (.pk 2) (.ow) (tPk 2) (tLst (aCons (tCB oLen [.fz] (aCons (tVar 0) aNil)) aNil)))))))
def t__law_counts : TD := semOf 5 [.bot] true (m__law_counts)
theorem ok__law_counts {P : Program} {w : World} {K : PySem.W.Frag} {mg : Str → Option Value} {base : Heap} {k : Nat} {f : Addr} {fd : FuncData} (FD : FunD K ("_law_counts" : Str) ("_law_counts" : Str) (defArgs st__law_counts) (defBody st__law_counts) (defScope st__law_counts) [] [] f fd) (hm : mg ("_law_counts" : Str) = some (.ref f)) (g_len : mg ("len" : Str) = none) :
    Fn P w K mg base (k + 1) ("_law_counts" : Str) [.fz] [.bot] .fz (t__law_counts) := by
  have nd : (N__law_counts).Nodup := sc__law_counts.nd
  exact fn_ok (ios := []) 5 FD hm sc__law_counts (fun _ _ _ _ _ _ us hl => match us, hl with | [_], _ => rfl) (fun cdv A outer s H E σ0 hr tk hp =>
  (b_cons (Γ1 := [.fz, .fz, .bot, .bot, .bot, .bot]) (s_set 1 nd (e_frz (e_lc (Γb := [.fz, .bot, .bot, .bot, .bot, .bot]) [(("length" : Str), 3), (("mark" : Str), 4)] (by rfl) nd (i_seq (e_var 0)) (blkOk_by (N := N__law_counts) (sc := defScope st__law_counts) (by decide +kernel)) (fun _ _ _ _ _ _ => (g_seq 2 (by rfl) (gs_cons (g_name 3 nd) (gs_cons (g_name 4 nd) gs_nil)))) (fun _ _ _ _ _ => c_nil) (fun _ _ _ _ _ => (e_var 4)))))
  (b_cons (Γ1 := [.fz, .fz, .ow, .bot, .bot, .bot]) (s_setLc (Γb := [.fz, .fz, .bot, .bot, .bot, .bot]) 2 [(("knife" : Str), 5)] (by rfl) nd (i_seq e_str) (blkOk_by (N := N__law_counts) (sc := defScope st__law_counts) (by decide +kernel)) (fun _ _ _ _ _ _ => (g_name 5 nd)) (fun _ _ _ _ _ => c_nil) (fun _ _ _ _ _ => (e_callB cd_len (a_cons (e_lc (Γb := [.fz, .fz, .bot, .bot, .bot, .fz]) [(("mark" : Str), 4)] (by rfl) nd (i_seq (e_var 1)) (blkOk_by (N := N__law_counts) (by rfl)) (fun _ _ _ _ _ _ => (g_name 4 nd)) (fun _ _ _ _ _ => (c_one (t_cmp (od_in (u65 hr)) (e_var 5) (e_var 4)))) (fun _ _ _ _ _ => (e_var 4))) a_nil) (by rfl) g_len boot_len)))
  (b_end (s_ret (e_frz (e_bin od_add (e_pk 2) (e_list (a_cons (e_callB cd_len (a_cons (e_var 0) a_nil) (by rfl) g_len boot_len) a_nil))))))))) rfl rfl rfl rfl
/-! ### _law_lines -/
def N__law_lines : List Str := ["book", "found"]
abbrev st__law_lines : Stmt := top 25
theorem sc__law_lines : FnScope N__law_lines ["book"] (defScope st__law_lines) := ⟨rfl, rfl, rfl, by decide +kernel, rfl, by decide +kernel, by decide +kernel⟩
def m__law_lines (s_lines_of : TD) : SM := (sSeq (sSet 1 (tK .none))
  (sSeq (sTryO [("TooMany" : Str)] (sSeq (sSet 1 (tCallD [.fz] [.bot] s_lines_of (aCons (tVar 0) aNil)))
  sNil) (sSeq (sSet 1 (tK .none))
  sNil))
  (sLast (sRet (tVar 1)))))
def t__law_lines (s_lines_of : TD) : TD := semOf 1 [.bot] true (m__law_lines s_lines_of)
theorem ok__law_lines {P : Program} {w : World} {K : PySem.W.Frag} {mg : Str → Option Value} {base : Heap} {k : Nat} {f : Addr} {fd : FuncData} {s_lines_of : TD} (FD : FunD K ("_law_lines" : Str) ("_law_lines" : Str) (defArgs st__law_lines) (defBody st__law_lines) (defScope st__law_lines) [] [] f fd) (hm : mg ("_law_lines" : Str) = some (.ref f)) (c_lines_of : Fn P w K mg base k ("lines_of" : Str) [.fz] [.bot] .fz s_lines_of) (xf : XFacts xt K mg) (n_TooMany : mg ("TooMany" : Str) = some (.ref (He.ga K ("TooMany" : Str)))) :
    Fn P w K mg base (k + 1) ("_law_lines" : Str) [.fz] [.bot] .fz (t__law_lines s_lines_of) := by
  have nd : (N__law_lines).Nodup := sc__law_lines.nd
  exact fn_ok (ios := []) 1 FD hm sc__law_lines (fun _ _ _ _ _ _ us hl => match us, hl with | [_], _ => rfl) (fun cdv A outer s H E σ0 hr tk hp =>
  (b_cons (Γ1 := [.fz, .fz]) (s_set 1 nd e_non)
  (b_cons (Γ1 := [.fz, .fz]) (s_tryO [("TooMany" : Str)] [.fz, .fz] rfl rfl ⟨by rfl, by decide, .inl n_TooMany⟩ tk (xf.one (by decide)) (fun W' pn xe tk hp =>
  (b_cons (Γ1 := [.fz, .fz]) (s_set 1 nd (e_call c_lines_of tk hr (by rfl) (a_cons (e_var 0) a_nil)))
  b_nil)) (fun a oe pn =>
  (b_cons (Γ1 := [.fz, .fz]) (s_set 1 nd e_non)
  b_nil)))
  (b_end (s_ret (e_var 1)))))) rfl rfl rfl rfl
/-! ### _law_without -/
def N__law_without : List Str := ["lengths", "some", "rest", "one"]
abbrev st__law_without : Stmt := top 26
theorem sc__law_without : FnScope N__law_without ["lengths", "some"] (defScope st__law_without) := ⟨rfl, rfl, rfl, by decide +kernel, rfl, by decide +kernel, by decide +kernel⟩
def m__law_without : SM := (sSeq (sSet 2 (tCB oList [.fz] (aCons (tVar 0) aNil)))
  (sSeq (sFor (iD (tVar 1)) (gN 3) (sSeq (sIf (tTest (tBin (oIn true) (.fz) (.pk 2) (tVar 3) (tPk 2))) (sLast (sRet (tK .none))) sNil)
  (sSeq (sDo (mMut 2 oRem [.fz] (aCons (tVar 3) aNil)))
  sNil)))
  (sLast (sRet (tVar 2)))))
def t__law_without : TD := semOf 2 [.bot, .bot] true (m__law_without)
theorem ok__law_without {P : Program} {w : World} {K : PySem.W.Frag} {mg : Str → Option Value} {base : Heap} {k : Nat} {f : Addr} {fd : FuncData} (FD : FunD K ("_law_without" : Str) ("_law_without" : Str) (defArgs st__law_without) (defBody st__law_without) (defScope st__law_without) [] [] f fd) (hm : mg ("_law_without" : Str) = some (.ref f)) (g_list : mg ("list" : Str) = none) :
    Fn P w K mg base (k + 1) ("_law_without" : Str) [.fz, .fz] [.bot, .bot] .fz (t__law_without) := by
  have nd : (N__law_without).Nodup := sc__law_without.nd
  exact fn_ok (ios := []) 2 FD hm sc__law_without (fun _ _ _ _ _ _ us hl => match us, hl with | [_, _], _ => rfl) (fun cdv A outer s H E σ0 hr tk hp =>
  (b_cons (Γ1 := [.fz, .fz, .ow, .bot]) (s_set 2 nd (e_callT cd_list (a_cons (e_var 0) a_nil) (by rfl) g_list boot_list))
  (b_cons (Γ1 := [.fz, .fz, .ow, .bot]) (s_for hp (by rfl) (i_seq (e_var 1)) (g_name 3 nd)
  (b_cons (Γ1 := [.fz, .fz, .ow, .fz]) (s_if (t_cmp (od_notin (u65 hr)) (e_var 3) (e_pk 2))
  (b_end (s_ret e_non))
  b_nil)
  (b_cons (Γ1 := [.fz, .fz, .ow, .fz]) (s_do (e_mut 2 md_remove PySem.F.slot_list_remove PySem.F.type_list_remove (a_cons (e_var 3) a_nil)))
  b_nil)))
  (b_end (s_ret (e_varF 2 (e_var 2))))))) rfl rfl rfl rfl
/-! ### _law_merged_right -/
def N__law_merged_right : List Str := ["before", "after", "gone", "come", "one", "other", "rest"]
abbrev st__law_merged_right : Stmt := top 27
theorem sc__law_merged_right : FnScope N__law_merged_right ["before", "after"] (defScope st__law_merged_right) := ⟨rfl, rfl, rfl, by decide +kernel, rfl, by decide +kernel, by decide +kernel⟩
def m__law_merged_right (s__law_without : TD) : SM := (sSeq (sSet 2 (tLC (iD (tSrtSetT (.fz) (tVar 0))) (gN 4) (tTest (tBin oGt (.fz) (.fz) (tCount (.ow) (tCB oList [.fz] (aCons (tVar 0) aNil)) (tVar 4)) (tCount (.ow) (tCB oList [.fz] (aCons (tVar 1) aNil)) (tVar 4)))) (tVar 4)))
  (sSeq (sSet 3 (tLC (iD (tSrtSetT (.fz) (tVar 1))) (gN 4) (tTest (tBin oGt (.fz) (.fz) (tCount (.ow) (tCB oList [.fz] (aCons (tVar 1) aNil)) (tVar 4)) (tCount (.ow) (tCB oList [.fz] (aCons (tVar 0) aNil)) (tVar 4)))) (tVar 4)))
  (sSeq (sIf (cOr (tTest (tBin oGt (.fz) (.fz) (tCB oLen [.pk 3] (aCons (tPk 3) aNil)) (tK (.int 1)))) (tTest (tBin oNe (.fz) (.fz) (tCB oLen [.fz] (aCons (tVar 1) aNil)) (tBin oSub (.fz) (.fz) (tCB oLen [.fz] (aCons (tVar 0) aNil)) (tK (.int 1)))))) (sLast (sRet (tK (.bool false)))) sNil)
  (sSeq (sFor (iD (tVar 2)) (gN 4) (sSeq (sFor (iD (tVar 2)) (gN 5) (sSeq (sSet 6 (tCallD [.fz, .fz] [.bot, .bot] s__law_without (aCons (tVar 0) (aCons (tLst (aCons (tVar 4) (aCons (tVar 5) aNil))) aNil))))
  (sSeq (sIf (cAnd (tTest (tBin (oIs true) (.fz) (.fz) (tVar 6) (tK .none))) (tTest (tBin oEq (.ow) (.ow) (tCB oSorted [.ow] (aCons (tBin oAdd (.fz) (.ow) (tVar 6) (tLst (aCons (tBin oAdd (.fz) (.fz) (tVar 4) (tVar 5)) aNil))) aNil)) (tCB oList [.fz] (aCons (tVar 1) aNil))))) (sLast (sRet (tK (.bool true)))) sNil)
  sNil)))
  sNil))
  (sLast (sRet (tK (.bool false))))))))
def t__law_merged_right (s__law_without : TD) : TD := semOf 5 [.bot, .bot] true (m__law_merged_right s__law_without)
theorem ok__law_merged_right {P : Program} {w : World} {K : PySem.W.Frag} {mg : Str → Option Value} {base : Heap} {k : Nat} {f : Addr} {fd : FuncData} {s__law_without : TD} (FD : FunD K ("_law_merged_right" : Str) ("_law_merged_right" : Str) (defArgs st__law_merged_right) (defBody st__law_merged_right) (defScope st__law_merged_right) [] [] f fd) (hm : mg ("_law_merged_right" : Str) = some (.ref f)) (c__law_without : Fn P w K mg base k ("_law_without" : Str) [.fz, .fz] [.bot, .bot] .fz s__law_without) (g_len : mg ("len" : Str) = none) (g_list : mg ("list" : Str) = none) (g_set : mg ("set" : Str) = none) (g_sorted : mg ("sorted" : Str) = none) :
    Fn P w K mg base (k + 1) ("_law_merged_right" : Str) [.fz, .fz] [.bot, .bot] .fz (t__law_merged_right s__law_without) := by
  have nd : (N__law_merged_right).Nodup := sc__law_merged_right.nd
  exact fn_ok (ios := []) 5 FD hm sc__law_merged_right (fun _ _ _ _ _ _ us hl => match us, hl with | [_, _], _ => rfl) (fun cdv A outer s H E σ0 hr tk hp =>
  (b_cons (Γ1 := [.fz, .fz, .ow, .bot, .bot, .bot, .bot]) (s_setLc (Γb := [.fz, .fz, .bot, .bot, .bot, .bot, .bot]) 2 [(("one" : Str), 4)] (by rfl) nd (i_seq (e_frz (e_srtSetT (by rfl) (e_var 0) (by rfl) g_sorted (by rfl) g_set))) (blkOk_by (N := N__law_merged_right) (sc := defScope st__law_merged_right) (by decide +kernel)) (fun _ _ _ _ _ _ => (g_name 4 nd)) (fun _ _ _ _ _ => (c_one (t_cmp od_gt (e_count (e_callT cd_list (a_cons (e_var 0) a_nil) (by rfl) g_list boot_list) (e_var 4)) (e_count (e_callT cd_list (a_cons (e_var 1) a_nil) (by rfl) g_list boot_list) (e_var 4))))) (fun _ _ _ _ _ => (e_var 4)))
  (b_cons (Γ1 := [.fz, .fz, .ow, .ow, .bot, .bot, .bot]) (s_setLc (Γb := [.fz, .fz, .ow, .bot, .bot, .bot, .bot]) 3 [(("one" : Str), 4)] (by rfl) nd (i_seq (e_frz (e_srtSetT (by rfl) (e_var 1) (by rfl) g_sorted (by rfl) g_set))) (blkOk_by (N := N__law_merged_right) (sc := defScope st__law_merged_right) (by decide +kernel)) (fun _ _ _ _ _ _ => (g_name 4 nd)) (fun _ _ _ _ _ => (c_one (t_cmp od_gt (e_count (e_callT cd_list (a_cons (e_var 1) a_nil) (by rfl) g_list boot_list) (e_var 4)) (e_count (e_callT cd_list (a_cons (e_var 0) a_nil) (by rfl) g_list boot_list) (e_var 4))))) (fun _ _ _ _ _ => (e_var 4)))
  (b_cons (Γ1 := [.fz, .fz, .ow, .ow, .bot, .bot, .bot]) (s_if (WOk.to (w_or (t_cmp od_gt (e_callB cd_len (a_cons (e_pk 3) a_nil) (by rfl) g_len boot_len) e_int) (w_or1 (t_cmp (od_ne (u64 hr)) (e_callB cd_len (a_cons (e_var 1) a_nil) (by rfl) g_len boot_len) (e_bin od_sub (e_callB cd_len (a_cons (e_var 0) a_nil) (by rfl) g_len boot_len) e_int)))))
  (b_end (s_ret e_bl))
  b_nil)
  (b_cons (Γ1 := [.fz, .fz, .fz, .ow, .bot, .bot, .bot]) (s_for hp (by rfl) (i_seq (e_varF 2 (e_var 2))) (g_name 4 nd)
  (b_cons (Γ1 := [.fz, .fz, .fz, .ow, .fz, .bot, .bot]) (s_for hp (by rfl) (i_seq (e_var 2)) (g_name 5 nd)
  (b_cons (Γ1 := [.fz, .fz, .fz, .ow, .fz, .fz, .fz]) (s_set 6 nd (e_call c__law_without tk hr (by rfl) (a_cons (e_var 0) (a_cons (e_frz (e_list (a_cons (e_var 4) (a_cons (e_var 5) a_nil)))) a_nil))))
  (b_cons (Γ1 := [.fz, .fz, .fz, .ow, .fz, .fz, .fz]) (s_if (WOk.to (w_and (t_cmp od_isnot (e_var 6) e_non) (w_and1 (t_cmp (od_eq (u64 hr)) (e_callB (cd_sorted (u65 hr)) (a_cons (e_bin od_add (e_var 6) (e_list (a_cons (e_frz (e_bin od_add (e_var 4) (e_var 5))) a_nil))) a_nil) (by rfl) g_sorted boot_sorted) (e_callT cd_list (a_cons (e_var 1) a_nil) (by rfl) g_list boot_list)))))
  (b_end (s_ret e_bl))
  b_nil)
  b_nil)))
  b_nil))
  (b_end (s_ret e_bl))))))) rfl rfl rfl rfl
/-! ### _law_one_less -/
def N__law_one_less : List Str := ["deck", "line", "spots", "at", "which", "k"]
abbrev st__law_one_less : Stmt := top 28
theorem sc__law_one_less : FnScope N__law_one_less ["deck", "line"] (defScope st__law_one_less) := ⟨rfl, rfl, rfl, by decide +kernel, rfl, by decide +kernel, by decide +kernel⟩
def m__law_one_less (s__law_pick : TD) : SM := (sSeq (sSet 2 (tLC (iR (aCons (tBin oSub (.fz) (.fz) (tCB oLen [.fz] (aCons (tVar 1) aNil)) (tK (.int 1))) aNil)) (gN 5) (tTest (tBin oEq (.fz) (.fz) (tBin oIx (.fz) (.fz) (tBin oIx (.fz) (.fz) (tVar 1) (tVar 5)) (tK (.int 1))) (tK (.str ("ab" : Str))))) (tVar 5)))
  (sSeq (sIf (tTest (tBin oEq (.pk 2) (.ow) (tPk 2) (tLst aNil))) (sLast (sRet (tTup (aCons (tK .none) (aCons (tK (.int 0)) aNil))))) sNil)
  (sSeq (sSet 3 (tBin oIx (.pk 2) (.fz) (tPk 2) (tCallD [.pk 0, .fz] [.ow, .bot] s__law_pick (aCons (tPk 0) (aCons (tCB oLen [.pk 2] (aCons (tPk 2) aNil)) aNil)))))
  (sSeq (sSet 4 (tCallD [.pk 0, .fz] [.ow, .bot] s__law_pick (aCons (tPk 0) (aCons (tK (.int 2)) aNil))))
  (sLast (sRet (tTup (aCons (tBin oAdd (.ow) (.ow) (tBin oAdd (.ow) (.ow) (tSl (.fz) (tVar 1) pNone (pSome (tVar 3))) (tLst (aCons (tTup (aCons (tBin oIx (.fz) (.fz) (tBin oIx (.fz) (.fz) (tVar 1) (tVar 3)) (tK (.int 0))) (aCons (tBin oIx (.fz) (.fz) (tK (.str ("ba" : Str))) (tVar 4)) aNil))) aNil))) (tSl (.fz) (tVar 1) (pSome (tBin oAdd (.fz) (.fz) (tVar 3) (tK (.int 1)))) pNone)) (aCons (tVar 4) aNil)))))))))
def t__law_one_less (s__law_pick : TD) : TD := semOf 4 [.ow, .bot] true (m__law_one_less s__law_pick)
theorem ok__law_one_less {P : Program} {w : World} {K : PySem.W.Frag} {mg : Str → Option Value} {base : Heap} {k : Nat} {f : Addr} {fd : FuncData} {s__law_pick : TD} (FD : FunD K ("_law_one_less" : Str) ("_law_one_less" : Str) (defArgs st__law_one_less) (defBody st__law_one_less) (defScope st__law_one_less) [] [] f fd) (hm : mg ("_law_one_less" : Str) = some (.ref f)) (c__law_pick : Fn P w K mg base k ("_law_pick" : Str) [.ow, .fz] [.ow, .bot] .fz s__law_pick) (g_len : mg ("len" : Str) = none) (g_range : mg ("range" : Str) = none) :
    Fn P w K mg base (k + 1) ("_law_one_less" : Str) [.ow, .fz] [.ow, .bot] .fz (t__law_one_less s__law_pick) := by
  have nd : (N__law_one_less).Nodup := sc__law_one_less.nd
  exact fn_ok (ios := [0]) 4 FD hm sc__law_one_less (fun _ _ _ _ _ _ us hl => match us, hl with | [_, _], _ => rfl) (fun cdv A outer s H E σ0 hr tk hp =>
  (b_cons (Γ1 := [.ow, .fz, .ow, .bot, .bot, .bot]) (s_setLc (Γb := [.ow, .fz, .bot, .bot, .bot, .bot]) 2 [(("k" : Str), 5)] (by rfl) nd (i_range1 (a_cons (e_bin od_sub (e_callB cd_len (a_cons (e_var 1) a_nil) (by rfl) g_len boot_len) e_int) a_nil) (by rfl) g_range) (blkOk_by (N := N__law_one_less) (sc := defScope st__law_one_less) (by decide +kernel)) (fun _ _ _ _ _ _ => (g_name 5 nd)) (fun _ _ _ _ _ => (c_one (t_cmp (od_eq (u64 hr)) (e_ix (u1 hr) (e_ix (u1 hr) (e_var 1) (e_var 5)) e_int) e_str))) (fun _ _ _ _ _ => (e_var 5)))
  (b_cons (Γ1 := [.ow, .fz, .ow, .bot, .bot, .bot]) (s_if (t_cmp (od_eq (u64 hr)) (e_pk 2) (e_list a_nil))
  (b_end (s_ret (e_tuple (a_cons e_non (a_cons e_int a_nil)))))
  b_nil)
  (b_cons (Γ1 := [.ow, .fz, .ow, .fz, .bot, .bot]) (s_set 3 nd (e_ix (u1 hr) (e_pk 2) (e_call c__law_pick tk hr (by rfl) (a_cons (e_pk 0) (a_cons (e_callB cd_len (a_cons (e_pk 2) a_nil) (by rfl) g_len boot_len) a_nil)))))
  (b_cons (Γ1 := [.ow, .fz, .ow, .fz, .fz, .bot]) (s_set 4 nd (e_call c__law_pick tk hr (by rfl) (a_cons (e_pk 0) (a_cons e_int a_nil))))
  (b_end (s_ret (e_tuple (a_cons (e_frz (e_bin od_add (e_bin od_add (e_slice (e_var 1) p_none (p_some (e_var 3))) (e_list (a_cons (e_tuple (a_cons (e_ix (u1 hr) (e_ix (u1 hr) (e_var 1) (e_var 3)) e_int) (a_cons (e_ix (u1 hr) e_str (e_var 4)) a_nil))) a_nil))) (e_slice (e_var 1) (p_some (e_frz (e_bin od_add (e_var 3) e_int))) p_none))) (a_cons (e_var 4) a_nil)))))))))) rfl rfl rfl rfl
/-! ### law -/
def N_law : List Str := ["script", "cell", "deck", "line", "book", "other", "which", "lines", "late", "at", "length", "mark", "part", "both", "parts", "some"]
abbrev st_law : Stmt := top 29
theorem sc_law : FnScope N_law ["script"] (defScope st_law) := ⟨rfl, rfl, rfl, by decide +kernel, rfl, by decide +kernel, by decide +kernel⟩
def m_law (s_is_line : TD) (s_book_of : TD) (s__law_deck : TD) (s__law_pick : TD) (s__law_line : TD) (s__law_counts : TD) (s__law_lines : TD) (s__law_merged_right : TD) (s__law_one_less : TD) : SM := (sSeq (sFor (iD (tSl (.ow) (tBin oAdd (.fz) (.ow) (tVar 0) (tLst (aCons (tK (.int 0)) aNil))) pNone (pSome (tK (.int 2))))) (gN 1) (sSeq (sSet 2 (tCallD [.fz, .fz] [.bot, .bot] s__law_deck (aCons (tVar 1) (aCons (tK (.int 0)) aNil))))
  (sSeq (sSet 3 (tCallD [.pk 2, .fz] [.ow, .bot] s__law_line (aCons (tPk 2) (aCons (tK (.int 7)) aNil))))
  (sSeq (sSet 4 (tCallD [.fz] [.bot] s_book_of (aCons (tVar 3) aNil)))
  (sSeq (sIf (tTest (tBin oNe (.ow) (.fz) (tLC (iD (tVar 4)) (gN 15) cYes (tCB oLen [.fz] (aCons (tVar 15) aNil))) (tCallD [.fz] [.bot] s__law_counts (aCons (tVar 3) aNil)))) (sLast (sRet (tK (.bool false)))) sNil)
  (sSeq (sAsg (tCallD [.pk 2, .fz] [.ow, .bot] s__law_one_less (aCons (tPk 2) (aCons (tVar 3) aNil))) (gS 2 (gsCons (gN 5) (gsCons (gN 6) gsNil))))
  (sSeq (sSet 7 (tCallD [.fz] [.bot] s__law_lines (aCons (tVar 4) aNil)))
  (sSeq (sIf (tTest (tBin (oIs true) (.fz) (.fz) (tVar 5) (tK .none))) (sSeq (sSet 8 (tCallD [.fz] [.bot] s_book_of (aCons (tVar 5) aNil)))
  (sSeq (sIf (cOr (cNot (tTest (tCallD [.fz] [.bot] s_is_line (aCons (tVar 5) aNil)))) (cOr (tTest (tBin oNe (.fz) (.fz) (tBin oIx (.fz) (.fz) (tVar 8) (tBin oSub (.fz) (.fz) (tK (.int 1)) (tVar 6))) (tBin oIx (.fz) (.fz) (tVar 4) (tBin oSub (.fz) (.fz) (tK (.int 1)) (tVar 6))))) (tTest (tBin oNe (.fz) (.fz) (tBin oIx (.fz) (.fz) (tVar 8) (tK (.int 2))) (tBin oIx (.fz) (.fz) (tVar 4) (tK (.int 2))))))) (sLast (sRet (tK (.bool false)))) sNil)
  (sSeq (sIf (cNot (tTest (tCallD [.fz, .fz] [.bot, .bot] s__law_merged_right (aCons (tBin oIx (.fz) (.fz) (tVar 4) (tVar 6)) (aCons (tBin oIx (.fz) (.fz) (tVar 8) (tVar 6)) aNil))))) (sLast (sRet (tK (.bool false)))) sNil)
  (sSeq (sIf (cAnd (tTest (tBin (oIs true) (.fz) (.fz) (tVar 7) (tK .none))) (tTest (tBin (oIn false) (.fz) (.fz) (tVar 5) (tVar 7)))) (sLast (sRet (tK (.bool false)))) sNil)
  sNil)))) sNil)
  (sSeq (sSet 9 (tCallD [.pk 2, .fz] [.ow, .bot] s__law_pick (aCons (tPk 2) (aCons (tCB oLen [.fz] (aCons (tVar 3) aNil)) aNil))))
  (sSeq (sAsg (tBin oIx (.fz) (.fz) (tVar 3) (tVar 9)) (gS 2 (gsCons (gN 10) (gsCons (gN 11) gsNil))))
  (sSeq (sIf (tTest (tBin oGt (.fz) (.fz) (tVar 10) (tK (.int 1)))) (sSeq (sSet 12 (tBin oAdd (.fz) (.fz) (tK (.int 1)) (tCallD [.pk 2, .fz] [.ow, .bot] s__law_pick (aCons (tPk 2) (aCons (tBin oSub (.fz) (.fz) (tVar 10) (tK (.int 1))) aNil)))))
  (sSeq (sSet 6 (tCallD [.pk 2, .fz] [.ow, .bot] s__law_pick (aCons (tPk 2) (aCons (tK (.int 2)) aNil))))
  (sSeq (sSet 13 (tLst (aCons (tTup (aCons (tVar 12) (aCons (tBin oIx (.fz) (.fz) (tK (.str ("ab" : Str))) (tVar 6)) aNil))) (aCons (tTup (aCons (tBin oSub (.fz) (.fz) (tVar 10) (tVar 12)) (aCons (tVar 11) aNil))) aNil))))
  (sSeq (sSet 14 (tBin oAdd (.ow) (.ow) (tBin oAdd (.ow) (.fz) (tSl (.fz) (tVar 3) pNone (pSome (tVar 9))) (tVar 13)) (tSl (.fz) (tVar 3) (pSome (tBin oAdd (.fz) (.fz) (tVar 9) (tK (.int 1)))) pNone)))
  (sSeq (sSet 8 (tCallD [.fz] [.bot] s_book_of (aCons (tVar 14) aNil)))
  (sSeq (sIf (cOr (cNot (tTest (tCallD [.fz] [.bot] s_is_line (aCons (tVar 14) aNil)))) (tTest (tBin oNe (.fz) (.fz) (tBin oIx (.fz) (.fz) (tVar 8) (tBin oSub (.fz) (.fz) (tK (.int 1)) (tVar 6))) (tBin oIx (.fz) (.fz) (tVar 4) (tBin oSub (.fz) (.fz) (tK (.int 1)) (tVar 6)))))) (sLast (sRet (tK (.bool false)))) sNil)
  (sSeq (sIf (cNot (tTest (tCallD [.fz, .fz] [.bot, .bot] s__law_merged_right (aCons (tBin oIx (.fz) (.fz) (tVar 8) (tK (.int 2))) (aCons (tBin oIx (.fz) (.fz) (tVar 4) (tK (.int 2))) aNil))))) (sLast (sRet (tK (.bool false)))) sNil)
  (sSeq (sIf (cNot (tTest (tCallD [.fz, .fz] [.bot, .bot] s__law_merged_right (aCons (tBin oIx (.fz) (.fz) (tVar 8) (tVar 6)) (aCons (tBin oIx (.fz) (.fz) (tVar 4) (tVar 6)) aNil))))) (sLast (sRet (tK (.bool false)))) sNil)
  (sSeq (sIf (cAnd (tTest (tBin (oIs true) (.fz) (.fz) (tVar 7) (tK .none))) (tTest (tBin (oIn false) (.fz) (.fz) (tVar 14) (tVar 7)))) (sLast (sRet (tK (.bool false)))) sNil)
  sNil))))))))) sNil)
  (sSeq (sIf (cAnd (tTest (tBin (oIs true) (.fz) (.fz) (tVar 7) (tK .none))) (tTest (tBin (oIn true) (.fz) (.fz) (tVar 3) (tVar 7)))) (sLast (sRet (tK (.bool false)))) sNil)
  sNil))))))))))))
  (sLast (sRet (tK (.bool true)))))
def t_law (s_is_line : TD) (s_book_of : TD) (s__law_deck : TD) (s__law_pick : TD) (s__law_line : TD) (s__law_counts : TD) (s__law_lines : TD) (s__law_merged_right : TD) (s__law_one_less : TD) : TD := semOf 15 [.bot] true (m_law s_is_line s_book_of s__law_deck s__law_pick s__law_line s__law_counts s__law_lines s__law_merged_right s__law_one_less)
theorem ok_law {P : Program} {w : World} {K : PySem.W.Frag} {mg : Str → Option Value} {base : Heap} {k : Nat} {f : Addr} {fd : FuncData} {s_is_line : TD} {s_book_of : TD} {s__law_deck : TD} {s__law_pick : TD} {s__law_line : TD} {s__law_counts : TD} {s__law_lines : TD} {s__law_merged_right : TD} {s__law_one_less : TD} (FD : FunD K ("law" : Str) ("law" : Str) (defArgs st_law) (defBody st_law) (defScope st_law) [] [] f fd) (c_is_line : Fn P w K mg base k ("is_line" : Str) [.fz] [.bot] .fz s_is_line) (c_book_of : Fn P w K mg base k ("book_of" : Str) [.fz] [.bot] .fz s_book_of) (c__law_deck : Fn P w K mg base k ("_law_deck" : Str) [.fz, .fz] [.bot, .bot] .ow s__law_deck) (c__law_pick : Fn P w K mg base k ("_law_pick" : Str) [.ow, .fz] [.ow, .bot] .fz s__law_pick) (c__law_line : Fn P w K mg base k ("_law_line" : Str) [.ow, .fz] [.ow, .bot] .fz s__law_line) (c__law_counts : Fn P w K mg base k ("_law_counts" : Str) [.fz] [.bot] .fz s__law_counts) (c__law_lines : Fn P w K mg base k ("_law_lines" : Str) [.fz] [.bot] .fz s__law_lines) (c__law_merged_right : Fn P w K mg base k ("_law_merged_right" : Str) [.fz, .fz] [.bot, .bot] .fz s__law_merged_right) (c__law_one_less : Fn P w K mg base k ("_law_one_less" : Str) [.ow, .fz] [.ow, .bot] .fz s__law_one_less) (g_len : mg ("len" : Str) = none) :
    FnOk P w K mg base (L2N.CX P w) (k + 1) f fd ["script"] (spD K mg [.fz] [.bot] .fz (t_law s_is_line s_book_of s__law_deck s__law_pick s__law_line s__law_counts s__law_lines s__law_merged_right s__law_one_less)) := by
  have nd : (N_law).Nodup := sc_law.nd
  exact fnok (ios := []) 15 FD sc_law (fun cdv A outer s H E σ0 hr tk hp =>
  (b_cons (Γ1 := [.fz, .bot, .bot, .bot, .bot, .bot, .bot, .bot, .bot, .bot, .bot, .bot, .bot, .bot, .bot, .bot]) (s_for hp (by rfl) (i_seq (e_frz (e_slice (e_bin od_add (e_var 0) (e_list (a_cons e_int a_nil))) p_none (p_some e_int)))) (g_name 1 nd)
  (b_cons (Γ1 := [.fz, .fz, .ow, .bot, .bot, .bot, .bot, .bot, .bot, .bot, .bot, .bot, .bot, .bot, .bot, .bot]) (s_set 2 nd (e_call c__law_deck tk hr (by rfl) (a_cons (e_var 1) (a_cons e_int a_nil))))
  (b_cons (Γ1 := [.fz, .fz, .ow, .fz, .bot, .bot, .bot, .bot, .bot, .bot, .bot, .bot, .bot, .bot, .bot, .bot]) (s_set 3 nd (e_call c__law_line tk hr (by rfl) (a_cons (e_pk 2) (a_cons e_int a_nil))))
  (b_cons (Γ1 := [.fz, .fz, .ow, .fz, .fz, .bot, .bot, .bot, .bot, .bot, .bot, .bot, .bot, .bot, .bot, .bot]) (s_set 4 nd (e_call c_book_of tk hr (by rfl) (a_cons (e_var 3) a_nil)))
  (b_cons (Γ1 := [.fz, .fz, .ow, .fz, .fz, .bot, .bot, .bot, .bot, .bot, .bot, .bot, .bot, .bot, .bot, .bot]) (s_if (t_cmp (od_ne (u64 hr)) (e_lc (Γb := [.fz, .fz, .ow, .fz, .fz, .bot, .bot, .bot, .bot, .bot, .bot, .bot, .bot, .bot, .bot, .bot]) [(("some" : Str), 15)] (by rfl) nd (i_seq (e_var 4)) (blkOk_by (N := N_law) (sc := defScope st_law) (by decide +kernel)) (fun _ _ _ _ _ _ => (g_name 15 nd)) (fun _ _ _ _ _ => c_nil) (fun _ _ _ _ _ => (e_callB cd_len (a_cons (e_var 15) a_nil) (by rfl) g_len boot_len))) (e_call c__law_counts tk hr (by rfl) (a_cons (e_var 3) a_nil)))
  (b_end (s_ret e_bl))
  b_nil)
  (b_cons (Γ1 := [.fz, .fz, .ow, .fz, .fz, .fz, .fz, .bot, .bot, .bot, .bot, .bot, .bot, .bot, .bot, .bot]) (s_asg (e_call c__law_one_less tk hr (by rfl) (a_cons (e_pk 2) (a_cons (e_var 3) a_nil))) (g_seq 2 (by rfl) (gs_cons (g_name 5 nd) (gs_cons (g_name 6 nd) gs_nil))))
  (b_cons (Γ1 := [.fz, .fz, .ow, .fz, .fz, .fz, .fz, .fz, .bot, .bot, .bot, .bot, .bot, .bot, .bot, .bot]) (s_set 7 nd (e_call c__law_lines tk hr (by rfl) (a_cons (e_var 4) a_nil)))
  (b_cons (Γ1 := [.fz, .fz, .ow, .fz, .fz, .fz, .fz, .fz, .bot, .bot, .bot, .bot, .bot, .bot, .bot, .bot]) (s_if (t_cmp od_isnot (e_var 5) e_non)
  (b_cons (Γ1 := [.fz, .fz, .ow, .fz, .fz, .fz, .fz, .fz, .fz, .bot, .bot, .bot, .bot, .bot, .bot, .bot]) (s_set 8 nd (e_call c_book_of tk hr (by rfl) (a_cons (e_var 5) a_nil)))
  (b_cons (Γ1 := [.fz, .fz, .ow, .fz, .fz, .fz, .fz, .fz, .fz, .bot, .bot, .bot, .bot, .bot, .bot, .bot]) (s_if (WOk.to (w_or (t_not (t_val (e_call c_is_line tk hr (by rfl) (a_cons (e_var 5) a_nil)))) (w_or (t_cmp (od_ne (u64 hr)) (e_ix (u1 hr) (e_var 8) (e_bin od_sub e_int (e_var 6))) (e_ix (u1 hr) (e_var 4) (e_bin od_sub e_int (e_var 6)))) (w_or1 (t_cmp (od_ne (u64 hr)) (e_ix (u1 hr) (e_var 8) e_int) (e_ix (u1 hr) (e_var 4) e_int))))))
  (b_end (s_ret e_bl))
  b_nil)
  (b_cons (Γ1 := [.fz, .fz, .ow, .fz, .fz, .fz, .fz, .fz, .fz, .bot, .bot, .bot, .bot, .bot, .bot, .bot]) (s_if (t_not (t_val (e_call c__law_merged_right tk hr (by rfl) (a_cons (e_ix (u1 hr) (e_var 4) (e_var 6)) (a_cons (e_ix (u1 hr) (e_var 8) (e_var 6)) a_nil)))))
  (b_end (s_ret e_bl))
  b_nil)
  (b_cons (Γ1 := [.fz, .fz, .ow, .fz, .fz, .fz, .fz, .fz, .fz, .bot, .bot, .bot, .bot, .bot, .bot, .bot]) (s_if (WOk.to (w_and (t_cmp od_isnot (e_var 7) e_non) (w_and1 (t_cmp (od_in (u65 hr)) (e_var 5) (e_var 7)))))
  (b_end (s_ret e_bl))
  b_nil)
  b_nil))))
  b_nil)
  (b_cons (Γ1 := [.fz, .fz, .ow, .fz, .fz, .fz, .fz, .fz, .bot, .fz, .bot, .bot, .bot, .bot, .bot, .bot]) (s_set 9 nd (e_call c__law_pick tk hr (by rfl) (a_cons (e_pk 2) (a_cons (e_callB cd_len (a_cons (e_var 3) a_nil) (by rfl) g_len boot_len) a_nil))))
  (b_cons (Γ1 := [.fz, .fz, .ow, .fz, .fz, .fz, .fz, .fz, .bot, .fz, .fz, .fz, .bot, .bot, .bot, .bot]) (s_asg (e_ix (u1 hr) (e_var 3) (e_var 9)) (g_seq 2 (by rfl) (gs_cons (g_name 10 nd) (gs_cons (g_name 11 nd) gs_nil))))
  (b_cons (Γ1 := [.fz, .fz, .ow, .fz, .fz, .fz, .fz, .fz, .bot, .fz, .fz, .fz, .bot, .bot, .bot, .bot]) (s_if (t_cmp od_gt (e_var 10) e_int)
  (b_cons (Γ1 := [.fz, .fz, .ow, .fz, .fz, .fz, .fz, .fz, .bot, .fz, .fz, .fz, .fz, .bot, .bot, .bot]) (s_set 12 nd (e_frz (e_bin od_add e_int (e_call c__law_pick tk hr (by rfl) (a_cons (e_pk 2) (a_cons (e_bin od_sub (e_var 10) e_int) a_nil))))))
  (b_cons (Γ1 := [.fz, .fz, .ow, .fz, .fz, .fz, .fz, .fz, .bot, .fz, .fz, .fz, .fz, .bot, .bot, .bot]) (s_set 6 nd (e_call c__law_pick tk hr (by rfl) (a_cons (e_pk 2) (a_cons e_int a_nil))))
  (b_cons (Γ1 := [.fz, .fz, .ow, .fz, .fz, .fz, .fz, .fz, .bot, .fz, .fz, .fz, .fz, .fz, .bot, .bot]) (s_set 13 nd (e_frz (e_list (a_cons (e_tuple (a_cons (e_var 12) (a_cons (e_ix (u1 hr) e_str (e_var 6)) a_nil))) (a_cons (e_tuple (a_cons (e_bin od_sub (e_var 10) (e_var 12)) (a_cons (e_var 11) a_nil))) a_nil)))))
  (b_cons (Γ1 := [.fz, .fz, .ow, .fz, .fz, .fz, .fz, .fz, .bot, .fz, .fz, .fz, .fz, .fz, .fz, .bot]) (s_set 14 nd (e_frz (e_bin od_add (e_bin od_add (e_slice (e_var 3) p_none (p_some (e_var 9))) (e_var 13)) (e_slice (e_var 3) (p_some (e_frz (e_bin od_add (e_var 9) e_int))) p_none))))
  (b_cons (Γ1 := [.fz, .fz, .ow, .fz, .fz, .fz, .fz, .fz, .fz, .fz, .fz, .fz, .fz, .fz, .fz, .bot]) (s_set 8 nd (e_call c_book_of tk hr (by rfl) (a_cons (e_var 14) a_nil)))
  (b_cons (Γ1 := [.fz, .fz, .ow, .fz, .fz, .fz, .fz, .fz, .fz, .fz, .fz, .fz, .fz, .fz, .fz, .bot]) (s_if (WOk.to (w_or (t_not (t_val (e_call c_is_line tk hr (by rfl) (a_cons (e_var 14) a_nil)))) (w_or1 (t_cmp (od_ne (u64 hr)) (e_ix (u1 hr) (e_var 8) (e_bin od_sub e_int (e_var 6))) (e_ix (u1 hr) (e_var 4) (e_bin od_sub e_int (e_var 6)))))))
  (b_end (s_ret e_bl))
  b_nil)
  (b_cons (Γ1 := [.fz, .fz, .ow, .fz, .fz, .fz, .fz, .fz, .fz, .fz, .fz, .fz, .fz, .fz, .fz, .bot]) (s_if (t_not (t_val (e_call c__law_merged_right tk hr (by rfl) (a_cons (e_ix (u1 hr) (e_var 8) e_int) (a_cons (e_ix (u1 hr) (e_var 4) e_int) a_nil)))))
  (b_end (s_ret e_bl))
  b_nil)
  (b_cons (Γ1 := [.fz, .fz, .ow, .fz, .fz, .fz, .fz, .fz, .fz, .fz, .fz, .fz, .fz, .fz, .fz, .bot]) (s_if (t_not (t_val (e_call c__law_merged_right tk hr (by rfl) (a_cons (e_ix (u1 hr) (e_var 8) (e_var 6)) (a_cons (e_ix (u1 hr) (e_var 4) (e_var 6)) a_nil)))))
  (b_end (s_ret e_bl))
  b_nil)
  (b_cons (Γ1 := [.fz, .fz, .ow, .fz, .fz, .fz, .fz, .fz, .fz, .fz, .fz, .fz, .fz, .fz, .fz, .bot]) (s_if (WOk.to (w_and (t_cmp od_isnot (e_var 7) e_non) (w_and1 (t_cmp (od_in (u65 hr)) (e_var 14) (e_var 7)))))
  (b_end (s_ret e_bl))
  b_nil)
  b_nil)))))))))
  b_nil)
  (b_cons (Γ1 := [.fz, .fz, .ow, .fz, .fz, .fz, .fz, .fz, .bot, .fz, .fz, .fz, .bot, .bot, .bot, .bot]) (s_if (WOk.to (w_and (t_cmp od_isnot (e_var 7) e_non) (w_and1 (t_cmp (od_notin (u65 hr)) (e_var 3) (e_var 7)))))
  (b_end (s_ret e_bl))
  b_nil)
  b_nil))))))))))))
  (b_end (s_ret e_bl)))) rfl rfl rfl rfl
end K38

local macro_rules | `(tactic| simp only [EV0]) => `(tactic| simp only [T2.gS, T2.seqQ_l, T2.seqQ_t, T2.tIsE, T2.sUnp, T2.sAugS, T2.oSum, T2.tZip, T2.tJoin, T2.sRaise, T2.sTry, T2.tTest, T2.tBin, T2.tVar, T2.tK, T2.tPk, T2.tLst, T2.tTup, T2.aCons, T2.aNil, T2.tNotD, T2.tAndD, T2.tOrD, T2.tIfD, T2.tChn, T2.cNot, T2.cAnd, T2.cOr, T2.tCB, T2.tIsi, T2.isi, T2.pNone, T2.pSome, T2.tSl, T2.sNil, T2.sSeq, T2.sDo, T2.wr, T2.sSet, T2.sRet, T2.tSc, T2.sRetN, T2.sPass, T2.sCont, T2.sBrk, T2.sIf, T2.gN, T2.gsNil, T2.gsCons, T2.gT, T2.iD, T2.iR, T2.sFor, T2.sForP, T2.sAug, T2.mMut, T2.mApp, T2.sSub, T2.tLC, T2.tLCp, T2.cYes, T2.tCallD, T2.putD, T2.sel, T2.isBot, T2.sees, T2.see, T2.rd, T2.oEq, T2.oNe, T2.isN, T2.tNegD, T2.sAsg, T2.sPar, T2.sPar3, T2.sLast, T2.semOf, T2.oExt, T2.nulls, List.replicate, List.getD_cons_zero, List.getD_cons_succ, List.set_cons_zero, List.set_cons_succ, List.headD_cons, List.tail_cons, List.cons_append, List.nil_append, decide_eq_true_eq, Bool.not_eq_true', decide_eq_false_iff_not, reduceIte, if_true, if_false, Bool.false_eq_true, Bool.not_true, Bool.not_false, true_and, and_true, T2.oAdd_i, T2.oAdd_s, T2.oAdd_l, T2.oAdd_t, T2.oI2_i, T2.oC_i, T2.oIs_n, T2.oIs_b, T2.oIn_l, T2.oIn_t, T2.oIn_s, T2.oRep_l, T2.oIx_l, T2.oIx_t, T2.oSl_l, T2.oSl_t, T2.oLen_l, T2.oLen_t, T2.oLen_s, T2.oList_l, T2.oList_t, T2.oTuple_l, T2.oTuple_t, T2.oInt_i, T2.oInt_b, T2.oStr_i, T2.oMin2_i, T2.oMax2_i, T2.oAbs_i, T2.itemsOf_l, T2.itemsOf_t, T2.oRng_1, T2.oRng_2, T2.atI_lit, T2.atI_neg1, T2.ixN_lit, Option.some.injEq, exists_eq_left', List.getElem?_cons_zero, List.getElem?_cons_succ, List.length_cons, List.length_nil, Nat.reduceAdd, Nat.reduceSub, Nat.reduceLT, Nat.reduceLeDiff, Int.reduceToNat, Int.reducePow, Int.reduceLE, Int.reduceLT, Int.reduceAdd, Int.reduceNeg, PySem.sizeLine_eq, T2.natAbs_lit, T2.cast_lit, Int.reduceBEq, T2.okEq_i, T2.okEq_b, T2.okEq_n, T2.okEq_0, Bool.true_eq_false, reduceCtorEq, not_true_eq_false, not_false_eq_true, PySem.PyData.list.injEq, exists_eq', T2.cut_init, T2.oSorted_l, T2.oSorted_t, T2.oRng3_3, T2.tRev, T2.iR3, Nat.reducePow])
local macro_rules | `(tactic| simp only [EV0, $xs,*]) => `(tactic| simp only [T2.gS, T2.seqQ_l, T2.seqQ_t, T2.tIsE, T2.sUnp, T2.sAugS, T2.oSum, T2.tZip, T2.tJoin, T2.sRaise, T2.sTry, T2.tTest, T2.tBin, T2.tVar, T2.tK, T2.tPk, T2.tLst, T2.tTup, T2.aCons, T2.aNil, T2.tNotD, T2.tAndD, T2.tOrD, T2.tIfD, T2.tChn, T2.cNot, T2.cAnd, T2.cOr, T2.tCB, T2.tIsi, T2.isi, T2.pNone, T2.pSome, T2.tSl, T2.sNil, T2.sSeq, T2.sDo, T2.wr, T2.sSet, T2.sRet, T2.tSc, T2.sRetN, T2.sPass, T2.sCont, T2.sBrk, T2.sIf, T2.gN, T2.gsNil, T2.gsCons, T2.gT, T2.iD, T2.iR, T2.sFor, T2.sForP, T2.sAug, T2.mMut, T2.mApp, T2.sSub, T2.tLC, T2.tLCp, T2.cYes, T2.tCallD, T2.putD, T2.sel, T2.isBot, T2.sees, T2.see, T2.rd, T2.oEq, T2.oNe, T2.isN, T2.tNegD, T2.sAsg, T2.sPar, T2.sPar3, T2.sLast, T2.semOf, T2.oExt, T2.nulls, List.replicate, List.getD_cons_zero, List.getD_cons_succ, List.set_cons_zero, List.set_cons_succ, List.headD_cons, List.tail_cons, List.cons_append, List.nil_append, decide_eq_true_eq, Bool.not_eq_true', decide_eq_false_iff_not, reduceIte, if_true, if_false, Bool.false_eq_true, Bool.not_true, Bool.not_false, true_and, and_true, T2.oAdd_i, T2.oAdd_s, T2.oAdd_l, T2.oAdd_t, T2.oI2_i, T2.oC_i, T2.oIs_n, T2.oIs_b, T2.oIn_l, T2.oIn_t, T2.oIn_s, T2.oRep_l, T2.oIx_l, T2.oIx_t, T2.oSl_l, T2.oSl_t, T2.oLen_l, T2.oLen_t, T2.oLen_s, T2.oList_l, T2.oList_t, T2.oTuple_l, T2.oTuple_t, T2.oInt_i, T2.oInt_b, T2.oStr_i, T2.oMin2_i, T2.oMax2_i, T2.oAbs_i, T2.itemsOf_l, T2.itemsOf_t, T2.oRng_1, T2.oRng_2, T2.atI_lit, T2.atI_neg1, T2.ixN_lit, Option.some.injEq, exists_eq_left', List.getElem?_cons_zero, List.getElem?_cons_succ, List.length_cons, List.length_nil, Nat.reduceAdd, Nat.reduceSub, Nat.reduceLT, Nat.reduceLeDiff, Int.reduceToNat, Int.reducePow, Int.reduceLE, Int.reduceLT, Int.reduceAdd, Int.reduceNeg, PySem.sizeLine_eq, T2.natAbs_lit, T2.cast_lit, Int.reduceBEq, T2.okEq_i, T2.okEq_b, T2.okEq_n, T2.okEq_0, Bool.true_eq_false, reduceCtorEq, not_true_eq_false, not_false_eq_true, PySem.PyData.list.injEq, exists_eq', T2.cut_init, T2.oSorted_l, T2.oSorted_t, T2.oRng3_3, T2.tRev, T2.iR3, Nat.reducePow, $xs,*])
local macro_rules | `(tactic| simp only [EX0]) => `(tactic| simp only [T2.gS, T2.seqQ_l, T2.seqQ_t, T2.tIsE, T2.sUnp, T2.sAugS, T2.oSum, T2.tZip, T2.tJoin, T2.sRaise, T2.sTry, T2.tTest, T2.tBin, T2.tVar, T2.tK, T2.tPk, T2.tLst, T2.tTup, T2.aCons, T2.aNil, T2.tNotD, T2.tAndD, T2.tOrD, T2.tIfD, T2.tChn, T2.cNot, T2.cAnd, T2.cOr, T2.tCB, T2.tIsi, T2.isi, T2.pNone, T2.pSome, T2.tSl, T2.sNil, T2.sSeq, T2.sDo, T2.wr, T2.sSet, T2.sRet, T2.tSc, T2.sRetN, T2.sPass, T2.sCont, T2.sBrk, T2.sIf, T2.gN, T2.gsNil, T2.gsCons, T2.gT, T2.iD, T2.iR, T2.sFor, T2.sForP, T2.sAug, T2.mMut, T2.mApp, T2.sSub, T2.tLC, T2.tLCp, T2.cYes, T2.tCallD, T2.putD, T2.sel, T2.isBot, T2.sees, T2.see, T2.rd, T2.oEq, T2.oNe, T2.isN, T2.tNegD, T2.sAsg, T2.sPar, T2.sPar3, T2.sLast, T2.semOf, T2.oExt, T2.nulls, List.replicate, List.getD_cons_zero, List.getD_cons_succ, List.set_cons_zero, List.set_cons_succ, List.headD_cons, List.tail_cons, List.cons_append, List.nil_append, decide_eq_true_eq, Bool.not_eq_true', decide_eq_false_iff_not, reduceIte, if_true, if_false, Bool.false_eq_true, Bool.not_true, Bool.not_false, true_and, and_true, T2.oAdd_i, T2.oAdd_s, T2.oAdd_l, T2.oAdd_t, T2.oI2_i, T2.oC_i, T2.oIs_n, T2.oIs_b, T2.oIn_l, T2.oIn_t, T2.oIn_s, T2.oRep_l, T2.oIx_l, T2.oIx_t, T2.oSl_l, T2.oSl_t, T2.oLen_l, T2.oLen_t, T2.oLen_s, T2.oList_l, T2.oList_t, T2.oTuple_l, T2.oTuple_t, T2.oInt_i, T2.oInt_b, T2.oStr_i, T2.oMin2_i, T2.oMax2_i, T2.oAbs_i, T2.itemsOf_l, T2.itemsOf_t, T2.oRng_1, T2.oRng_2, T2.atI_lit, T2.atI_neg1, T2.ixN_lit, Option.some.injEq, exists_eq_left', List.getElem?_cons_zero, List.getElem?_cons_succ, List.length_cons, List.length_nil, Nat.reduceAdd, Nat.reduceSub, Nat.reduceLT, Nat.reduceLeDiff, Int.reduceToNat, Int.reducePow, Int.reduceLE, Int.reduceLT, Int.reduceAdd, Int.reduceNeg, PySem.sizeLine_eq, T2.natAbs_lit, T2.cast_lit, Int.reduceBEq, T2.okEq_i, T2.okEq_b, T2.okEq_n, T2.okEq_0, Bool.true_eq_false, reduceCtorEq, not_true_eq_false, not_false_eq_true, PySem.PyData.list.injEq, exists_eq', T2.cut_init, T2.oSorted_l, T2.oSorted_t, T2.oRng3_3, T2.tRev, T2.iR3, Nat.reducePow, T2.sTryO, T2.tCount, T2.oSumS_t, T2.oSumS_l, T2.scal, T2.tDict0, T2.sDPut, T2.sDAug, T2.mDPop, T2.tDGet, T2.tEn, T2.tMaxDf, T2.iK, T2.tZipL, T2.tIx2, T2.tLen2, T2.mPop2, T2.sSub2, T2.sSlS2, T2.oDict, T2.oRem, T2.oPopN, T2.oMinL, T2.oMaxL, T2.atI_nat, T2.cutN_to, T2.cutN_to1, T2.cutN_from, T2.cutN_from1, T2.cutN_ab, T2.cutN_ab1, T2.cutN_a1b, T2.cutN_a1b1, T2.tZ2, T2.tZ3, T2.ev_int, T2.ev_str, T2.ev_nn, T2.ex_aug, T2.ex_jd, T2.ix_zero, T2.oRepS_01, T2.lt01, T2.okS_lit, T2.ex_sum, T2.eqv_list_nil, List.map_cons, List.map_nil, List.length_map, List.length_append, List.isEmpty_nil, List.isEmpty_cons])
local macro_rules | `(tactic| simp only [EX0, $xs,*]) => `(tactic| simp only [T2.gS, T2.seqQ_l, T2.seqQ_t, T2.tIsE, T2.sUnp, T2.sAugS, T2.oSum, T2.tZip, T2.tJoin, T2.sRaise, T2.sTry, T2.tTest, T2.tBin, T2.tVar, T2.tK, T2.tPk, T2.tLst, T2.tTup, T2.aCons, T2.aNil, T2.tNotD, T2.tAndD, T2.tOrD, T2.tIfD, T2.tChn, T2.cNot, T2.cAnd, T2.cOr, T2.tCB, T2.tIsi, T2.isi, T2.pNone, T2.pSome, T2.tSl, T2.sNil, T2.sSeq, T2.sDo, T2.wr, T2.sSet, T2.sRet, T2.tSc, T2.sRetN, T2.sPass, T2.sCont, T2.sBrk, T2.sIf, T2.gN, T2.gsNil, T2.gsCons, T2.gT, T2.iD, T2.iR, T2.sFor, T2.sForP, T2.sAug, T2.mMut, T2.mApp, T2.sSub, T2.tLC, T2.tLCp, T2.cYes, T2.tCallD, T2.putD, T2.sel, T2.isBot, T2.sees, T2.see, T2.rd, T2.oEq, T2.oNe, T2.isN, T2.tNegD, T2.sAsg, T2.sPar, T2.sPar3, T2.sLast, T2.semOf, T2.oExt, T2.nulls, List.replicate, List.getD_cons_zero, List.getD_cons_succ, List.set_cons_zero, List.set_cons_succ, List.headD_cons, List.tail_cons, List.cons_append, List.nil_append, decide_eq_true_eq, Bool.not_eq_true', decide_eq_false_iff_not, reduceIte, if_true, if_false, Bool.false_eq_true, Bool.not_true, Bool.not_false, true_and, and_true, T2.oAdd_i, T2.oAdd_s, T2.oAdd_l, T2.oAdd_t, T2.oI2_i, T2.oC_i, T2.oIs_n, T2.oIs_b, T2.oIn_l, T2.oIn_t, T2.oIn_s, T2.oRep_l, T2.oIx_l, T2.oIx_t, T2.oSl_l, T2.oSl_t, T2.oLen_l, T2.oLen_t, T2.oLen_s, T2.oList_l, T2.oList_t, T2.oTuple_l, T2.oTuple_t, T2.oInt_i, T2.oInt_b, T2.oStr_i, T2.oMin2_i, T2.oMax2_i, T2.oAbs_i, T2.itemsOf_l, T2.itemsOf_t, T2.oRng_1, T2.oRng_2, T2.atI_lit, T2.atI_neg1, T2.ixN_lit, Option.some.injEq, exists_eq_left', List.getElem?_cons_zero, List.getElem?_cons_succ, List.length_cons, List.length_nil, Nat.reduceAdd, Nat.reduceSub, Nat.reduceLT, Nat.reduceLeDiff, Int.reduceToNat, Int.reducePow, Int.reduceLE, Int.reduceLT, Int.reduceAdd, Int.reduceNeg, PySem.sizeLine_eq, T2.natAbs_lit, T2.cast_lit, Int.reduceBEq, T2.okEq_i, T2.okEq_b, T2.okEq_n, T2.okEq_0, Bool.true_eq_false, reduceCtorEq, not_true_eq_false, not_false_eq_true, PySem.PyData.list.injEq, exists_eq', T2.cut_init, T2.oSorted_l, T2.oSorted_t, T2.oRng3_3, T2.tRev, T2.iR3, Nat.reducePow, T2.sTryO, T2.tCount, T2.oSumS_t, T2.oSumS_l, T2.scal, T2.tDict0, T2.sDPut, T2.sDAug, T2.mDPop, T2.tDGet, T2.tEn, T2.tMaxDf, T2.iK, T2.tZipL, T2.tIx2, T2.tLen2, T2.mPop2, T2.sSub2, T2.sSlS2, T2.oDict, T2.oRem, T2.oPopN, T2.oMinL, T2.oMaxL, T2.atI_nat, T2.cutN_to, T2.cutN_to1, T2.cutN_from, T2.cutN_from1, T2.cutN_ab, T2.cutN_ab1, T2.cutN_a1b, T2.cutN_a1b1, T2.tZ2, T2.tZ3, T2.ev_int, T2.ev_str, T2.ev_nn, T2.ex_aug, T2.ex_jd, T2.ix_zero, T2.oRepS_01, T2.lt01, T2.okS_lit, T2.ex_sum, T2.eqv_list_nil, List.map_cons, List.map_nil, List.length_map, List.length_append, List.isEmpty_nil, List.isEmpty_cons, $xs,*])
namespace K38
open PySem PySem.Spec T2
theorem iteT' {A B : Prop} (h : A) : if false = false then A else B := by
  rw [if_pos rfl]; exact h
theorem eqcomm (m x : Str) : (x == m) = decide (m = x) := by
  by_cases h : m = x
  · subst h; simp
  · rw [decide_eq_false h]; simpa using fun z => h z.symm
theorem one1 {ds : List D} {f : D → Prop} (h : match ds with
  | [d] => f d
  | _ => False) : ∃ d, ds = [d] ∧ f d := by
  match ds, h with
  | [d], h => exact ⟨d, rfl, h⟩
theorem or2 {a b : Prop} [Decidable a] [Decidable b] {A B : Prop} {c : Prop} (h : (a ∨ b) ↔ c) (h1 : c → A) (h2 : ¬ c → B) : if a then A else if b then A else B := by
  by_cases ha : a
  · rw [if_pos ha]; exact h1 (h.mp (.inl ha))
  · rw [if_neg ha]
    by_cases hb : b
    · rw [if_pos hb]; exact h1 (h.mp (.inr hb))
    · rw [if_neg hb]; exact h2 fun z => (h.mpr z).elim ha hb
theorem or3 {a b d : Prop} [Decidable a] [Decidable b] [Decidable d] {A B : Prop} {c : Prop} (h : (a ∨ b ∨ d) ↔ c) (h1 : c → A) (h2 : ¬ c → B) : if a then A else if b then A else if d then A else B := by
  by_cases ha : a
  · rw [if_pos ha]; exact h1 (h.mp (.inl ha))
  · rw [if_neg ha]
    exact or2 (c := c) ⟨fun z => h.mp (.inr z), fun z => (h.mpr z).resolve_left ha⟩ h1 h2
theorem p_deck (ds : List D) (q : D → List D → Prop) (e : DE) (h : c_deck ds q e) : t__law_deck ds q e := by
  obtain ⟨cell, turn, rfl, ht, h⟩ := h
  simp only [EV0, t__law_deck, m__law_deck]
  have hm := Int.emod_nonneg cell (b := 2147483579) (by decide)
  have hm2 := Int.emod_lt_of_pos cell (b := 2147483579) (by decide)
  split
  · exact h _ ⟨_, _, _, rfl, by omega, hm, hm2, ht, Int.le_refl _⟩
  · exact h _ ⟨_, _, _, rfl, by omega, hm, hm2, ht, Int.le_refl _⟩
theorem p_pick (ds : List D) (q : D → List D → Prop) (e : DE) (h : c_pick ds q e) : t__law_pick ds q e := by
  obtain ⟨d, many, c, rfl, ⟨a, b, t, rfl, ha, hb, hb2, ht, htc⟩, hc, hm, hf, h⟩ := h
  simp only [EV0, t__law_pick, m__law_pick, deckD]
  split
  · refine ⟨hm, ⟨hm, hf⟩, h _ _ (Int.emod_nonneg _ (by omega)) (Int.emod_lt_of_pos _ hm) ⟨_, _, _, rfl, Int.ediv_nonneg ha (by omega), hb, hb2, ht, by omega⟩⟩
  · have hu0 := Int.emod_nonneg ((b + 15485867 * (t + 1)) ^ 5) (b := 2147483647) (by decide)
    have hu1 := Int.emod_lt_of_pos ((b + 15485867 * (t + 1)) ^ 5) (b := 2147483647) (by decide)
    generalize (b + 15485867 * (t + 1)) ^ 5 % 2147483647 = u at *
    refine ⟨⟨Fit.of (by omega) (by omega), Fit.of (by omega) (by omega)⟩, by omega, ⟨Fit.of (by omega) (by omega), Fit.of (by omega) (by omega)⟩, by omega, Fit.of (by omega) (by omega), ?_⟩
    have hv1 := Int.emod_nonneg ((u + 7919 * (t + 1)) ^ 3) (b := 2147483629) (by decide)
    have hv2 := Int.emod_lt_of_pos ((u + 7919 * (t + 1)) ^ 3) (b := 2147483629) (by decide)
    generalize (u + 7919 * (t + 1)) ^ 3 % 2147483629 = v at *
    split
    · exact ⟨⟨Fit.of (by omega) (by omega), Fit.of (by omega) (by omega)⟩, hm, h _ _ (Int.emod_nonneg _ (by omega)) (Int.emod_lt_of_pos _ hm) ⟨_, _, _, rfl, ha, hb, hb2, by omega, by omega⟩⟩
    · exact ⟨hm, h _ _ (Int.emod_nonneg _ (by omega)) (Int.emod_lt_of_pos _ hm) ⟨_, _, _, rfl, ha, hb, hb2, by omega, by omega⟩⟩
def Mark (m : Str) : Prop := m = ("a" : Str) ∨ m = ("b" : Str) ∨ m = ("ab" : Str)
def Piece (d : D) : Prop := ∃ (n : Int) (m : Str), d = .tuple [.int n, .str m] ∧ 0 < n ∧ n ≤ 10000000000000 ∧ Mark m
def Line (ps : List D) : Prop := (∀ p ∈ ps, Piece p) ∧ ∃ n, ps.getLast? = some (.tuple [.int n, .str ("ab" : Str)])
def c_line : TD := fun ds q _ => ∃ d most c, ds = [d, .int most] ∧ Deck c d ∧ c < 10000 ∧ 1 ≤ most ∧ most ≤ 1000 ∧ ∀ ps d', Line ps → (ps.length : Int) ≤ most → Deck (c + 6 + 2 * most) d' → q (.list ps) [d']
theorem p_line (ds : List D) (q : D → List D → Prop) (e : DE) (h : c_line ds q e) : t__law_line c_pick ds q e := by
  obtain ⟨d, most, c, rfl, hd, hc, hm, hm2, h⟩ := h
  simp only [EV0, t__law_line, m__law_line]
  refine pick_step hd fun r1 d1 a1 b1 k1 => ?_
  simp only [EV0]
  refine pick_step k1 fun r2 d2 a2 b2 k2 => ?_
  simp only [EV0]
  refine pick_step k2 fun r3 d3 a3 b3 k3 => ?_
  simp only [EV0]
  refine atI_all a3 b3 fun dm hdm => ?_
  obtain ⟨many, rfl, m1, m2⟩ : ∃ many : Int, dm = .int many ∧ 1 ≤ many ∧ many ≤ most := by
    simp only [List.mem_cons, List.not_mem_nil, or_false] at hdm
    rcases hdm with rfl | rfl | rfl
    · exact ⟨_, rfl, hm, Int.le_refl _⟩
    · exact ⟨_, rfl, by omega, by omega⟩
    · exact ⟨_, rfl, by omega, by omega⟩
  refine pick_step k3 fun r4 d4 a4 b4 k4 => ?_
  simp only [EV0]
  refine pick_step k4 fun r5 d5 a5 b5 k5 => ?_
  simp only [EV0]
  refine atI_all a5 b5 fun df hdf => ?_
  obtain ⟨few, rfl, f1, f2⟩ : ∃ few : Int, df = .int few ∧ 1 ≤ few ∧ few ≤ 10000000000000 := by
    simp only [List.mem_cons, List.not_mem_nil, or_false] at hdf
    rcases hdf with rfl | rfl | rfl | rfl
    · exact ⟨_, rfl, by omega, by omega⟩
    all_goals exact ⟨_, rfl, by decide, by decide⟩
  refine pick_step k5 fun r6 d6 a6 b6 k6 => ?_
  simp only [EV0]
  refine atI_all a6 b6 fun dk hdk => ?_
  obtain ⟨mk, rfl, g1, g2, g3⟩ : ∃ mk : List D, dk = .list mk ∧ 0 < mk.length ∧ mk.length ≤ 4 ∧ ∀ m ∈ mk, ∃ s, m = .str s ∧ Mark s := by
    simp only [List.mem_cons, List.not_mem_nil, or_false] at hdk
    rcases hdk with rfl | rfl | rfl | rfl <;> refine ⟨_, rfl, by decide, by decide, fun m hm => ?_⟩ <;> simp only [List.mem_cons, List.not_mem_nil, or_false] at hm
    all_goals (rcases hm with rfl | rfl | rfl | rfl <;> exact ⟨_, rfl, by unfold Mark; simp⟩)
  refine ⟨⟨by omega, by omega⟩, ?_⟩
  refine lcD_inv (fun pre acc ρ => acc.length = pre.length ∧ (∀ p ∈ acc, Piece p) ∧ ∃ d' kk, Deck (c + 6 + 2 * pre.length) d' ∧ ρ = [d', .int most, .int many, .int few, .list mk, .none, kk]) ⟨rfl, by simp, _, _, k6.mono (by simp; omega), rfl⟩ ?_ ?_
  · rintro pre x post acc ρ ex ⟨i1, i2, d', kk, i3, rfl⟩ k hk
    have hl : (pre.length : Int) < many := by
      have := congrArg List.length ex
      rw [rng_len, List.length_append, List.length_cons] at this
      omega
    simp only [EV0]
    refine pick_step i3 fun r7 d7 a7 b7 k7 => ?_
    simp only [EV0]
    refine pick_step k7 fun r8 d8 a8 b8 k8 => ?_
    simp only [EV0]
    refine atI_all a8 b8 fun m hm => ?_
    obtain ⟨s, rfl, hs⟩ := g3 m hm
    refine ⟨by omega, hk _ _ ⟨by simp [i1], fun p hp => ?_, _, _, k8.mono (by simp; omega), rfl⟩⟩
    rcases List.mem_append.mp hp with hp | hp
    · exact i2 p hp
    · rw [List.mem_singleton.mp hp]
      exact ⟨_, s, rfl, by omega, by omega, hs⟩
  · rintro acc ρ ⟨i1, i2, d', kk, i3, rfl⟩
    rw [rng_len] at i1 i3
    simp only [EV0]
    obtain ⟨p, hp⟩ : ∃ p, acc.getLast? = some p := by
      cases acc with
      | nil => simp at i1; omega
      | cons x l => exact ⟨_, List.getLast?_cons⟩
    obtain ⟨n, s, rfl, n1, n2, hs⟩ := i2 p (List.mem_of_getLast? hp)
    refine ⟨_, hp, ?_⟩
    simp only [EV0]
    have hd := List.length_dropLast (xs := acc)
    refine ⟨by omega, h _ _ ⟨fun p hp => ?_, ⟨n, by simp⟩⟩ (by simp; omega) (i3.mono (by omega))⟩
    rcases List.mem_append.mp hp with hp | hp
    · exact i2 p (List.dropLast_subset _ hp)
    · rw [List.mem_singleton.mp hp]
      exact ⟨n, _, rfl, n1, n2, .inr (.inr rfl)⟩
theorem Mark.str {m : Str} (h : Mark m) : PyData.strOk m = true := by
  rcases h with rfl | rfl | rfl <;> decide +kernel
theorem Mark.ok {m : Str} (h : Mark m) : okEq (.str m) := by
  rcases h with rfl | rfl | rfl <;> exact okS
theorem Line.ok {ps : List D} (h : Line ps) : Ok 5 (.list ps) := Ok.list (n := 4) fun p hp => by
  obtain ⟨n, m, rfl, n1, n2, hm⟩ := h.1 p hp
  refine Ok.tuple (n := 3) fun d hd => ?_
  simp only [List.mem_cons, List.not_mem_nil, or_false] at hd
  rcases hd with rfl | rfl
  · exact Ok.i
  · exact Ok.s hm.str
def hit (knife mark : Str) : Bool := decide (mark = ("ab" : Str)) || decide (mark = knife) || decide (knife = ("ab" : Str))
def lensF (knife : Str) : List D → Int → List D
  | .tuple [.int n, .str m] :: ps, o => if hit knife m = true then .int (o + n) :: lensF knife ps 0 else lensF knife ps (o + n)
  | _, _ => []
def c_lens : TD := fun ds q _ => ∃ ps knife, ds = [.list ps, .str knife] ∧ (∀ p ∈ ps, Piece p) ∧ ps.length ≤ 12 ∧ Mark knife ∧ q (.list (lensF knife ps 0)) []
theorem occ {k m : Str} (hk : Mark k) (hm : Mark m) : ((PyData.str k).eqv (.str ("ab" : Str)) = true ∨ (Builtin.Str.occurrences m k 0 m.length 1).isEmpty = false) ↔ hit k m = true := by
  rcases hk with rfl | rfl | rfl <;> rcases hm with rfl | rfl | rfl <;> decide +kernel
theorem hit2 {k m : Str} : ((PyData.str m).eqv (.str ("ab" : Str)) = true ∨ (PyData.str m).eqv (.str k) = true ∨ (PyData.str k).eqv (.str ("ab" : Str)) = true) ↔ hit k m = true := by
  unfold hit
  simp [PyData.eqv, or_assoc]
theorem lensF_int {k : Str} : ∀ {ps : List D} {o : Int}, ∀ x ∈ lensF k ps o, ∃ i, x = .int i
  | [], _, x, h => by simp [lensF] at h
  | p :: ps, o, x, h => by
    unfold lensF at h
    split at h
    · rename_i e
      cases e
      split at h
      · rcases List.mem_cons.mp h with rfl | h
        · exact ⟨_, rfl⟩
        · exact lensF_int x h
      · exact lensF_int x h
    · simp at h
theorem lensF_len {k : Str} : ∀ {ps : List D} {o : Int}, (lensF k ps o).length ≤ ps.length
  | [], _ => by simp [lensF]
  | p :: ps, o => by
    unfold lensF
    split
    · rename_i e
      cases e
      split
      · exact Nat.succ_le_succ lensF_len
      · exact Nat.le_succ_of_le lensF_len
    · simp
def lenB (d : D) : Bool := match d with
  | .int n => decide (0 < n)
  | _ => false
def c_islen : TD := fun ds q _ => match ds with
  | [d] => q (.bool (lenB d)) []
  | _ => False
theorem p_islen (ds : List D) (q : D → List D → Prop) (e : DE) (h : c_islen ds q e) : t_is_length ds q e := by
  obtain ⟨d, rfl, h⟩ := one1 h
  have h : q (.bool (lenB d)) [] := h
  simp only [EV0, t_is_length, m_is_length]
  cases d <;> exact h
def PieceP (d : D) : Prop := ∃ (n : Int) (m : Str), d = .tuple [.int n, .str m] ∧ 0 < n ∧ Mark m
def c_piecesF : TD := fun ds q _ => ∃ ps, ds = [.list ps] ∧ (∀ p ∈ ps, PieceP p) ∧ 1 ≤ ps.length ∧ ps.length ≤ 12 ∧ q (.bool true) []
theorem p_piecesF (ds : List D) (q : D → List D → Prop) (e : DE) (h : c_piecesF ds q e) : t_are_pieces c_islen ds q e := by
  obtain ⟨ps, rfl, hp, h1, h2, h⟩ := h
  simp only [EV0, t_are_pieces, m_are_pieces]
  rw [if_pos (by omega), if_neg (by omega)]
  refine forD_inv (fun pre ρ => ∃ x, ρ = [.list ps, x]) ⟨_, rfl⟩ ?_ ?_
  · rintro pre x post ρ k ex ⟨x0, rfl⟩ hk
    obtain ⟨n, m, rfl, hn, hm⟩ := hp x (by rw [ex]; simp)
    simp only [EV0, c_islen]
    rw [if_neg (by simp [PyData.eqv]), if_neg (by simp [lenB, hn])]
    refine ⟨rfl, rfl, ?_⟩
    rw [if_neg (by rcases hm with rfl | rfl | rfl <;> decide +kernel)]
    exact hk _ ⟨_, rfl⟩
  · rintro ρ ⟨x, rfl⟩
    simp only [EV0]
    exact h
def c_islineF : TD := fun ds q _ => ∃ ps n, ds = [.list ps] ∧ (∀ p ∈ ps, PieceP p) ∧ ps.length ≤ 12 ∧ ps.getLast? = some (.tuple [.int n, .str ("ab" : Str)]) ∧ q (.bool true) []
theorem p_islineF (ds : List D) (q : D → List D → Prop) (e : DE) (h : c_islineF ds q e) : t_is_line c_piecesF ds q e := by
  obtain ⟨ps, n, rfl, hp, hl, hlast, h⟩ := h
  simp only [EV0, t_is_line, m_is_line]
  refine ⟨ps, rfl, hp, ?_, hl, ?_⟩
  · cases ps with
    | nil => cases hlast
    | cons _ _ => simp
  · simp only [EV0]
    refine ⟨_, hlast, ?_⟩
    simp only [EV0, PyData.eqv]
    exact ⟨okS, okS, h⟩
/-! ### pieces as pairs -/
abbrev Pc := Int × Str
def eP (p : Pc) : D := .tuple [.int p.1, .str p.2]
def eL (L : List Pc) : D := .list (L.map eP)
def eI (ns : List Int) : D := .list (ns.map .int)
abbrev mA : Str := ("a" : Str)
abbrev mB : Str := ("b" : Str)
abbrev mAB : Str := ("ab" : Str)
def PcOk (p : Pc) : Prop := 0 < p.1 ∧ Mark p.2
def EndAB (L : List Pc) : Prop := ∃ n, L.getLast? = some (n, mAB)
structure LnT (L : List Pc) : Prop where
  ok : ∀ p ∈ L, PcOk p
  last : EndAB L
/-- the lengths of a knife, o being open -/
def lens (k : Str) : List Pc → Int → List Int
  | [], _ => []
  | p :: L, o => if hit k p.2 = true then (o + p.1) :: lens k L 0 else lens k L (o + p.1)
theorem lensF_lens (k : Str) : ∀ (L : List Pc) (o : Int), lensF k (L.map eP) o = (lens k L o).map .int
  | [], _ => rfl
  | p :: L, o => by
    rw [List.map_cons, eP, lensF, lens]
    split
    · rw [lensF_lens k L, List.map_cons]
    · rw [lensF_lens k L]
theorem lens_len (k : Str) : ∀ (L : List Pc) (o : Int), (lens k L o).length ≤ L.length
  | [], _ => Nat.le_refl _
  | p :: L, o => by
    rw [lens]
    split
    · exact Nat.succ_le_succ (lens_len k L _)
    · exact Nat.le_succ_of_le (lens_len k L _)
theorem hAA : hit mA mA = true := by decide +kernel
theorem hAB : hit mA mB = false := by decide +kernel
theorem hBA : hit mB mA = false := by decide +kernel
theorem hBB : hit mB mB = true := by decide +kernel
theorem hKab (k : Str) : hit k mAB = true := by simp [hit]
theorem hABk (m : Str) : hit mAB m = true := by simp [hit]
theorem EndAB.tail {p : Pc} {L : List Pc} (h : EndAB (p :: L)) (n : L ≠ []) : EndAB L := by
  obtain ⟨m, hm⟩ := h
  cases L with
  | nil => exact absurd rfl n
  | cons q L => exact ⟨m, by rw [← hm]; rfl⟩
theorem EndAB.one {p : Pc} (h : EndAB [p]) : p.2 = mAB := by
  obtain ⟨m, hm⟩ := h
  simp at hm
  rw [hm]
theorem LnT.tail {p : Pc} {L : List Pc} (h : LnT (p :: L)) (n : L ≠ []) : LnT L := ⟨fun q hq => h.ok q (by simp [hq]), h.last.tail n⟩
theorem LnT.ne {L : List Pc} (h : LnT L) : L ≠ [] := by
  rintro rfl
  obtain ⟨m, hm⟩ := h.last
  cases hm
theorem lens_first (k : Str) : ∀ {L : List Pc}, LnT L → ∃ (h : Int) (t : List Int), 0 < h ∧ ∀ o, lens k L o = (o + h) :: t
  | [], h => absurd rfl h.ne
  | p :: L, h => by
    have hp := h.ok p (by simp)
    by_cases hh : hit k p.2 = true
    · exact ⟨p.1, lens k L 0, hp.1, fun o => by rw [lens, if_pos hh]⟩
    · have n : L ≠ [] := by
        rintro rfl
        rw [h.last.one, hKab] at hh
        exact hh rfl
      obtain ⟨a, t, ha, e⟩ := lens_first k (h.tail n)
      exact ⟨p.1 + a, t, by have := hp.1; omega, fun o => by rw [lens, if_neg hh, e, Int.add_assoc]⟩
theorem lens_pos (k : Str) : ∀ (L : List Pc) (o : Int), 0 ≤ o → (∀ p ∈ L, PcOk p) → ∀ x ∈ lens k L o, 0 < x
  | [], _, _, _, x, hx => by cases hx
  | p :: L, o, ho, hp, x, hx => by
    have h1 := (hp p (by simp)).1
    have ht : ∀ q ∈ L, PcOk q := fun q hq => hp q (by simp [hq])
    rw [lens] at hx
    split at hx
    · rcases List.mem_cons.mp hx with rfl | hx
      · omega
      · exact lens_pos k L 0 (by omega) ht x hx
    · exact lens_pos k L _ (by omega) ht x hx
/-- what is joined; f: fuel -/
def joinN : Nat → List Int → List Int → List Pc
  | f + 1, a :: l, b :: r => if a < b then (a, mA) :: joinN f l ((b - a) :: r) else if b < a then (b, mB) :: joinN f ((a - b) :: l) r else (a, mAB) :: joinN f l r
  | _, _, _ => []
def join (l r : List Int) : List Pc := joinN (l.length + r.length) l r
theorem joinN_more : ∀ (f g : Nat) (l r : List Int), l.length + r.length ≤ f → f ≤ g → joinN g l r = joinN f l r
  | f, g, [], r, _, _ => by cases f <;> cases g <;> rfl
  | f, g, a :: l, [], _, _ => by cases f <;> cases g <;> rfl
  | 0, _, a :: l, b :: r, h, _ => by simp at h
  | f + 1, 0, _, _, _, h => by omega
  | f + 1, g + 1, a :: l, b :: r, h, hg => by
    simp only [List.length_cons] at h
    rw [joinN, joinN, joinN_more f g l _ (by simp; omega) (by omega), joinN_more f g _ r (by simp; omega) (by omega), joinN_more f g l r (by omega) (by omega)]
theorem join_nil (r : List Int) : join [] r = [] := by unfold join; cases r <;> rfl
theorem join_lt {a b : Int} {l r : List Int} (h : a < b) : join (a :: l) (b :: r) = (a, mA) :: join l ((b - a) :: r) := by
  unfold join
  rw [List.length_cons, List.length_cons, show l.length + 1 + (r.length + 1) = (l.length + ((b - a) :: r).length) + 1 by simp; omega, joinN, if_pos h]
theorem join_gt {a b : Int} {l r : List Int} (h : b < a) : join (a :: l) (b :: r) = (b, mB) :: join ((a - b) :: l) r := by
  unfold join
  rw [List.length_cons, List.length_cons, show l.length + 1 + (r.length + 1) = (((a - b) :: l).length + r.length) + 1 by simp; omega, joinN, if_neg (by omega), if_pos h]
theorem join_eq {a : Int} {l r : List Int} : join (a :: l) (a :: r) = (a, mAB) :: join l r := by
  unfold join
  rw [List.length_cons, List.length_cons, show l.length + 1 + (r.length + 1) = (l.length + r.length) + 1 + 1 by omega, joinN, if_neg (by omega), if_neg (by omega), joinN_more (l.length + r.length) _ l r (Nat.le_refl _) (by omega)]
def sumI (ns : List Int) : Int := ns.foldr (· + ·) 0
theorem sumI_cons (a : Int) (l : List Int) : sumI (a :: l) = a + sumI l := rfl
theorem sumI_app : ∀ l r : List Int, sumI (l ++ r) = sumI l + sumI r
  | [], r => by simp [sumI]
  | a :: l, r => by rw [List.cons_append, sumI_cons, sumI_cons, sumI_app l r]; omega
theorem sumI_rev : ∀ l : List Int, sumI l.reverse = sumI l
  | [] => rfl
  | a :: l => by rw [List.reverse_cons, sumI_app, sumI_rev l, sumI_cons, sumI_cons]; simp only [sumI, List.foldr]; omega
theorem sumI_pos : ∀ {l : List Int}, (∀ x ∈ l, 0 < x) → l ≠ [] → 0 < sumI l
  | [], _, n => absurd rfl n
  | [a], h, _ => by have := h a (by simp); simp only [sumI, List.foldr]; omega
  | a :: b :: l, h, _ => by
    have := h a (by simp)
    have := sumI_pos (l := b :: l) (fun x hx => h x (by simp [hx])) (by simp)
    rw [sumI_cons]; omega
theorem sumI_nonneg {l : List Int} (h : ∀ x ∈ l, 0 < x) : 0 ≤ sumI l := by
  cases l with
  | nil => exact Int.le_refl _
  | cons a l => exact Int.le_of_lt (sumI_pos h (by simp))
/-- lengths that can be joined -/
structure Two (l r : List Int) : Prop where
  pl : ∀ x ∈ l, 0 < x
  pr : ∀ x ∈ r, 0 < x
  sum : sumI l = sumI r
theorem Two.nil {l r : List Int} (h : Two l r) : l = [] ↔ r = [] := by
  constructor
  · rintro rfl
    by_cases hr : r = []
    · exact hr
    · have := sumI_pos h.pr hr
      have := h.sum
      simp only [sumI, List.foldr_nil] at *
      omega
  · rintro rfl
    by_cases hr : l = []
    · exact hr
    · have := sumI_pos h.pl hr
      have := h.sum
      simp only [sumI, List.foldr_nil] at *
      omega
theorem Two.lt {a b : Int} {l r : List Int} (h : Two (a :: l) (b :: r)) (hl : a < b) : Two l ((b - a) :: r) := by
  have := h.sum
  simp only [sumI_cons] at this
  refine ⟨fun x hx => h.pl x (by simp [hx]), fun x hx => ?_, by rw [sumI_cons]; omega⟩
  rcases List.mem_cons.mp hx with rfl | hx
  · omega
  · exact h.pr x (by simp [hx])
theorem Two.symm {l r : List Int} (h : Two l r) : Two r l := ⟨h.pr, h.pl, h.sum.symm⟩
theorem Two.gt {a b : Int} {l r : List Int} (h : Two (a :: l) (b :: r)) (hl : b < a) : Two ((a - b) :: l) r := (h.symm.lt hl).symm
theorem Two.eq {a : Int} {l r : List Int} (h : Two (a :: l) (a :: r)) : Two l r := by
  have := h.sum
  simp only [sumI_cons] at this
  exact ⟨fun x hx => h.pl x (by simp [hx]), fun x hx => h.pr x (by simp [hx]), by omega⟩
/-- by steps of the joining -/
theorem Two.rec' {P : List Int → List Int → Prop} (h0 : P [] []) (hlt : ∀ a b l r, a < b → Two (a :: l) (b :: r) → P l ((b - a) :: r) → P (a :: l) (b :: r)) (hgt : ∀ a b l r, b < a → Two (a :: l) (b :: r) → P ((a - b) :: l) r → P (a :: l) (b :: r))
    (heq : ∀ a l r, Two (a :: l) (a :: r) → P l r → P (a :: l) (a :: r)) : ∀ (n : Nat) (l r : List Int), l.length + r.length ≤ n → Two l r → P l r
  | n, [], r, _, h => by rw [h.nil.mp rfl]; exact h0
  | n, a :: l, [], _, h => by have := h.nil.mpr rfl; cases this
  | 0, a :: l, b :: r, hn, _ => by simp at hn
  | n + 1, a :: l, b :: r, hn, h => by
    simp only [List.length_cons] at hn
    by_cases h1 : a < b
    · exact hlt a b l r h1 h (Two.rec' h0 hlt hgt heq n l _ (by simp; omega) (h.lt h1))
    · by_cases h2 : b < a
      · exact hgt a b l r h2 h (Two.rec' h0 hlt hgt heq n _ r (by simp; omega) (h.gt h2))
      · obtain rfl : a = b := by omega
        exact heq a l r h (Two.rec' h0 hlt hgt heq n l r (by omega) h.eq)
theorem Two.ind {P : List Int → List Int → Prop} {l r : List Int} (h : Two l r) (h0 : P [] []) (hlt : ∀ a b l r, a < b → Two (a :: l) (b :: r) → P l ((b - a) :: r) → P (a :: l) (b :: r)) (hgt : ∀ a b l r, b < a → Two (a :: l) (b :: r) → P ((a - b) :: l) r → P (a :: l) (b :: r))
    (heq : ∀ a l r, Two (a :: l) (a :: r) → P l r → P (a :: l) (a :: r)) : P l r := Two.rec' h0 hlt hgt heq _ l r (Nat.le_refl _) h
theorem join_ok {l r : List Int} (h : Two l r) : (∀ p ∈ join l r, PcOk p) ∧ (l ≠ [] → EndAB (join l r)) := by
  refine h.ind (P := fun l r => (∀ p ∈ join l r, PcOk p) ∧ (l ≠ [] → EndAB (join l r))) ⟨by rw [join_nil]; simp, fun n => absurd rfl n⟩ ?_ ?_ ?_
  · intro a b l r hl ht ih
    rw [join_lt hl]
    have hne : l ≠ [] := fun z => by
      have := ((ht.lt hl).nil.mp z)
      cases this
    refine ⟨fun p hp => ?_, fun _ => ?_⟩
    · rcases List.mem_cons.mp hp with rfl | hp
      · exact ⟨ht.pl a (by simp), .inl rfl⟩
      · exact ih.1 p hp
    · obtain ⟨m, hm⟩ := ih.2 hne
      exact ⟨m, by rw [List.getLast?_cons, hm]; rfl⟩
  · intro a b l r hl ht ih
    rw [join_gt hl]
    refine ⟨fun p hp => ?_, fun _ => ?_⟩
    · rcases List.mem_cons.mp hp with rfl | hp
      · exact ⟨ht.pr b (by simp), .inr (.inl rfl)⟩
      · exact ih.1 p hp
    · obtain ⟨m, hm⟩ := ih.2 (by simp)
      exact ⟨m, by rw [List.getLast?_cons, hm]; rfl⟩
  · intro a l r ht ih
    rw [join_eq]
    refine ⟨fun p hp => ?_, fun _ => ?_⟩
    · rcases List.mem_cons.mp hp with rfl | hp
      · exact ⟨ht.pl a (by simp), .inr (.inr rfl)⟩
      · exact ih.1 p hp
    · by_cases hl : l = []
      · subst hl
        rw [join_nil]
        exact ⟨a, rfl⟩
      · obtain ⟨m, hm⟩ := ih.2 hl
        exact ⟨m, by rw [List.getLast?_cons, hm]; rfl⟩
theorem join_ln {l r : List Int} (h : Two l r) (n : l ≠ []) : LnT (join l r) := ⟨(join_ok h).1, (join_ok h).2 n⟩
theorem join_len {l r : List Int} (h : Two l r) : (join l r).length ≤ l.length + r.length := by
  refine h.ind (P := fun l r => (join l r).length ≤ l.length + r.length) (by rw [join_nil]; simp) ?_ ?_ ?_
  · intro a b l r hl _ ih; rw [join_lt hl]; simp at *; omega
  · intro a b l r hl _ ih; rw [join_gt hl]; simp at *; omega
  · intro a l r _ ih; rw [join_eq]; simp at *; omega
theorem lens_o (k : Str) {L : List Pc} (h : LnT L) {a : Int} {t : List Int} {o : Int} (e : lens k L 0 = a :: t) : lens k L o = (o + a) :: t := by
  obtain ⟨h0, t0, _, f⟩ := lens_first k h
  rw [f 0] at e
  cases e
  rw [f o, Int.zero_add]
theorem join_lens {l r : List Int} (h : Two l r) : lens mA (join l r) 0 = l ∧ lens mB (join l r) 0 = r := by
  refine h.ind (P := fun l r => lens mA (join l r) 0 = l ∧ lens mB (join l r) 0 = r) (by rw [join_nil]; exact ⟨rfl, rfl⟩) ?_ ?_ ?_
  · intro a b l r hl ht ih
    have hne : l ≠ [] := fun z => by have := ((ht.lt hl).nil.mp z); cases this
    rw [join_lt hl]
    refine ⟨by rw [lens, if_pos hAA, ih.1, Int.zero_add], ?_⟩
    rw [lens, if_neg (by rw [hBA]; simp), lens_o mB (join_ln (ht.lt hl) hne) ih.2]
    congr 1
    omega
  · intro a b l r hl ht ih
    rw [join_gt hl]
    refine ⟨?_, by rw [lens, if_pos hBB, ih.2, Int.zero_add]⟩
    rw [lens, if_neg (by rw [hAB]; simp), lens_o mA (join_ln (ht.gt hl) (by simp)) ih.1]
    congr 1
    omega
  · intro a l r ht ih
    rw [join_eq]
    exact ⟨by rw [lens, if_pos (hKab _), ih.1, Int.zero_add], by rw [lens, if_pos (hKab _), ih.2, Int.zero_add]⟩
theorem lens_sum (k : Str) : ∀ (L : List Pc) (o : Int), (LnT L) → sumI (lens k L o) = o + sumI (L.map (·.1))
  | [], _, h => absurd rfl h.ne
  | p :: L, o, h => by
    rw [lens, List.map_cons, sumI_cons]
    by_cases n : L = []
    · subst n
      rw [if_pos (by rw [h.last.one]; exact hKab k), lens]
      simp only [sumI, List.foldr, List.map_nil]
      omega
    · have ih := fun o => lens_sum k L o (h.tail n)
      split
      · rw [sumI_cons, ih]; omega
      · rw [ih]; omega
theorem lens_two {L : List Pc} (h : LnT L) : Two (lens mA L 0) (lens mB L 0) := ⟨lens_pos mA L 0 (by omega) h.ok, lens_pos mB L 0 (by omega) h.ok, by rw [lens_sum _ _ _ h, lens_sum _ _ _ h]⟩
/-- a line is what its lengths are joined to -/
theorem lens_join : ∀ {L : List Pc}, LnT L → join (lens mA L 0) (lens mB L 0) = L
  | [], h => absurd rfl h.ne
  | (n, m) :: L, h => by
    have hp := h.ok (n, m) (by simp)
    by_cases nn : L = []
    · subst nn
      have e := h.last.one
      dsimp only at e
      subst e
      simp only [lens, hKab, if_true, Int.zero_add, join_eq, join_nil]
    · have ht := h.tail nn
      have ih := lens_join ht
      obtain ⟨a, ta, pa, ea⟩ := lens_first mA ht
      obtain ⟨b, tb, pb, eb⟩ := lens_first mB ht
      have hm : Mark m := hp.2
      rcases hm with rfl | rfl | rfl
      · rw [lens, lens, if_pos hAA, if_neg (by rw [hBA]; simp), eb (0 + n), join_lt (by omega), Int.zero_add, show n + b - n = 0 + b by omega, ← eb 0, ih]
      · rw [lens, lens, if_neg (by rw [hAB]; simp), if_pos hBB, ea (0 + n), join_gt (by omega), Int.zero_add, show n + a - n = 0 + a by omega, ← ea 0, ih]
      · rw [lens, lens, if_pos (hKab _), if_pos (hKab _), join_eq, ih, Int.zero_add]
/-- two lines with the same lengths are one -/
theorem line_ext {L M : List Pc} (h : LnT L) (h' : LnT M) (ea : lens mA L 0 = lens mA M 0) (eb : lens mB L 0 = lens mB M 0) : L = M := by
  rw [← lens_join h, ← lens_join h', ea, eb]
/-! ### the mirrored line -/
def mirT (b : Str) : List Pc → List Pc
  | [] => []
  | p :: L => mirT p.2 L ++ [(p.1, b)]
def mir (L : List Pc) : List Pc := mirT mAB L
theorem mirT_len : ∀ (b : Str) (L : List Pc), (mirT b L).length = L.length
  | _, [] => rfl
  | b, p :: L => by rw [mirT, List.length_append, mirT_len]; rfl
theorem mirT_ok : ∀ (b : Str) (L : List Pc), Mark b → (∀ p ∈ L, PcOk p) → ∀ p ∈ mirT b L, PcOk p
  | _, [], _, _, p, hp => by cases hp
  | b, q :: L, hb, h, p, hp => by
    rw [mirT] at hp
    have hq := h q (by simp)
    rcases List.mem_append.mp hp with hp | hp
    · exact mirT_ok q.2 L hq.2 (fun x hx => h x (by simp [hx])) p hp
    · rw [List.mem_singleton.mp hp]; exact ⟨hq.1, hb⟩
theorem mir_ln {L : List Pc} (h : LnT L) : LnT (mir L) := by
  refine ⟨mirT_ok _ _ (.inr (.inr rfl)) h.ok, ?_⟩
  cases L with
  | nil => exact absurd rfl h.ne
  | cons p L => exact ⟨p.1, by rw [mir, mirT]; simp⟩
theorem mirT_lens (k : Str) : ∀ (L : List Pc) (b : Str) (B : List Pc), LnT L → ∀ (h : Int) (t : List Int), lens k L 0 = h :: t → lens k (mirT b L ++ B) 0 = t.reverse ++ (if hit k b = true then h :: lens k B 0 else lens k B h)
  | [], _, _, hl, _, _, _ => absurd rfl hl.ne
  | p :: L, b, B, hl, h, t, e => by
    rw [mirT, List.append_assoc]
    by_cases n : L = []
    · subst n
      rw [lens, if_pos (by rw [hl.last.one]; exact hKab k), lens] at e
      cases e
      simp only [mirT, List.nil_append, List.cons_append, lens, List.reverse_nil, Int.zero_add]
    · have hl' := hl.tail n
      obtain ⟨h', t', _, hf⟩ := lens_first k hl'
      have ih := mirT_lens k L p.2 ([(p.1, b)] ++ B) hl' (0 + h') t' (hf 0)
      rw [ih]
      rw [lens] at e
      by_cases hh : hit k p.2 = true
      · rw [if_pos hh] at e ⊢
        rw [hf 0] at e
        cases e
        simp only [List.cons_append, List.nil_append, lens, List.reverse_cons, List.append_assoc, Int.zero_add]
      · rw [if_neg hh] at e ⊢
        rw [hf] at e
        cases e
        simp only [List.cons_append, List.nil_append, lens, Int.zero_add]
        rw [show h' + p.1 = p.1 + h' by omega]
theorem mir_lens {L : List Pc} (h : LnT L) (k : Str) : lens k (mir L) 0 = (lens k L 0).reverse := by
  obtain ⟨x, t, _, hf⟩ := lens_first k h
  have := mirT_lens k L mAB [] h _ _ (hf 0)
  rw [List.append_nil, if_pos (hKab k)] at this
  rw [mir, this, hf 0]
  simp [lens]
theorem mir_join {L : List Pc} (h : LnT L) : mir L = join (lens mA L 0).reverse (lens mB L 0).reverse := by
  rw [← mir_lens h, ← mir_lens h, lens_join (mir_ln h)]
theorem mir_mir {L : List Pc} (h : LnT L) : mir (mir L) = L := by
  have h2 := mir_ln (mir_ln h)
  exact line_ext h2 h (by rw [mir_lens (mir_ln h), mir_lens h, List.reverse_reverse]) (by rw [mir_lens (mir_ln h), mir_lens h, List.reverse_reverse])
/-! ### typed contracts -/
theorem line_typed {ps : List D} (h : Line ps) : ∃ L : List Pc, ps = L.map eP ∧ LnT L ∧ ∀ p ∈ L, p.1 ≤ 10000000000000 := by
  obtain ⟨hp, n, hl⟩ := h
  have : ∀ ps : List D, (∀ p ∈ ps, Piece p) → ∃ L : List Pc, ps = L.map eP ∧ ∀ p ∈ L, PcOk p ∧ p.1 ≤ 10000000000000 := by
    intro ps
    induction ps with
    | nil => intro _; exact ⟨[], rfl, by simp⟩
    | cons p ps ih =>
      intro h
      obtain ⟨L, e, hL⟩ := ih fun x hx => h x (by simp [hx])
      obtain ⟨n, m, rfl, h1, h2, hm⟩ := h p (by simp)
      refine ⟨(n, m) :: L, by rw [List.map_cons, e]; rfl, fun x hx => ?_⟩
      rcases List.mem_cons.mp hx with rfl | hx
      · exact ⟨⟨h1, hm⟩, h2⟩
      · exact hL x hx
  obtain ⟨L, rfl, hL⟩ := this ps hp
  refine ⟨L, rfl, ⟨fun p hp => (hL p hp).1, ?_⟩, fun p hp => (hL p hp).2⟩
  rw [List.getLast?_map] at hl
  cases hh : L.getLast? with
  | none => rw [hh] at hl; cases hl
  | some p =>
    rw [hh] at hl
    obtain ⟨a, b⟩ := p
    simp [eP] at hl
    exact ⟨a, by rw [hh, hl.2]⟩
theorem okI (ns : List Int) : Ok 1 (eI ns) := Ok.list (n := 0) fun x hx => by
  obtain ⟨i, _, rfl⟩ := List.mem_map.mp hx
  exact Ok.i
theorem okL {L : List Pc} (h : ∀ p ∈ L, Mark p.2) : Ok 2 (eL L) := Ok.list (n := 1) fun x hx => by
  obtain ⟨p, hp, rfl⟩ := List.mem_map.mp hx
  refine Ok.tuple (n := 0) fun y hy => ?_
  simp only [List.mem_cons, List.not_mem_nil, or_false] at hy
  rcases hy with rfl | rfl
  · exact Ok.i
  · exact Ok.s (h p hp).str
theorem LnT.okD {L : List Pc} (h : LnT L) : Ok 2 (eL L) := okL fun p hp => (h.ok p hp).2
def c_lineT : TD := fun ds q _ => ∃ d most c, ds = [d, .int most] ∧ Deck c d ∧ c < 10000 ∧ 1 ≤ most ∧ most ≤ 1000 ∧ ∀ (L : List Pc) d', LnT L → (∀ p ∈ L, p.1 ≤ 10000000000000) → (L.length : Int) ≤ most → Deck (c + 6 + 2 * most) d' → q (eL L) [d']
theorem p_lineT (ds : List D) (q : D → List D → Prop) (e : DE) (h : c_lineT ds q e) : t__law_line c_pick ds q e := by
  obtain ⟨d, most, c, rfl, hd, hc, hm, hm2, h⟩ := h
  refine p_line _ _ _ ⟨d, most, c, rfl, hd, hc, hm, hm2, fun ps d' hl hlen hd' => ?_⟩
  obtain ⟨L, rfl, hL, hb⟩ := line_typed hl
  exact h L d' hL hb (by simpa using hlen) hd'
/-! ### ints in lists -/
theorem any_int (ns : List Int) (p : Int) : ((ns.map PyData.int).any fun e => PyData.eqv e (.int p)) = decide (p ∈ ns) := by
  rw [List.any_map, Bool.eq_iff_iff, List.any_eq_true, decide_eq_true_eq]
  constructor
  · rintro ⟨x, hx, e⟩
    have : x = p := by simpa [PyData.eqv] using e
    exact this ▸ hx
  · intro h
    exact ⟨p, h, by simp [PyData.eqv]⟩
theorem sum_I (ns : List Int) : ns.sum = sumI ns := rfl
theorem eqv_int (a b : Int) : PyData.eqv (.int a) (.int b) = decide (a = b) := by
  rw [Bool.eq_iff_iff]; simp [PyData.eqv]
theorem eqv_str (a b : Str) : PyData.eqv (.str a) (.str b) = decide (a = b) := by
  rw [Bool.eq_iff_iff]; simp [PyData.eqv]
/-! ### the lengths, on pairs -/
def c_lensT : TD := fun ds q _ => ∃ (L : List Pc) (k : Str), ds = [eL L, .str k] ∧ (∀ p ∈ L, Mark p.2) ∧ L.length ≤ 1000000 ∧ Mark k ∧ q (eI (lens k L 0)) []
theorem p_lensT1 (ds : List D) (q : D → List D → Prop) (e : DE) (h : c_lensT ds q e) : t_lengths_of ds q e := by
  obtain ⟨L, knife, rfl, hp, hl, hk, h⟩ := h
  simp only [EX0, t_lengths_of, m_lengths_of, eL]
  refine forD_map (fun pre ρ => ∃ post o x1 x2, ∃ F : List Int, L = pre ++ post ∧ F.length ≤ pre.length ∧ F ++ lens knife post o = lens knife L 0 ∧ ρ = [.list (L.map eP), .str knife, .list (F.map .int), .int o, x1, x2]) ⟨L, 0, _, _, [], rfl, Nat.le_refl _, rfl, rfl⟩ ?_ ?_
  · rintro pre ⟨n, m⟩ post ρ k ex ⟨post', o, x1, x2, F, e1, e2, e3, rfl⟩ hk'
    obtain rfl : post' = (n, m) :: post := List.append_cancel_left (e1.symm.trans ex)
    have hm : Mark m := hp (n, m) (by rw [ex]; simp)
    have hlen := congrArg List.length ex
    rw [List.length_append, List.length_cons] at hlen
    rw [lens] at e3
    simp only [EV0, eP]
    refine ⟨hk.ok, okS, or2 (occ hk hm) (fun hh => ?_) fun hh => ?_⟩
    · rw [if_pos hh] at e3
      exact ⟨by rw [List.length_map]; omega, hk' _ ⟨post, 0, .int n, .str m, F ++ [o + n], by rw [ex]; simp, by simp; omega, by rw [← e3]; simp, by simp⟩⟩
    · rw [if_neg hh] at e3
      exact hk' _ ⟨post, _, .int n, .str m, F, by rw [ex]; simp, by simp; omega, e3, rfl⟩
  · rintro ρ ⟨post, o, x1, x2, F, e1, e2, e3, rfl⟩
    obtain rfl : post = [] := by simpa using e1
    simp only [EX0]
    simp only [lens, List.append_nil] at e3
    rw [e3]
    exact h
/-! ### how many lines can fit -/
def blk : List Int → List Bool → Int → List Int
  | x :: xs, b :: bs, o => if b = true then (o + x) :: blk xs bs 0 else blk xs bs (o + x)
  | _, _, _ => []
theorem blk_len : ∀ (xs : List Int) (bs : List Bool) (o : Int), xs.length = bs.length → (blk xs bs o).length = bs.count true
  | [], [], _, _ => rfl
  | [], _ :: _, _, h => by simp at h
  | _ :: _, [], _, h => by simp at h
  | x :: xs, b :: bs, o, h => by
    have h' : xs.length = bs.length := by simpa using h
    cases b with
    | true => rw [blk, if_pos rfl, List.length_cons, blk_len xs bs 0 h', List.count_cons_self]
    | false => rw [blk, if_neg (by simp), blk_len xs bs _ h', List.count_cons_of_ne (by simp)]
theorem len_fm {α β : Type} (f : α → List β) (k : Nat) : ∀ l : List α, (∀ x ∈ l, (f x).length ≤ k) → (l.flatMap f).length ≤ l.length * k
  | [], _ => by simp
  | x :: l, h => by
    have h1 := h x (by simp)
    have h2 := len_fm f k l fun y hy => h y (by simp [hy])
    rw [List.flatMap_cons, List.length_append, List.length_cons, Nat.add_mul]
    omega
def orders : Nat → List Int → List (List Int)
  | 0, _ => [[]]
  | n + 1, P => (P.take (n + 1)).flatMap fun x => (orders n (P.erase x)).map (x :: ·)
def fac : Nat → Nat
  | 0 => 1
  | n + 1 => (n + 1) * fac n
theorem orders_len : ∀ (n : Nat) (P : List Int), (orders n P).length ≤ fac n
  | 0, _ => by simp [orders, fac]
  | n + 1, P => by
    refine Nat.le_trans (len_fm _ (fac n) _ fun x _ => ?_) ?_
    · rw [List.length_map]; exact orders_len n _
    · rw [fac, List.length_take]
      exact Nat.mul_le_mul_right _ (Nat.min_le_left _ _)
theorem orders_mem : ∀ (o P : List Int), o.Perm P → o ∈ orders o.length P
  | [], _, _ => by simp [orders]
  | x :: o, P, h => by
    have hx : x ∈ P := h.mem_iff.mp (by simp)
    have hl := h.length_eq
    rw [List.length_cons, orders, List.take_of_length_le (by rw [← hl]; simp), List.mem_flatMap]
    refine ⟨x, hx, List.mem_map.mpr ⟨o, orders_mem o _ ?_, rfl⟩⟩
    have := h.erase x
    rwa [List.erase_cons_head] at this
/-- orders by the sums that are told -/
def byA : List Bool → List Int → Int → List Int → List (List Int)
  | [], _, _, _ => [[]]
  | true :: bs, a :: as, o, P => (byA bs as 0 (P.erase (a - o))).map ((a - o) :: ·)
  | true :: _, [], _, _ => []
  | false :: bs, as, o, P => (P.take (bs.length + 1)).flatMap fun x => (byA bs as (o + x) (P.erase x)).map (x :: ·)
def byN : List Bool → Nat
  | [] => 1
  | true :: bs => byN bs
  | false :: bs => (bs.length + 1) * byN bs
theorem byA_len : ∀ (bs : List Bool) (as : List Int) (o : Int) (P : List Int), (byA bs as o P).length ≤ byN bs
  | [], _, _, _ => by simp [byA, byN]
  | true :: bs, a :: as, o, P => by rw [byA, byN, List.length_map]; exact byA_len bs _ _ _
  | true :: _, [], _, _ => by simp [byA]
  | false :: bs, as, o, P => by
    rw [byA, byN]
    refine Nat.le_trans (len_fm _ (byN bs) _ fun x _ => ?_) ?_
    · rw [List.length_map]; exact byA_len bs _ _ _
    · rw [List.length_take]
      exact Nat.mul_le_mul_right _ (Nat.min_le_left _ _)
theorem byA_mem : ∀ (xs : List Int) (bs : List Bool) (o : Int) (P : List Int), xs.length = bs.length → xs.Perm P → xs ∈ byA bs (blk xs bs o) o P
  | [], [], _, _, _, _ => by simp [byA]
  | [], _ :: _, _, _, h, _ => by simp at h
  | _ :: _, [], _, _, h, _ => by simp at h
  | x :: xs, b :: bs, o, P, h, hp => by
    have h' : xs.length = bs.length := by simpa using h
    have he : xs.Perm (P.erase x) := by
      have := hp.erase x
      rwa [List.erase_cons_head] at this
    have hx : x ∈ P := hp.mem_iff.mp (by simp)
    have hl := hp.length_eq
    cases b with
    | true =>
      rw [blk, if_pos rfl, byA, show o + x - o = x by omega]
      exact List.mem_map.mpr ⟨xs, byA_mem xs bs 0 _ h' he, rfl⟩
    | false =>
      rw [blk, if_neg (by simp), byA, List.take_of_length_le (by rw [← hl, List.length_cons, h']; exact Nat.le_refl _), List.mem_flatMap]
      exact ⟨x, hx, List.mem_map.mpr ⟨xs, byA_mem xs bs _ _ h' he, rfl⟩⟩
/-- one cut is missing: the two that come together are told -/
theorem pair_one {x y x' y' : Int} {w w' A P : List Int} (hx : 0 < x) (hy : 0 < y) (hx' : 0 < x') (hy' : 0 < y') (a : ((x + y) :: w).Perm A) (p : (x :: y :: w).Perm P)
    (a' : ((x' + y') :: w').Perm A) (p' : (x' :: y' :: w').Perm P) : w.Perm w' ∧ (x = x' ∧ y = y' ∨ x = y' ∧ y = x') := by
  have ea : ∀ k, ((x + y) :: w).count k = ((x' + y') :: w').count k := fun k => (a.trans a'.symm).count_eq k
  have ep : ∀ k, (x :: y :: w).count k = (x' :: y' :: w').count k := fun k => (p.trans p'.symm).count_eq k
  have es : x + y = x' + y' := by
    apply Classical.byContradiction
    intro ne
    rcases Int.lt_or_gt_of_ne ne with lt | lt
    · have h1 := ea (x' + y')
      have h2 := ep (x' + y')
      simp only [List.count_cons, beq_iff_eq] at h1 h2
      rw [if_neg (by omega), if_true] at h1
      rw [if_neg (show ¬ x' = x' + y' by omega), if_neg (show ¬ y' = x' + y' by omega)] at h2
      omega
    · have h1 := ea (x + y)
      have h2 := ep (x + y)
      simp only [List.count_cons, beq_iff_eq] at h1 h2
      rw [if_true, if_neg (by omega)] at h1
      rw [if_neg (show ¬ x = x + y by omega), if_neg (show ¬ y = x + y by omega)] at h2
      omega
  have hw : w.Perm w' := by
    have := a.trans a'.symm
    rw [es] at this
    exact this.cons_inv
  refine ⟨hw, ?_⟩
  have hc : ∀ k, [x, y].count k = [x', y'].count k := fun k => by
    have h1 := ep k
    have h2 := hw.count_eq k
    simp only [List.count_cons, List.count_nil] at *
    omega
  have h1 := hc x
  simp only [List.count_cons, List.count_nil, beq_iff_eq, if_pos trivial] at h1
  by_cases e : x' = x
  · exact .inl ⟨e.symm, by omega⟩
  · refine .inr ⟨?_, ?_⟩ <;> · rw [if_neg e] at h1; split at h1 <;> split at h1 <;> omega

theorem blk_true : ∀ (xs : List Int) (bs : List Bool), xs.length = bs.length → bs.count false = 0 → blk xs bs 0 = xs
  | [], _, _, _ => by simp [blk]
  | _ :: _, [], h, _ => by simp at h
  | x :: xs, b :: bs, h, hc => by
    cases b with
    | false => simp at hc
    | true => rw [blk, if_pos rfl, blk_true xs bs (by simpa using h) (by simpa using hc), Int.zero_add]
theorem blk_one : ∀ (xs : List Int) (bs : List Bool), xs.length = bs.length → bs.count false = 1 → bs.getLast? = some true →
    ∃ u x y v, xs = u ++ x :: y :: v ∧ u.length = bs.idxOf false ∧ blk xs bs 0 = u ++ (x + y) :: v
  | [], [], _, h, _ => by simp at h
  | [], _ :: _, h, _, _ => by simp at h
  | _ :: _, [], h, _, _ => by simp at h
  | x :: xs, true :: bs, h, hc, hl => by
    have hb : bs ≠ [] := by rintro rfl; simp at hc
    obtain ⟨u, a, b, v, rfl, e1, e2⟩ := blk_one xs bs (by simpa using h) (by simpa using hc) (by
      cases bs with
      | nil => exact absurd rfl hb
      | cons c bs => rw [← hl]; rfl)
    exact ⟨x :: u, a, b, v, rfl, by rw [List.length_cons, e1]; simp [List.idxOf_cons], by rw [blk, if_pos rfl, e2, Int.zero_add]; rfl⟩
  | [x], [false], _, _, hl => by simp at hl
  | x :: y :: xs, false :: b :: bs, h, hc, hl => by
    cases b with
    | false => simp at hc
    | true => exact ⟨[], x, y, xs, rfl, by simp, by rw [blk, if_neg (by simp), blk, if_pos rfl, blk_true xs bs (by simpa using h) (by simpa using hc), Int.zero_add]; rfl⟩
  | [_], false :: _ :: _, h, _, _ => by simp at h
  | _ :: _ :: _, [false], h, _, _ => by simp at h
/-- all orders of P with these sums are in a list of at most k -/
def Cov (P A B : List Int) (r : List Bool × List Bool) (k : Nat) : Prop := ∃ C : List (List Int), C.length ≤ k ∧ ∀ o : List Int, o.Perm P → (blk o r.1 0).Perm A → (blk o r.2 0).Perm B → o ∈ C
theorem Cov.swap {P A B : List Int} {a b : List Bool} {k : Nat} (h : Cov P B A (b, a) k) : Cov P A B (a, b) k := by
  obtain ⟨C, hl, hc⟩ := h
  exact ⟨C, hl, fun o h1 h2 h3 => hc o h1 h3 h2⟩
theorem cov_all (P A B : List Int) (r : List Bool × List Bool) : Cov P A B r (fac P.length) := ⟨orders P.length P, orders_len _ _, fun o h1 _ _ => by
  have := orders_mem o P h1
  rwa [h1.length_eq] at this⟩
theorem cov_by {P A B : List Int} {a b : List Bool} (hl : a.length = P.length) : Cov P A B (a, b) (fac A.length * byN a) := by
  refine ⟨(orders A.length A).flatMap fun as => byA a as 0 P, ?_, fun o h1 h2 _ => List.mem_flatMap.mpr ⟨blk o a 0, ?_, byA_mem o a 0 P (by rw [h1.length_eq, hl]) h1⟩⟩
  · exact Nat.le_trans (len_fm _ (byN a) _ fun x _ => byA_len _ _ _ _) (Nat.mul_le_mul_right _ (orders_len _ _))
  · have := orders_mem _ _ h2
    rwa [h2.length_eq] at this
theorem cov_one {P A B : List Int} {a b : List Bool} (hp : ∀ x ∈ P, 0 < x) (hl : a.length = P.length) (h5 : P.length = 5) (hc : a.count false = 1) (ht : a.getLast? = some true) : Cov P A B (a, b) 12 := by
  by_cases ex : ∃ o : List Int, o.Perm P ∧ (blk o a 0).Perm A
  · obtain ⟨o0, p0, a0⟩ := ex
    obtain ⟨u0, x0, y0, v0, e0, i0, s0⟩ := blk_one o0 a (by rw [p0.length_eq, hl]) hc ht
    have m0 : ∀ {u v : List Int} {z : Int}, (u ++ z :: v).Perm (z :: (u ++ v)) := List.perm_middle
    have m1 : ∀ {u v : List Int} {z t : Int}, (u ++ z :: t :: v).Perm (z :: t :: (u ++ v)) := fun {u v z t} => List.perm_middle.trans (List.perm_middle.cons z)
    refine ⟨(orders 3 (u0 ++ v0)).flatMap fun w => [w.take (a.idxOf false) ++ x0 :: y0 :: w.drop (a.idxOf false), w.take (a.idxOf false) ++ y0 :: x0 :: w.drop (a.idxOf false)], ?_, fun o h1 h2 _ => ?_⟩
    · exact Nat.le_trans (len_fm _ 2 _ fun x _ => by simp) (Nat.mul_le_mul_right 2 (orders_len 3 _))
    · obtain ⟨u, x, y, v, e1, i1, s1⟩ := blk_one o a (by rw [h1.length_eq, hl]) hc ht
      subst e0 e1
      rw [s0] at a0
      rw [s1] at h2
      have px : ∀ z ∈ u ++ x :: y :: v, 0 < z := fun z hz => hp z (h1.mem_iff.mp hz)
      have px0 : ∀ z ∈ u0 ++ x0 :: y0 :: v0, 0 < z := fun z hz => hp z (p0.mem_iff.mp hz)
      obtain ⟨hw, hxy⟩ := pair_one (px x (by simp)) (px y (by simp)) (px0 x0 (by simp)) (px0 y0 (by simp)) (m0.symm.trans h2) (m1.symm.trans h1) (m0.symm.trans a0) (m1.symm.trans p0)
      have hlen : (u ++ v).length = 3 := by have := h1.length_eq; rw [h5] at this; simp at this ⊢; omega
      have hm := orders_mem (u ++ v) (u0 ++ v0) hw
      rw [hlen] at hm
      refine List.mem_flatMap.mpr ⟨u ++ v, hm, ?_⟩
      rw [← i1, List.take_left, List.drop_left]
      rcases hxy with ⟨rfl, rfl⟩ | ⟨rfl, rfl⟩ <;> simp
  · exact ⟨[], Nat.zero_le _, fun o h1 h2 _ => absurd ⟨o, h1, h2⟩ ex⟩
def rowsN : Nat → List (List Bool × List Bool)
  | 0 => []
  | 1 => [([true], [true])]
  | n + 2 => (rowsN (n + 1)).flatMap fun r => [(true :: r.1, false :: r.2), (false :: r.1, true :: r.2), (true :: r.1, true :: r.2)]
def bnd (r : List Bool × List Bool) : Nat :=
  if r.1.length = 5 then (if r.1.count false = 1 then 12 else if r.2.count false = 1 then 12 else if r.1.count true = 3 then 6 * byN r.1 else if r.2.count true = 3 then 6 * byN r.2 else 120) else fac r.1.length
def fitRows (n s t : Nat) : List (List Bool × List Bool) := (rowsN n).filter fun r => r.1.count true == s && r.2.count true == t
theorem fit_sum : ∀ n, n < 6 → ∀ s, s < 6 → ∀ t, t < 6 → ((fitRows n s t).map bnd).sum ≤ 500 := by decide +kernel
theorem rows_ok : ∀ n, n < 6 → ∀ r ∈ rowsN n, r.1.length = n ∧ r.2.length = n ∧ r.1.getLast? = some true ∧ r.2.getLast? = some true := by decide +kernel
theorem cov_row {P A B : List Int} (hp : ∀ x ∈ P, 0 < x) {r : List Bool × List Bool} (h5 : P.length ≤ 5) (hr : r ∈ fitRows P.length A.length B.length) : Cov P A B r (bnd r) := by
  obtain ⟨a, b⟩ := r
  unfold fitRows at hr
  rw [List.mem_filter, Bool.and_eq_true, beq_iff_eq, beq_iff_eq] at hr
  obtain ⟨hm, ha, hb⟩ := hr
  obtain ⟨l1, l2, t1, t2⟩ := rows_ok _ (by omega) _ hm
  dsimp only at *
  unfold bnd
  dsimp only
  split
  · rename_i h
    have h6 : P.length = 5 := by omega
    split
    · rename_i hc; exact cov_one hp l1 h6 hc t1
    · split
      · rename_i hc; exact (cov_one hp l2 h6 hc t2).swap
      · split
        · rename_i hc
          have := cov_by (P := P) (A := A) (B := B) (a := a) (b := b) l1
          rwa [← ha, hc] at this
        · split
          · rename_i hc
            have := (cov_by (P := P) (A := B) (B := A) (a := b) (b := a) l2).swap
            rwa [← hb, hc] at this
          · have := cov_all P A B (a, b)
            rwa [h6] at this
  · rw [l1]; exact cov_all P A B (a, b)
theorem cov_rows {P A B : List Int} : ∀ R : List (List Bool × List Bool), (∀ r ∈ R, Cov P A B r (bnd r)) →
    ∃ C : List (List Int × List Bool × List Bool), C.length ≤ (R.map bnd).sum ∧ ∀ o r, r ∈ R → o.Perm P → (blk o r.1 0).Perm A → (blk o r.2 0).Perm B → (o, r) ∈ C
  | [], _ => ⟨[], by simp, by simp⟩
  | r :: R, h => by
    obtain ⟨C, h1, h2⟩ := h r (by simp)
    obtain ⟨C', h1', h2'⟩ := cov_rows R fun x hx => h x (by simp [hx])
    refine ⟨C.map (fun o => (o, r)) ++ C', by rw [List.length_append, List.length_map, List.map_cons, List.sum_cons]; omega, fun o x hx a b c => ?_⟩
    rw [List.mem_append]
    rcases List.mem_cons.mp hx with rfl | hx
    · exact .inl (List.mem_map.mpr ⟨o, h2 o a b c, rfl⟩)
    · exact .inr (h2' o x hx a b c)
/-- at most five hundred -/
theorem bound {P A B : List Int} (hp : ∀ x ∈ P, 0 < x) (h5 : P.length ≤ 5) (T : List (List Int × List Bool × List Bool)) (nd : T.Nodup)
    (h : ∀ x ∈ T, x.1.Perm P ∧ x.2 ∈ rowsN P.length ∧ (blk x.1 x.2.1 0).Perm A ∧ (blk x.1 x.2.2 0).Perm B) : T.length ≤ 500 := by
  by_cases h0 : T = []
  · rw [h0]; exact Nat.zero_le _
  obtain ⟨x0, hx0⟩ := List.exists_mem_of_ne_nil _ h0
  obtain ⟨q1, q2, q3, q4⟩ := h x0 hx0
  have lens : ∀ x ∈ T, x.2.1.count true = A.length ∧ x.2.2.count true = B.length := fun x hx => by
    obtain ⟨p1, p2, p3, p4⟩ := h x hx
    obtain ⟨l1, l2, _, _⟩ := rows_ok _ (by omega) _ p2
    exact ⟨by rw [← p3.length_eq, blk_len _ _ _ (by rw [p1.length_eq, l1])], by rw [← p4.length_eq, blk_len _ _ _ (by rw [p1.length_eq, l2])]⟩
  obtain ⟨l1, l2, _, _⟩ := rows_ok _ (by omega) _ q2
  have la : A.length < 6 := by
    have h1 := (lens x0 hx0).1
    have := List.count_le_length (a := true) (l := x0.2.1)
    omega
  have lb : B.length < 6 := by
    have h1 := (lens x0 hx0).2
    have := List.count_le_length (a := true) (l := x0.2.2)
    omega
  obtain ⟨C, hC, hm⟩ := cov_rows (P := P) (A := A) (B := B) (fitRows P.length A.length B.length) fun r hr => cov_row hp h5 hr
  refine Nat.le_trans (nd.length_le_of_subset (l₂ := C) fun x hx => ?_) (Nat.le_trans hC (fit_sum _ (by omega) _ la _ lb))
  obtain ⟨p1, p2, p3, p4⟩ := h x hx
  refine hm x.1 x.2 ?_ p1 p3 p4
  unfold fitRows
  rw [List.mem_filter, Bool.and_eq_true, beq_iff_eq, beq_iff_eq]
  exact ⟨p2, (lens x hx).1, (lens x hx).2⟩
/-! ### sorted lists of lines -/
theorem sortD_eq {xs ys : List D} (h : xs.Perm ys) (inj : ∀ a ∈ xs, ∀ b ∈ xs, PySem.W.keyToks a = PySem.W.keyToks b → a = b) : sortD xs = sortD ys := by
  unfold sortD
  have tr : ∀ a b c : D, PySem.W.dataLe false (fun d : D => d) a b = true → PySem.W.dataLe false (fun d : D => d) b c = true → PySem.W.dataLe false (fun d : D => d) a c = true := by
    intro a b c h1 h2
    simp only [PySem.W.dataLe, PySem.W.sortLe, cond_false, Bool.not_eq_true'] at h1 h2 ⊢
    rw [Bool.eq_false_iff]
    intro h3
    rcases PyProof.Rows.lex_negTrans (O := PyProof.Rows.itemOrd) _ (PySem.W.keyToks b) _ h3 with z | z
    · exact Bool.noConfusion (h2.symm.trans z)
    · exact Bool.noConfusion (h1.symm.trans z)
  have tot : ∀ a b : D, (PySem.W.dataLe false (fun d : D => d) a b || PySem.W.dataLe false (fun d : D => d) b a) = true := by
    intro a b
    simp only [PySem.W.dataLe, PySem.W.sortLe, cond_false, Bool.or_eq_true, Bool.not_eq_true']
    cases e : PyProof.Rows.lexLt PyProof.Rows.itemOrd (PySem.W.keyToks b) (PySem.W.keyToks a) with
    | false => exact .inl rfl
    | true =>
      refine .inr ?_
      rw [Bool.eq_false_iff]
      intro h
      have := PyProof.Rows.lex_trans (O := PyProof.Rows.itemOrd) _ _ _ e h
      rw [PyProof.Rows.lex_irrefl] at this
      cases this
  refine List.Perm.eq_of_pairwise (le := fun a b : D => PySem.W.dataLe false (fun d : D => d) a b = true) (fun a b ha hb h1 h2 => ?_) (List.pairwise_mergeSort tr tot xs) (List.pairwise_mergeSort tr tot ys) (((List.mergeSort_perm _ _).trans h).trans (List.mergeSort_perm _ _).symm)
  have ha' : a ∈ xs := (List.mergeSort_perm _ _).mem_iff.mp ha
  have hb' : b ∈ xs := h.mem_iff.mpr ((List.mergeSort_perm _ _).mem_iff.mp hb)
  refine inj a ha' b hb' ?_
  simp only [PySem.W.dataLe, PySem.W.sortLe, cond_false, Bool.not_eq_true'] at h1 h2
  exact PyProof.Rows.lex_total (O := PyProof.Rows.itemOrd) _ _ h2 h1
theorem toks_cons (p : Pc) (L : List Pc) : PySem.W.keyToks (eL (p :: L)) = [.inl 1, .inl 1, .inl p.1, .inl 1, .inr p.2.cps.toList, .inl 0] ++ PySem.W.keyToks (eL L) := rfl
theorem toks_nil : PySem.W.keyToks (eL []) = [.inl 0] := rfl
theorem toks_eL : ∀ {L M : List Pc}, PySem.W.keyToks (eL L) = PySem.W.keyToks (eL M) → L = M
  | [], [], _ => rfl
  | [], q :: M, h => by rw [toks_nil, toks_cons] at h; simp at h
  | p :: L, [], h => by rw [toks_nil, toks_cons] at h; simp at h
  | (n, m) :: L, (n', m') :: M, h => by
    rw [toks_cons, toks_cons] at h
    simp only [List.cons_append, List.nil_append, List.cons.injEq, Sum.inl.injEq, Sum.inr.injEq, true_and] at h
    obtain ⟨h1, h2, h3⟩ := h
    rw [h1, PySem.W.str_of_cps h2, toks_eL h3]
theorem sortL {T U : List (List Pc)} (h : T.Perm U) : sortD (T.map eL) = sortD (U.map eL) := by
  refine sortD_eq (h.map eL) fun a ha b hb e => ?_
  obtain ⟨L, _, rfl⟩ := List.mem_map.mp ha
  obtain ⟨M, _, rfl⟩ := List.mem_map.mp hb
  rw [toks_eL e]
theorem alikeL : ∀ L M : List Pc, PySem.W.alike (eL L) (eL M) = true := by
  have : ∀ L M : List Pc, PySem.W.alikeAll (L.map eP) (M.map eP) = true := by
    intro L
    induction L with
    | nil => intro M; simp [PySem.W.alikeAll]
    | cons p L ih =>
      intro M
      cases M with
      | nil => simp [PySem.W.alikeAll]
      | cons q M => simp [PySem.W.alikeAll, eP, PySem.W.alike, ih M]
  intro L M
  rw [eL, eL, PySem.W.alike]
  exact this L M
theorem depthL (L : List Pc) : (eL L).depth ≤ 2 := by
  have : ∀ L : List Pc, PyData.depthAll (L.map eP) ≤ 1 := by
    intro L
    induction L with
    | nil => simp [PyData.depthAll]
    | cons p L ih =>
      rw [List.map_cons, PyData.depthAll]
      refine Nat.max_le.mpr ⟨?_, ih⟩
      simp [eP, PyData.depth, PyData.depthAll]
  rw [eL, PyData.depth]
  exact Nat.succ_le_succ (this L)
theorem okSortL (T : List (List Pc)) : okSort (T.map eL) := by
  refine ⟨fun d hd d' hd' => ?_, .inr fun d hd => ?_, fun d hd => ?_⟩
  · obtain ⟨a, _, rfl⟩ := List.mem_map.mp hd
    obtain ⟨b, _, rfl⟩ := List.mem_map.mp hd'
    exact alikeL a b
  · obtain ⟨a, _, rfl⟩ := List.mem_map.mp hd
    exact ⟨by simp [eL], by simp [eL]⟩
  · obtain ⟨a, _, rfl⟩ := List.mem_map.mp hd
    exact Nat.le_trans (depthL a) (by decide)
/-! ### lines that fit -/
/-- one knife's step: it has o open and M left -/
def stepK (o t : Int) (M : List Int) (cut : Bool) : Option (Int × List Int) :=
  if cut = true then (if o + t ∈ M then some (0, M.erase (o + t)) else none) else (if ∃ x ∈ M, o + t < x then some (o + t, M) else none)
def runK (k : Str) : List Pc → Int → List Int → Prop
  | [], _, M => M = []
  | p :: L, o, M => ∃ o' M', stepK o p.1 M (hit k p.2) = some (o', M') ∧ runK k L o' M'
def LastK (k : Str) (L : List Pc) : Prop := ∃ p, L.getLast? = some p ∧ hit k p.2 = true
theorem lens_firstK (k : Str) : ∀ {L : List Pc}, (∀ p ∈ L, 0 < p.1) → LastK k L → ∃ (h : Int) (t : List Int), 0 < h ∧ ∀ o, lens k L o = (o + h) :: t
  | [], _, h => by obtain ⟨p, e, _⟩ := h; cases e
  | p :: L, hp, h => by
    have h1 := hp p (by simp)
    by_cases hh : hit k p.2 = true
    · exact ⟨p.1, lens k L 0, h1, fun o => by rw [lens, if_pos hh]⟩
    · have hL : LastK k L := by
        obtain ⟨q, e, hq⟩ := h
        cases L with
        | nil =>
          simp at e
          rw [e] at hh
          exact absurd hq hh
        | cons r L => exact ⟨q, by rw [← e]; rfl, hq⟩
      obtain ⟨a, t, ha, e⟩ := lens_firstK k (fun q hq => hp q (by simp [hq])) hL
      exact ⟨p.1 + a, t, by omega, fun o => by rw [lens, if_neg hh, e, Int.add_assoc]⟩
theorem lastK_cons {k : Str} {p : Pc} {L : List Pc} (n : L ≠ []) : LastK k (p :: L) ↔ LastK k L := by
  cases L with
  | nil => exact absurd rfl n
  | cons q L => exact Iff.rfl
theorem runK_iff (k : Str) : ∀ (L : List Pc) (o : Int) (M : List Int), (∀ p ∈ L, 0 < p.1) → (runK k L o M ↔ (lens k L o).Perm M ∧ (L = [] ∨ LastK k L))
  | [], o, M, _ => by
    rw [runK, lens]
    constructor
    · rintro rfl; exact ⟨.refl _, .inl rfl⟩
    · rintro ⟨h, _⟩; exact h.symm.eq_nil
  | p :: L, o, M, hp => by
    have hp' : ∀ q ∈ L, 0 < q.1 := fun q hq => hp q (by simp [hq])
    rw [runK, lens]
    unfold stepK
    by_cases hh : hit k p.2 = true
    · simp only [hh, if_true, List.cons_ne_nil, false_or]
      have hl : LastK k (p :: L) ↔ (L = [] ∨ LastK k L) := by
        by_cases n : L = []
        · subst n; simp [LastK, hh]
        · rw [lastK_cons n]; simp [n]
      rw [hl, List.cons_perm_iff_perm_erase]
      by_cases hm : o + p.1 ∈ M
      · simp only [hm, if_true, Option.some.injEq, Prod.mk.injEq, true_and]
        rw [← runK_iff k L 0 _ hp']
        constructor
        · rintro ⟨o', M', ⟨rfl, rfl⟩, h⟩; exact h
        · exact fun h => ⟨_, _, ⟨rfl, rfl⟩, h⟩
      · simp [hm]
    · rw [Bool.not_eq_true] at hh
      simp only [hh, Bool.false_eq_true, if_false, List.cons_ne_nil, false_or]
      by_cases n : L = []
      · subst n
        simp only [lens, runK]
        constructor
        · rintro ⟨o', M', h, rfl⟩
          split at h
          · rename_i hx
            cases h
            simp at hx
          · cases h
        · rintro ⟨_, q, e, hq⟩
          simp at e
          rw [← e, hh] at hq
          cases hq
      · rw [lastK_cons n]
        constructor
        · rintro ⟨o', M', h, hr⟩
          split at h
          · cases h
            obtain ⟨a, b⟩ := (runK_iff k L _ _ hp').mp hr
            exact ⟨a, b.resolve_left n⟩
          · cases h
        · rintro ⟨a, b⟩
          have hx : ∃ x ∈ M, o + p.1 < x := by
            obtain ⟨h, t, h0, e⟩ := lens_firstK k hp' b
            exact ⟨o + p.1 + h, a.mem_iff.mp (by rw [e]; simp), by omega⟩
          rw [if_pos hx]
          exact ⟨_, _, rfl, (runK_iff k L _ _ hp').mpr ⟨a, .inr b⟩⟩
/-- L goes on from what is open and left -/
structure Fits (L : List Pc) (oa ob : Int) (A B P : List Int) : Prop where
  p : (L.map (·.1)).Perm P
  m : ∀ q ∈ L, Mark q.2
  a : runK mA L oa A
  b : runK mB L ob B
theorem Fits.nil_iff {L : List Pc} {oa ob : Int} {A B P : List Int} (h : P = []) : Fits L oa ob A B P ↔ L = [] ∧ A = [] ∧ B = [] := by
  subst h
  constructor
  · intro f
    have : L = [] := by
      have := f.p.eq_nil
      simpa using this
    subst this
    exact ⟨rfl, f.a, f.b⟩
  · rintro ⟨rfl, rfl, rfl⟩
    exact ⟨.refl _, by simp, rfl, rfl⟩
theorem Fits.cons_iff {x : Int} {m : Str} {L : List Pc} {oa ob : Int} {A B P : List Int} : Fits ((x, m) :: L) oa ob A B P ↔
    x ∈ P ∧ Mark m ∧ ∃ oa' A' ob' B', stepK oa x A (hit mA m) = some (oa', A') ∧ stepK ob x B (hit mB m) = some (ob', B') ∧ Fits L oa' ob' A' B' (P.erase x) := by
  constructor
  · rintro ⟨p, mk, ⟨oa', A', ea, ra⟩, ⟨ob', B', eb, rb⟩⟩
    rw [List.map_cons, List.cons_perm_iff_perm_erase] at p
    exact ⟨p.1, mk (x, m) (by simp), oa', A', ob', B', ea, eb, p.2, fun q hq => mk q (by simp [hq]), ra, rb⟩
  · rintro ⟨hx, hm, oa', A', ob', B', ea, eb, f⟩
    refine ⟨?_, fun q hq => ?_, ⟨_, _, ea, f.a⟩, ⟨_, _, eb, f.b⟩⟩
    · rw [List.map_cons, List.cons_perm_iff_perm_erase]; exact ⟨hx, f.p⟩
    · rcases List.mem_cons.mp hq with rfl | hq
      · exact hm
      · exact f.m q hq
/-- the book of L is of these lists -/
structure Book (L : List Pc) (A B P : List Int) : Prop where
  ln : LnT L
  p : (L.map (·.1)).Perm P
  a : (lens mA L 0).Perm A
  b : (lens mB L 0).Perm B
theorem mark_ab {m : Str} (h : Mark m) (ha : hit mA m = true) (hb : hit mB m = true) : m = mAB := by
  rcases h with rfl | rfl | rfl
  · rw [hBA] at hb; cases hb
  · rw [hAB] at ha; cases ha
  · rfl
theorem fits_book {L : List Pc} {A B P : List Int} (hP : ∀ x ∈ P, 0 < x) (n : P ≠ []) : Fits L 0 0 A B P ↔ Book L A B P := by
  constructor
  · intro f
    have hp : ∀ p ∈ L, 0 < p.1 := fun p h => hP _ (f.p.mem_iff.mp (List.mem_map_of_mem h))
    have nL : L ≠ [] := by
      rintro rfl
      exact n f.p.symm.eq_nil
    obtain ⟨a1, a2⟩ := (runK_iff mA L 0 A hp).mp f.a
    obtain ⟨b1, b2⟩ := (runK_iff mB L 0 B hp).mp f.b
    refine ⟨⟨fun p h => ⟨hp p h, f.m p h⟩, ?_⟩, f.p, a1, b1⟩
    obtain ⟨⟨x, m⟩, e, ha⟩ := a2.resolve_left nL
    obtain ⟨q, e', hb⟩ := b2.resolve_left nL
    rw [e] at e'
    cases e'
    have := mark_ab (f.m _ (List.mem_of_getLast? e)) ha hb
    dsimp only at this
    subst this
    exact ⟨x, e⟩
  · intro f
    have hp : ∀ p ∈ L, 0 < p.1 := fun p h => (f.ln.ok p h).1
    obtain ⟨x, e⟩ := f.ln.last
    exact ⟨f.p, fun q h => (f.ln.ok q h).2, (runK_iff mA L 0 A hp).mpr ⟨f.a, .inr ⟨_, e, hKab _⟩⟩, (runK_iff mB L 0 B hp).mpr ⟨f.b, .inr ⟨_, e, hKab _⟩⟩⟩
theorem Book.sum {L : List Pc} {A B P : List Int} (h : Book L A B P) : sumI A = sumI P ∧ sumI B = sumI P := by
  have perm : ∀ {x y : List Int}, x.Perm y → sumI x = sumI y := fun {x y} h => by
    induction h with
    | nil => rfl
    | cons a _ ih => rw [sumI_cons, sumI_cons, ih]
    | swap a b l => simp only [sumI_cons]; omega
    | trans _ _ h1 h2 => rw [h1, h2]
  have e := perm h.p
  exact ⟨by rw [← perm h.a, lens_sum _ _ _ h.ln, e, Int.zero_add], by rw [← perm h.b, lens_sum _ _ _ h.ln, e, Int.zero_add]⟩
theorem blk_lens (k : Str) : ∀ (L : List Pc) (o : Int), blk (L.map (·.1)) (L.map fun p => hit k p.2) o = lens k L o
  | [], _ => rfl
  | p :: L, o => by
    rw [List.map_cons, List.map_cons, blk, lens]
    split
    · rw [blk_lens k L]
    · rw [blk_lens k L]
def lnRow (L : List Pc) : List Int × List Bool × List Bool := (L.map (·.1), L.map (fun p => hit mA p.2), L.map fun p => hit mB p.2)
theorem row_mem : ∀ {L : List Pc}, LnT L → (lnRow L).2 ∈ rowsN L.length
  | [], h => absurd rfl h.ne
  | [p], h => by
    have := h.last.one
    simp [lnRow, this, rowsN, hKab]
  | p :: q :: L, h => by
    have ih := row_mem (h.tail (by simp))
    rw [List.length_cons, List.length_cons, rowsN]
    refine List.mem_flatMap.mpr ⟨_, ih, ?_⟩
    have hm := (h.ok p (by simp)).2
    rcases hm with e | e | e
    · simp [lnRow, e, hAA, hBA]
    · simp [lnRow, e, hAB, hBB]
    · simp [lnRow, e, hKab]
theorem row_inj : ∀ {L M : List Pc}, (∀ p ∈ L, Mark p.2) → (∀ p ∈ M, Mark p.2) → lnRow L = lnRow M → L = M
  | [], [], _, _, _ => rfl
  | [], _ :: _, _, _, h => by simp [lnRow] at h
  | _ :: _, [], _, _, h => by simp [lnRow] at h
  | (x, m) :: L, (y, n) :: M, h1, h2, h => by
    simp only [lnRow, List.map_cons, Prod.mk.injEq, List.cons.injEq] at h
    obtain ⟨⟨rfl, e1⟩, ⟨ea, e2⟩, ⟨eb, e3⟩⟩ := h
    have : m = n := by
      have hm : Mark m := h1 (x, m) (by simp)
      have hn : Mark n := h2 (x, n) (by simp)
      rcases hm with rfl | rfl | rfl <;> rcases hn with rfl | rfl | rfl <;> first
        | rfl
        | (exfalso; revert ea eb; decide +kernel)
    subst this
    have e4 : L = M := row_inj (fun p hp => h1 p (by simp [hp])) (fun p hp => h2 p (by simp [hp])) (by simp [lnRow, e1, e2, e3])
    rw [e4]
theorem nodup_map_on {α β : Type} {f : α → β} : ∀ {l : List α}, (∀ a ∈ l, ∀ b ∈ l, f a = f b → a = b) → l.Nodup → (l.map f).Nodup
  | [], _, _ => List.nodup_nil
  | x :: l, h, nd => by
    rw [List.nodup_cons] at nd
    rw [List.map_cons, List.nodup_cons]
    refine ⟨fun hm => ?_, nodup_map_on (fun a ha b hb => h a (by simp [ha]) b (by simp [hb])) nd.2⟩
    obtain ⟨y, hy, e⟩ := List.mem_map.mp hm
    exact nd.1 (h y (by simp [hy]) x (by simp) e ▸ hy)
theorem book_bound {T : List (List Pc)} {A B P : List Int} (nd : T.Nodup) (h : ∀ L ∈ T, Book L A B P) (h5 : P.length ≤ 5) : T.length ≤ 500 := by
  by_cases h0 : T = []
  · rw [h0]; exact Nat.zero_le _
  obtain ⟨L0, hL0⟩ := List.exists_mem_of_ne_nil _ h0
  have hP : ∀ x ∈ P, 0 < x := fun x hx => by
    obtain ⟨p, hp, rfl⟩ := List.mem_map.mp ((h L0 hL0).p.mem_iff.mpr hx)
    exact ((h L0 hL0).ln.ok p hp).1
  have := bound (A := A) (B := B) hP h5 (T.map lnRow) (nodup_map_on (fun a ha b hb e => row_inj (fun p hp => ((h a ha).ln.ok p hp).2) (fun p hp => ((h b hb).ln.ok p hp).2) e) nd) fun x hx => by
    obtain ⟨L, hL, rfl⟩ := List.mem_map.mp hx
    have hB := h L hL
    refine ⟨hB.p, ?_, ?_, ?_⟩
    · rw [← hB.p.length_eq, List.length_map]; exact row_mem hB.ln
    · show (blk (L.map (·.1)) (L.map fun p => hit mA p.2) 0).Perm A
      rw [blk_lens]; exact hB.a
    · show (blk (L.map (·.1)) (L.map fun p => hit mB p.2) 0).Perm B
      rw [blk_lens]; exact hB.b
  rwa [List.length_map] at this
def c_counted : TD := fun ds q _ => ∃ ns : List Int, (ds = [.list (ns.map .int)] ∨ ds = [.tuple (ns.map .int)]) ∧ ns.length ≤ 60 ∧ ∀ cs, Rep cs ns → q (.dict (dI cs)) []
theorem rep_le {cs : NI} {ns : List Int} (h : Rep cs ns) : cs.length ≤ ns.length := by
  have := h.1.length_le_of_subset (l₂ := ns) fun k hk => (h.key k).mp hk
  rwa [List.length_map] at this
theorem p_counted : ∀ ds q e, c_counted ds q e → t_counted ds q e := by
  rintro ds q e ⟨ns, hd, hn, h⟩
  unfold t_counted m_counted
  rcases hd with rfl | rfl
  all_goals
    simp only [EX0]
    refine forD_map (fun pre ρ => ∃ cs d x0, Rep cs pre ∧ ρ = [x0, .dict (dI cs), d]) ⟨[], _, _, Rep.nil, rfl⟩ ?_ ?_
    · rintro pre x post ρ k e1 ⟨cs, d, x0, hr, rfl⟩ hk
      have hl : cs.length ≤ 60 := Nat.le_trans (rep_le hr) (by rw [e1] at hn; simp at hn; omega)
      simp only [EX0]
      refine ⟨⟨_, rfl⟩, _, rfl, rfl, ?_⟩
      rw [dget_dI]
      have e2 : (Option.map PyData.int (getN1 cs x)).getD (.int 0) = .int ((getN1 cs x).getD 0) := by cases getN1 cs x <;> rfl
      rw [e2]
      simp only [EX0]
      refine ⟨_, rfl, rfl, by unfold dI; rw [List.length_map]; omega, ?_⟩
      rw [dput_dI]
      exact hk _ ⟨_, _, _, (hr.bump x).perm (by simpa using (List.perm_append_comm (l₁ := [x]) (l₂ := pre))), rfl⟩
    · rintro ρ ⟨cs, d, x0, hr, rfl⟩
      simp only [EX0]
      exact h cs hr
def c_without : TD := fun ds q _ => ∃ (cs : NI) (M : List Int) (k : Int), ds = [.dict (dI cs), .int k] ∧ Rep cs M ∧ k ∈ M ∧ M.length ≤ 60 ∧ ∀ cs', Rep cs' (M.erase k) → q (.dict (dI cs')) []
theorem p_without : ∀ ds q e, c_without ds q e → t_without ds q e := by
  rintro ds q e ⟨cs, M, k, rfl, hr, hk, hl, h⟩
  unfold t_without m_without
  simp only [EX0]
  have c0 : 0 < List.count k M := List.count_pos_iff.mpr hk
  have e1 : getN1 cs k = some (List.count k M : Int) := by rw [hr.2 k, if_neg (by omega)]
  have hl2 : cs.length ≤ 60 := Nat.le_trans (rep_le hr) hl
  have hg := getN1_put hr.1 k ((List.count k M : Int) - 1) k
  rw [if_pos rfl] at hg
  have hL := hr.less hk
  unfold lessN at hL
  rw [e1, Option.getD_some] at hL
  refine ⟨_, .int (List.count k M : Int), rfl, rfl, by rw [dget_dI, e1]; rfl, by unfold dI; rw [List.length_map]; omega, rfl, trivial, ?_⟩
  simp only [dput_dI]
  show ∃ d, dget (dI (putN1 cs k ((List.count k M : Int) - 1))) (.int k) = some d ∧ _
  refine ⟨.int ((List.count k M : Int) - 1), by rw [dget_dI, hg]; rfl, ?_⟩
  simp only [EX0]
  split
  · rename_i z
    have z' : (List.count k M : Int) - 1 = 0 := by simpa [PyData.eqv] using z
    rw [if_pos z'] at hL
    refine ⟨⟨_, rfl⟩, _, .int ((List.count k M : Int) - 1), rfl, rfl, by rw [dget_dI, hg]; rfl, ?_⟩
    rw [ddel_dI]
    exact h _ hL
  · rename_i z
    have z' : ¬ (List.count k M : Int) - 1 = 0 := fun y => z (by simp [PyData.eqv, y])
    rw [if_neg z'] at hL
    exact h _ hL
/-! ### books as data -/
def bkD (A B P : List Int) : D := .tuple [.tuple (A.map .int), .tuple (B.map .int), .tuple (P.map .int)]
/-! ### dicts gone through -/
theorem dI_keys (c : NI) : (dI c).map Prod.fst = (c.map Prod.fst).map PyData.int := by
  unfold dI
  rw [List.map_map, List.map_map]
  rfl
theorem rep_nil {c : NI} {M : List Int} (r : Rep c M) : eqI c [] = true ↔ M = [] := by
  rw [eqI_rep r Rep.nil]
  exact List.perm_nil
theorem eqX_d (ns ms : NI) (q : D → Prop) (h : q (.bool (eqI ns ms))) : oEqX false (.dict (dI ns)) (.dict (dI ms)) q := ⟨ns, ms, rfl, rfl, h⟩
/-! ### one step -/
def c_steps : TD := fun ds q _ => ∃ (t : Int) (m : Str) (oa ob : Int) (ca cb : NI) (A B : List Int), ds = [.int t, .str m, .list [.int oa, .int ob], .list [.dict (dI ca), .dict (dI cb)]] ∧ Mark m ∧ 0 < t ∧ 0 ≤ oa ∧ 0 ≤ ob ∧ Rep ca A ∧ Rep cb B ∧ A.length ≤ 60 ∧ B.length ≤ 60 ∧
  (∀ oa' A' ob' B' ca' cb', stepK oa t A (hit mA m) = some (oa', A') → stepK ob t B (hit mB m) = some (ob', B') → Rep ca' A' → Rep cb' B' → q (.tuple [.list [.int oa', .int ob'], .list [.dict (dI ca'), .dict (dI cb')]]) []) ∧
  ((stepK oa t A (hit mA m) = none ∨ stepK ob t B (hit mB m) = none) → q .none [])
theorem occA {m : Str} (hm : Mark m) : (Builtin.Str.occurrences m ("a" : Str) 0 m.length 1).isEmpty = !hit mA m := by
  rcases hm with rfl | rfl | rfl <;> decide +kernel
theorem occB {m : Str} (hm : Mark m) : (Builtin.Str.occurrences m ("b" : Str) 0 m.length 1).isEmpty = !hit mB m := by
  rcases hm with rfl | rfl | rfl <;> decide +kernel
/-- one knife -/
theorem knife {c : NI} {M : List Int} (r : Rep c M) (lM : M.length ≤ 60) {o t : Int} (h0 : 0 ≤ o + t) {cut emp : Bool} (he : emp = !cut) {N R1 : Prop} {R0 : D → Prop} {E : DE}
    (hn : stepK o t M cut = none → N) (hs0 : ∀ c', cut = true → stepK o t M cut = some (0, M.erase (o + t)) → Rep c' (M.erase (o + t)) → R0 (.dict (dI c'))) (hs1 : cut = false → stepK o t M cut = some (o + t, M) → R1) :
    if emp = false then oIn true (.int (o + t)) (.dict (dI c)) fun d =>
      match d with
      | .bool b => if b = true then N else c_without [.dict (dI c), .int (o + t)] (fun d _ => R0 d) E
      | _ => False
    else ∃ kvs is i, (PyData.dict (dI c) : D) = .dict kvs ∧ kvs.map Prod.fst = is.map PyData.int ∧ (PyData.int 0 : D) = .int i ∧ (is = [] → if i ≤ o + t then N else R1) ∧ ∀ m, m ∈ is → (∀ j ∈ is, j ≤ m) → if m ≤ o + t then N else R1 := by
  subst he
  cases cut with
  | true =>
    rw [if_pos (show (!true) = false from rfl)]
    unfold oIn
    refine ⟨by simp [keyOf], ?_⟩
    rw [dget_dI]
    have e : (Option.map PyData.int (getN1 c (o + t))).isSome = decide (o + t ∈ M) := by
      rw [Option.isSome_map, r.2, Bool.eq_iff_iff, decide_eq_true_eq, ← List.count_pos_iff]
      split
      · rename_i z; rw [z]; simp
      · rename_i z; simp only [Option.isSome_some, true_iff]; omega
    rw [e]
    unfold stepK at hn hs0
    by_cases hm : o + t ∈ M
    · simp only [hm, decide_true, Bool.not_true, if_true, Bool.false_eq_true, if_false]
      exact ⟨c, M, _, rfl, r, hm, lM, fun c' r' => hs0 c' rfl (by simp [hm]) r'⟩
    · simp only [hm, decide_false, Bool.not_false, if_true]
      exact hn (by simp [hm])
  | false =>
    rw [if_neg (by simp)]
    refine ⟨_, c.map Prod.fst, 0, rfl, dI_keys c, rfl, fun hk => ?_, fun m hm hmax => ?_⟩
    · rw [if_pos h0]
      refine hn ?_
      unfold stepK
      rw [if_neg (by simp), if_neg]
      rintro ⟨x, hx, _⟩
      have := (r.key x).mpr hx
      rw [hk] at this
      cases this
    · by_cases hlt : m ≤ o + t
      · rw [if_pos hlt]
        refine hn ?_
        unfold stepK
        rw [if_neg (by simp), if_neg]
        rintro ⟨x, hx, hx2⟩
        have := hmax x ((r.key x).mpr hx)
        omega
      · rw [if_neg hlt]
        refine hs1 rfl ?_
        unfold stepK
        rw [if_neg (by simp), if_pos ⟨m, (r.key m).mp hm, by omega⟩]
theorem p_steps : ∀ ds q e, c_steps ds q e → t_steps_from c_without ds q e := by
  rintro ds q e ⟨t, m, oa, ob, ca, cb, A, B, rfl, hm, ht, ha, hb, ra, rb, la, lb, h1, h2⟩
  unfold t_steps_from m_steps_from
  simp only [EX0]
  simp only [EX0, enumF, forD]
  have nb : ∀ {oa' : Int} {A' : List Int} {R1 : Prop} {R0 : D → Prop} {E : DE}, stepK oa t A (hit mA m) = some (oa', A') → ∀ {c' : NI}, Rep c' A' →
      (∀ c2, R0 (.dict (dI c2)) = q (.tuple [.list [.int oa', .int 0], .list [.dict (dI c'), .dict (dI c2)]]) []) → R1 = q (.tuple [.list [.int oa', .int (ob + t)], .list [.dict (dI c'), .dict (dI cb)]]) [] →
      if (Builtin.Str.occurrences m (Str.ofString "b") 0 m.length 1).isEmpty = false then oIn true (.int (ob + t)) (.dict (dI cb)) fun d =>
        match d with
        | .bool b => if b = true then q .none [] else c_without [.dict (dI cb), .int (ob + t)] (fun d _ => R0 d) E
        | _ => False
      else ∃ kvs is i, (PyData.dict (dI cb) : D) = .dict kvs ∧ kvs.map Prod.fst = is.map PyData.int ∧ (PyData.int 0 : D) = .int i ∧ (is = [] → if i ≤ ob + t then q .none [] else R1) ∧ ∀ m, m ∈ is → (∀ j ∈ is, j ≤ m) → if m ≤ ob + t then q .none [] else R1 := by
    intro oa' A' R1 R0 E e1 c' r' e2 e3
    refine knife rb lb (by omega) (occB hm) (fun z => h2 (.inr z)) (fun c2 _ z r2 => ?_) fun _ z => ?_
    · rw [e2]; exact h1 _ _ _ _ _ _ e1 z r' r2
    · rw [e3]; exact h1 _ _ _ _ _ _ e1 z r' rb
  refine knife (R0 := fun d => _) ra la (by omega) (occA hm) (fun z => h2 (.inl z)) (fun c' hc z r' => ?_) fun hc z => ?_
  · exact nb z r' (fun _ => rfl) rfl
  · exact nb z ra (fun _ => rfl) rfl
/-! ### all that go on -/
def c_ext (j : Nat) : TD := fun ds q e => ∃ (L0 : List Pc) (oa ob : Int) (ca cb cp : NI) (A B P : List Int) (F : List (List Pc)), ds = [eL L0, .list [.int oa, .int ob], .list [.dict (dI ca), .dict (dI cb)], .dict (dI cp), .list (F.map eL)] ∧
  Rep ca A ∧ Rep cb B ∧ Rep cp P ∧ P.length < j ∧ L0.length + P.length ≤ 60 ∧ A.length ≤ 60 ∧ B.length ≤ 60 ∧ (∀ x ∈ P, 0 < x) ∧ 0 ≤ oa ∧ 0 ≤ ob ∧ F.length ≤ 500 ∧
  (∀ T : List (List Pc), T.Nodup → (∀ L, L ∈ T ↔ Fits L oa ob A B P) → F.length + T.length ≤ 500 → q .none [.list ((F ++ T.map (L0 ++ ·)).map eL)]) ∧
  (∀ (U : List (List Pc)) (fd : D), U.Nodup → (∀ L ∈ U, Fits L oa ob A B P) → 500 < F.length + U.length → e ⟨("TooMany" : Str), none⟩ [fd])
theorem eqX_2 (ns ms : NI) (q : D → Prop) (h : q (.bool (eqI ns [] && eqI ms []))) : oEqX false (.list [.dict (dI ns), .dict (dI ms)]) (.list [.dict [], .dict []]) q := by
  refine ⟨⟨.inr ⟨ns, [], rfl, rfl⟩, .inr ⟨ms, [], rfl, rfl⟩, trivial⟩, ?_⟩
  have : eqFs [PyData.dict (dI ns), .dict (dI ms)] [.dict [], .dict []] = (eqI ns [] && eqI ms []) := by
    unfold eqFs
    show (eqF (dictI ns) (dictI []) && (eqF (dictI ms) (dictI []) && true)) = _
    rw [eqF_dict, eqF_dict, Bool.and_true]
  rw [this]
  exact h
theorem map_pre {L0 : List Pc} {p : Pc} {T : List (List Pc)} : (T.map (p :: ·)).map (L0 ++ ·) = T.map ((L0 ++ [p]) ++ ·) := by
  rw [List.map_map]
  apply List.map_congr_left
  intro a _
  simp
theorem p_ext (j : Nat) : ∀ ds q e, c_ext (j + 1) ds q e → t_extended c_without c_steps (c_ext j) ds q e := by
  rintro ds q e ⟨L0, oa, ob, ca, cb, cp, A, B, P, F, rfl, ra, rb, rp, hj, hl, la, lb, hP, ha, hb, hF, h1, h2⟩
  unfold t_extended m_extended
  simp only [EX0, eL]
  refine eqX_d cp [] _ ?_
  by_cases hn : P = []
  · have e1 : eqI cp [] = true := (rep_nil rp).mpr hn
    rw [e1]
    simp only [EX0]
    refine eqX_2 ca cb _ ?_
    have nil := fun L => Fits.nil_iff (L := L) (oa := oa) (ob := ob) (A := A) (B := B) hn
    by_cases hAB : A = [] ∧ B = []
    · rw [(rep_nil ra).mpr hAB.1, (rep_nil rb).mpr hAB.2]
      simp only [EX0]
      refine ⟨by omega, iteB (fun hh => ?_) fun hh => ?_⟩
      · refine h2 [[]] _ (by simp) (fun L hL => ?_) (by simp; omega)
        rw [List.mem_singleton] at hL
        exact (nil L).mpr ⟨hL, hAB⟩
      · have := h1 [[]] (by simp) (fun L => by rw [nil L, List.mem_singleton]; simp [hAB]) (by simp; omega)
        simpa [eL] using this
    · have e2 : (eqI ca [] && eqI cb []) = false := by
        rw [Bool.eq_false_iff]
        intro z
        rw [Bool.and_eq_true, rep_nil ra, rep_nil rb] at z
        exact hAB z
      rw [e2]
      simp only [EX0]
      refine iteB (fun hh => by omega) fun hh => ?_
      have := h1 [] (by simp) (fun L => by rw [nil L]; simp; exact fun _ z y => hAB ⟨z, y⟩) (by simp; omega)
      simpa [eL] using this
  · have e1 : eqI cp [] = false := by
      rw [Bool.eq_false_iff]
      exact fun z => hn ((rep_nil rp).mp z)
    rw [e1]
    simp only [EX0]
    refine ⟨_, rfl, ?_⟩
    rw [dI_keys]
    have heads : ∀ L, Fits L oa ob A B P → ∃ x m L', L = (x, m) :: L' ∧ x ∈ P := fun L f => by
      match L, f with
      | [], f => exact absurd f.p.symm.eq_nil hn
      | (x, m) :: L', f => exact ⟨x, m, L', rfl, (Fits.cons_iff.mp f).1⟩
    refine forD_map (fun pre ρ => ∃ (U : List (List Pc)) (x y z : D), U.Nodup ∧ F.length + U.length ≤ 500 ∧ (∀ L, L ∈ U ↔ Fits L oa ob A B P ∧ ∃ x m L', L = (x, m) :: L' ∧ x ∈ pre) ∧
      ρ = [.list (L0.map eP), .list [.int oa, .int ob], .list [.dict (dI ca), .dict (dI cb)], .dict (dI cp), .list ((F ++ U.map (L0 ++ ·)).map eL), x, y, z]) ⟨[], .none, .none, .none, by simp, by simp; omega, by simp, by simp⟩ ?_ ?_
    · rintro pre x post ρ k ex ⟨U, x1, y1, z1, u1, u2, u3, rfl⟩ hk
      have ndk := rp.1
      rw [ex] at ndk
      have xpre : x ∉ pre := fun z => by
        rw [List.nodup_append] at ndk
        exact ndk.2.2 x z x (by simp) rfl
      have xP : x ∈ P := (rp.key x).mp (by rw [ex]; simp)
      have x0 := hP x xP
      simp only [EX0]
      show forD _ _ ([mA, mB, mAB].map PyData.str) _ _
      refine forD_map (fun pm ρ => ∃ (U : List (List Pc)) (y z : D), U.Nodup ∧ F.length + U.length ≤ 500 ∧ (∀ L, L ∈ U ↔ Fits L oa ob A B P ∧ ∃ x' m L', L = (x', m) :: L' ∧ (x' ∈ pre ∨ x' = x ∧ m ∈ pm)) ∧
        ρ = [.list (L0.map eP), .list [.int oa, .int ob], .list [.dict (dI ca), .dict (dI cb)], .dict (dI cp), .list ((F ++ U.map (L0 ++ ·)).map eL), .int x, y, z]) ⟨U, _, _, u1, u2, fun L => ?_, rfl⟩ ?_ ?_
      · rw [u3 L]
        simp
      · rintro pm m postm ρ k2 exm ⟨V, y2, z2, v1, v2, v3, rfl⟩ hk2
        have hm : Mark m := by
          have : m ∈ [mA, mB, mAB] := by rw [exm]; simp
          simp only [List.mem_cons, List.not_mem_nil, or_false] at this
          exact this
        have mpm : m ∉ pm := fun z => by
          have nd3 : [mA, mB, mAB].Nodup := by decide +kernel
          rw [exm, List.nodup_append] at nd3
          exact nd3.2.2 m z m (by simp) rfl
        simp only [EX0]
        refine ⟨x, m, oa, ob, ca, cb, A, B, rfl, hm, x0, ha, hb, ra, rb, la, lb, ?_, ?_⟩
        · intro oa' A' ob' B' ca' cb' sa sb ra' rb'
          simp only [EX0, isN]
          have hlen : P.length - 1 = (P.erase x).length := (List.length_erase_of_mem xP).symm
          have hpos : 0 < P.length := List.length_pos_of_mem xP
          have stepA : 0 ≤ oa' ∧ A'.length ≤ 60 := by
            unfold stepK at sa
            split at sa
            · split at sa
              · cases sa; exact ⟨by omega, Nat.le_trans (List.length_erase_le ..) la⟩
              · cases sa
            · split at sa
              · cases sa; exact ⟨by omega, la⟩
              · cases sa
          have stepB : 0 ≤ ob' ∧ B'.length ≤ 60 := by
            unfold stepK at sb
            split at sb
            · split at sb
              · cases sb; exact ⟨by omega, Nat.le_trans (List.length_erase_le ..) lb⟩
              · cases sb
            · split at sb
              · cases sb; exact ⟨by omega, lb⟩
              · cases sb
          refine ⟨by omega, cp, P, x, rfl, rp, xP, by omega, fun cp' rp' => ?_⟩
          simp only [EX0]
          have fresh : ∀ L : List Pc, (x, m) :: L ∉ V := fun L z => by
            obtain ⟨_, x', m', L', e0, e1⟩ := (v3 _).mp z
            cases e0
            rcases e1 with e1 | ⟨_, e1⟩
            · exact xpre e1
            · exact mpm e1
          have tail : ∀ L, Fits ((x, m) :: L) oa ob A B P ↔ Fits L oa' ob' A' B' (P.erase x) := fun L => by
            rw [Fits.cons_iff]
            constructor
            · rintro ⟨_, _, oa2, A2, ob2, B2, e1, e2, f⟩
              rw [sa] at e1; rw [sb] at e2
              cases e1; cases e2
              exact f
            · exact fun f => ⟨xP, hm, _, _, _, _, sa, sb, f⟩
          have ndm : ∀ {T : List (List Pc)}, T.Nodup → (V ++ T.map ((x, m) :: ·)).Nodup := fun {T} hT => by
            refine List.nodup_append.mpr ⟨v1, nodup_map_on (fun a _ b _ e => by simpa using e) hT, fun a ha b hb e => ?_⟩
            obtain ⟨L, _, rfl⟩ := List.mem_map.mp hb
            subst e
            exact fresh L ha
          refine ⟨L0 ++ [(x, m)], oa', ob', ca', cb', cp', A', B', P.erase x, F ++ V.map (L0 ++ ·), by simp [eL, eP], ra', rb', rp', by omega, by simp; omega, stepA.2, stepB.2, fun y hy => hP y (List.mem_of_mem_erase hy), stepA.1, stepB.1, by simpa using v2, ?_, ?_⟩
          · intro T t1 t2 t3
            simp only [EX0]
            refine hk2 _ ⟨V ++ T.map ((x, m) :: ·), .str m, .tuple [.list [.int oa', .int ob'], .list [.dict (dI ca'), .dict (dI cb')]], ndm t1, by simp at t3 ⊢; omega, fun L => ?_, ?_⟩
            · rw [List.mem_append, v3 L]
              constructor
              · rintro (⟨f, x', m', L', e1, e2⟩ | hL)
                · exact ⟨f, x', m', L', e1, by rcases e2 with e2 | ⟨e2, e3⟩; exact .inl e2; exact .inr ⟨e2, by simp [e3]⟩⟩
                · obtain ⟨L', hL', rfl⟩ := List.mem_map.mp hL
                  exact ⟨(tail L').mpr ((t2 L').mp hL'), x, m, L', rfl, .inr ⟨rfl, by simp⟩⟩
              · rintro ⟨f, x', m', L', rfl, e2⟩
                rcases e2 with e2 | ⟨rfl, e3⟩
                · exact .inl ⟨f, _, _, _, rfl, .inl e2⟩
                · rcases List.mem_append.mp e3 with e3 | e3
                  · exact .inl ⟨f, _, _, _, rfl, .inr ⟨rfl, e3⟩⟩
                  · rw [List.mem_singleton] at e3
                    subst e3
                    exact .inr (List.mem_map.mpr ⟨L', (t2 L').mpr ((tail L').mp f), rfl⟩)
            · rw [List.map_append (f := (L0 ++ ·)), map_pre, List.append_assoc]
          · intro U2 fd n1 n2 n3
            simp only [EX0]
            refine h2 (V ++ U2.map ((x, m) :: ·)) _ (ndm n1) (fun L hL => ?_) (by simp at n3 ⊢; omega)
            rcases List.mem_append.mp hL with hL | hL
            · exact ((v3 L).mp hL).1
            · obtain ⟨L', hL', rfl⟩ := List.mem_map.mp hL
              exact (tail L').mpr (n2 L' hL')
        · intro sn
          simp only [EX0, isN]
          refine hk2 _ ⟨V, _, _, v1, v2, fun L => ?_, rfl⟩
          rw [v3 L]
          constructor
          · rintro ⟨f, x', m', L', e1, e2⟩
            exact ⟨f, x', m', L', e1, by rcases e2 with e2 | ⟨e2, e3⟩; exact .inl e2; exact .inr ⟨e2, by simp [e3]⟩⟩
          · rintro ⟨f, x', m', L', rfl, e2⟩
            refine ⟨f, x', m', L', rfl, ?_⟩
            rcases e2 with e2 | ⟨rfl, e3⟩
            · exact .inl e2
            · rcases List.mem_append.mp e3 with e3 | e3
              · exact .inr ⟨rfl, e3⟩
              · rw [List.mem_singleton] at e3
                subst e3
                exfalso
                obtain ⟨_, _, _, _, _, _, s1, s2, _⟩ := Fits.cons_iff.mp f
                rcases sn with sn | sn
                · rw [sn] at s1; cases s1
                · rw [sn] at s2; cases s2
      · rintro ρ ⟨V, y2, z2, v1, v2, v3, rfl⟩
        simp only [EX0]
        refine hk _ ⟨V, _, _, _, v1, v2, fun L => ?_, rfl⟩
        rw [v3 L]
        constructor
        · rintro ⟨f, x', m', L', e1, e2⟩
          exact ⟨f, x', m', L', e1, by rcases e2 with e2 | ⟨e2, e3⟩ <;> simp [e2]⟩
        · rintro ⟨f, x', m', L', e1, e2⟩
          refine ⟨f, x', m', L', e1, ?_⟩
          rcases List.mem_append.mp e2 with e2 | e2
          · exact .inl e2
          · rw [List.mem_singleton] at e2
            refine .inr ⟨e2, ?_⟩
            have := f.m (x', m') (by rw [e1]; simp)
            simp only [List.mem_cons, List.not_mem_nil, or_false]
            exact this
    · rintro ρ ⟨U, x1, y1, z1, u1, u2, u3, rfl⟩
      simp only [EX0]
      refine h1 U u1 (fun L => ?_) u2
      rw [u3 L]
      constructor
      · exact fun h => h.1
      · intro f
        obtain ⟨x, m, L', e, hx⟩ := heads L f
        exact ⟨f, x, m, L', e, (rp.key x).mpr hx⟩
/-! ### lines_of and why_none -/
structure BkOk (A B P : List Int) : Prop where
  pa : ∀ x ∈ A, 0 < x
  pb : ∀ x ∈ B, 0 < x
  pp : ∀ x ∈ P, 0 < x
  la : A.length ≤ 60
  lb : B.length ≤ 60
  lp : P.length ≤ 60
  ne : P ≠ []
def c_linesof : TD := fun ds q e => ∃ A B P, ds = [bkD A B P] ∧ BkOk A B P ∧
  (P.length ≤ 8 → ∀ T : List (List Pc), T.Nodup → (∀ L, L ∈ T ↔ Book L A B P) → T.length ≤ 500 → q (.list (sortD (T.map eL))) []) ∧
  (8 < P.length → e ⟨("TooMany" : Str), none⟩ []) ∧ (∀ U : List (List Pc), U.Nodup → (∀ L ∈ U, Book L A B P) → 500 < U.length → e ⟨("TooMany" : Str), none⟩ [])
theorem p_linesof : ∀ ds q e, c_linesof ds q e → t_lines_of c_counted (c_ext 9) ds q e := by
  rintro ds q e ⟨A, B, P, rfl, ok, h1, h2, h3⟩
  unfold t_lines_of m_lines_of
  simp only [EX0, bkD]
  refine iteB (fun hh => h2 (by omega)) fun hh => ?_
  have hl : P.length ≤ 8 := by omega
  have unlike : ¬ (sumI A = sumI B ∧ sumI B = sumI P) → okSort [] ∧ q (.list (sortD [])) [] := fun z => by
    refine ⟨okSortL [], h1 hl [] (by simp) (fun L => ⟨by simp, fun b => ?_⟩) (by simp)⟩
    have := b.sum
    exact absurd ⟨this.1.trans this.2.symm, this.2⟩ z
  simp only [sum_I]
  refine iteB (fun z1 => iteB (fun z2 => ?_) fun z2 => unlike fun z => z2 z.2) fun z1 => unlike fun z => z1 z.1
  refine ⟨A, .inr rfl, ok.la, fun ca ra => ?_⟩
  simp only [EX0]
  refine ⟨B, .inr rfl, ok.lb, fun cb rb => ?_⟩
  simp only [EX0]
  refine ⟨P, .inr rfl, ok.lp, fun cp rp => ?_⟩
  simp only [EX0]
  refine ⟨[], 0, 0, ca, cb, cp, A, B, P, [], rfl, ra, rb, rp, by omega, by simp; omega, ok.la, ok.lb, ok.pp, by omega, by omega, by simp, ?_, ?_⟩
  · intro T t1 t2 t3
    simp only [EX0]
    refine ⟨okSortL _, ?_⟩
    have e : T.map (fun x => x) = T := List.map_id' T
    rw [e]
    exact h1 hl T t1 (fun L => by rw [t2 L]; exact fits_book ok.pp ok.ne) (by simpa using t3)
  · intro U fd u1 u2 u3
    exact h3 U u1 (fun L hL => (fits_book ok.pp ok.ne).mp (u2 L hL)) (by simpa using u3)
theorem sortD_nil {T : List (List Pc)} : sortD (T.map eL) = [] ↔ T = [] := by
  constructor
  · intro h
    have := (sortD_perm (T.map eL)).length_eq
    rw [h] at this
    simpa using this.symm
  · rintro rfl; rw [List.map_nil]; exact (sortD_perm []).eq_nil
theorem sortL_ok (T : List (List Pc)) (h : ∀ L ∈ T, ∀ p ∈ L, Mark p.2) : Ok 3 (.list (sortD (T.map eL))) := Ok.list (n := 2) fun d hd => by
  obtain ⟨L, hL, rfl⟩ := List.mem_map.mp ((sortD_perm _).mem_iff.mp hd)
  exact okL (h L hL)
/-! ### the law's book -/
def sI (ns : List Int) : List Int := ns.mergeSort fun a b => decide (a ≤ b)
theorem sI_perm (ns : List Int) : (sI ns).Perm ns := List.mergeSort_perm _ _
theorem sI_le (ns : List Int) : (sI ns).Pairwise (· ≤ ·) := sortI_le ns
theorem sI_eq {xs ys : List Int} (h : xs.Perm ys) (hy : ys.Pairwise (· ≤ ·)) : sI xs = ys :=
  List.Perm.eq_of_pairwise (le := fun a b : Int => a ≤ b) (fun a b _ _ h1 h2 => Int.le_antisymm h1 h2) (sI_le xs) hy ((sI_perm xs).trans h)
theorem sI_iff {xs ys : List Int} (hy : ys.Pairwise (· ≤ ·)) : sI xs = ys ↔ xs.Perm ys := ⟨fun h => h ▸ (sI_perm xs).symm, fun h => sI_eq h hy⟩
theorem lens_ab : ∀ L : List Pc, lens mAB L 0 = L.map (·.1)
  | [] => rfl
  | p :: L => by rw [lens, if_pos (hABk _), lens_ab L, Int.zero_add]; rfl
def bookL (L : List Pc) : D := bkD (sI (lens mA L 0)) (sI (lens mB L 0)) (sI (L.map (·.1)))
def c_lawbook : TD := fun ds q _ => ∃ L : List Pc, ds = [eL L] ∧ (∀ p ∈ L, Mark p.2) ∧ L.length ≤ 1000 ∧ q (bookL L) []
theorem p_lawbook : ∀ ds q e, c_lawbook ds q e → t_book_of c_lensT ds q e := by
  rintro ds q e ⟨L, rfl, hm, hl, h⟩
  simp only [EV0, t_book_of, m_book_of]
  have one : ∀ k, Mark k → ∀ (Q : D → List D → Prop), Q (.tuple ((sI (lens k L 0)).map .int)) [eL L, .str k] → tCB oTuple [.ow] (aCons (tCB oSorted [.fz] (aCons (tCallD [.fz, .fz] [.bot, .bot] c_lensT (aCons (tVar 0) (aCons (tVar 1) aNil))) aNil)) aNil) [eL L, .str k] Q (fun _ _ => False) := fun k hk Q hQ => by
    simp only [EV0]
    refine ⟨L, k, rfl, hm, by omega, hk, ?_⟩
    simp only [EV0, eI]
    refine ⟨okSort_ints _, ?_⟩
    rw [sortD_ints]
    exact hQ
  simp only [lcD, gN, wr, cYes, if_true, List.set_cons_zero, List.set_cons_succ]
  refine one _ (.inl rfl) _ ⟨by simp [sizeLine_eq], ?_⟩
  simp only [List.set_cons_zero, List.set_cons_succ]
  refine one _ (.inr (.inl rfl)) _ ⟨by simp [sizeLine_eq], ?_⟩
  simp only [List.set_cons_zero, List.set_cons_succ]
  refine one _ (.inr (.inr rfl)) _ ⟨by simp [sizeLine_eq], ?_⟩
  simp only [EV0]
  rw [show ((Str.ofString "ab") : Str) = mAB from rfl, lens_ab]
  exact h
/-! ### books and zips as data -/
theorem eqvAll_ints : ∀ xs ys : List Int, PyData.eqvAll (xs.map .int) (ys.map .int) = decide (xs = ys)
  | [], [] => rfl
  | [], _ :: _ => by simp [PyData.eqvAll]
  | _ :: _, [] => by simp [PyData.eqvAll]
  | x :: xs, y :: ys => by
    simp only [List.map_cons, PyData.eqvAll, PyData.eqv, eqvAll_ints xs ys]
    rw [Bool.eq_iff_iff]
    simp
theorem eqv_bk (A B P A' B' P' : List Int) : PyData.eqv (bkD A B P) (bkD A' B' P') = decide (A = A' ∧ B = B' ∧ P = P') := by
  unfold bkD
  simp only [PyData.eqv, PyData.eqvAll, eqvAll_ints, Bool.and_true]
  rw [Bool.eq_iff_iff]
  simp
theorem ok_bk (A B P : List Int) : Ok 2 (bkD A B P) := Ok.tuple (n := 1) fun x hx => by
  have one : ∀ ns : List Int, Ok 1 (.tuple (ns.map .int)) := fun ns => Ok.tuple (n := 0) fun y hy => by
    obtain ⟨i, _, rfl⟩ := List.mem_map.mp hy
    exact Ok.i
  simp only [List.mem_cons, List.not_mem_nil, or_false] at hx
  rcases hx with rfl | rfl | rfl <;> exact one _
theorem zipT_pc (o : List Int) (r : List Str) : zipT (o.map .int) (r.map .str) = (o.zip r).map eP := by
  unfold zipT
  induction o generalizing r with
  | nil => simp
  | cons x o ih =>
    cases r with
    | nil => simp
    | cons m r => simp only [List.map_cons, List.zipWith_cons_cons, List.zip_cons_cons, ih r]; rfl
/-! ### good lists of lengths -/
structure Gd (M : Int) (X : List Int) : Prop where
  pos : ∀ x ∈ X, 0 < x ∧ x ≤ M
  lo : 1 ≤ X.length
  hi : X.length ≤ 12
theorem Gd.mono {M N : Int} {X : List Int} (h : Gd M X) (l : M ≤ N) : Gd N X := ⟨fun x hx => ⟨(h.pos x hx).1, Int.le_trans (h.pos x hx).2 l⟩, h.lo, h.hi⟩
theorem set_D {F : List (List Int)} (w : Nat) (Y : List Int) {d : List D} (e : d = Y.map .int) : (F.map eI).set w (.list d) = (F.set w Y).map eI := by
  rw [List.map_set, e]
  rfl
theorem eraseIdx_mapD : ∀ (X : List Int) (m : Nat), (X.map PyData.int).eraseIdx m = (X.eraseIdx m).map .int
  | [], _ => rfl
  | _ :: _, 0 => rfl
  | x :: X, m + 1 => by simp [List.eraseIdx, eraseIdx_mapD X m]
theorem Gd.set {M : Int} {X : List Int} (h : Gd M X) (m : Nat) {y : Int} (hy : 0 < y ∧ y ≤ M) : Gd M (X.set m y) := by
  refine ⟨fun x hx => ?_, by rw [List.length_set]; exact h.lo, by rw [List.length_set]; exact h.hi⟩
  rcases List.mem_or_eq_of_mem_set hx with hx | rfl
  · exact h.pos x hx
  · exact hy
/-! ### bounds of a book's lengths -/
theorem lens_le {L : List Pc} (h : LnT L) {M : Int} (hM : ∀ p ∈ L, p.1 ≤ M) (k : Str) {x : Int} (hx : x ∈ lens k L 0) : x ≤ L.length * M := by
  have mem_le : ∀ {ns : List Int}, (∀ y ∈ ns, 0 < y) → ∀ y ∈ ns, y ≤ sumI ns := fun {ns} => by
    induction ns with
    | nil => intro _ y hy; cases hy
    | cons a ns ih =>
      intro hp y hy
      have h2 : ∀ y ∈ ns, 0 < y := fun y hy => hp y (by simp [hy])
      have h3 := sumI_nonneg h2
      have h4 := hp a (by simp)
      rw [sumI_cons]
      rcases List.mem_cons.mp hy with rfl | hy
      · omega
      · have := ih h2 y hy; omega
  have sum_le : ∀ L : List Pc, (∀ p ∈ L, p.1 ≤ M) → sumI (L.map (·.1)) ≤ L.length * M := fun L => by
    induction L with
    | nil => intro _; simp [sumI]
    | cons p L ih =>
      intro hp
      have h1 := ih fun q hq => hp q (by simp [hq])
      have h2 := hp p (by simp)
      rw [List.map_cons, sumI_cons, List.length_cons]
      have : ((L.length + 1 : Nat) : Int) * M = L.length * M + M := by
        rw [show ((L.length + 1 : Nat) : Int) = (L.length : Int) + 1 by omega, Int.add_mul]; omega
      omega
  have h1 := mem_le (lens_pos k L 0 (by omega) h.ok) x hx
  rw [lens_sum k L 0 h] at h1
  have := sum_le L hM
  omega
theorem lens_ne {L : List Pc} (h : LnT L) (k : Str) : 1 ≤ (lens k L 0).length := by
  obtain ⟨a, t, _, e⟩ := lens_first k h
  rw [e]; simp
theorem Gd.book {L : List Pc} (h : LnT L) {M : Int} (hM : ∀ p ∈ L, p.1 ≤ M) (hl : L.length ≤ 12) (h0 : 0 ≤ M) (k : Str) : Gd (12 * M) (sI (lens k L 0)) := by
  refine ⟨fun x hx => ?_, ?_, ?_⟩
  · have hx := (sI_perm _).mem_iff.mp hx
    refine ⟨lens_pos k L 0 (by omega) h.ok x hx, Int.le_trans (lens_le h hM k hx) (Int.mul_le_mul_of_nonneg_right (by omega) h0)⟩
  · rw [(sI_perm _).length_eq]; exact lens_ne h k
  · rw [(sI_perm _).length_eq]; exact Nat.le_trans (lens_len k L 0) hl
/-! ### two lengths put together -/
/-- after is before with x and y put together -/
structure Mg (b a : List Int) (x y : Int) : Prop where
  x0 : 0 < x
  y0 : 0 < y
  ex : ∃ w : List Int, (x :: y :: w).Perm b ∧ ((x + y) :: w).Perm a
theorem lens_hits (k : Str) : ∀ (L : List Pc) (o : Int), (lens k L o).length = (L.filter fun p => hit k p.2).length
  | [], _ => rfl
  | p :: L, o => by
    rw [lens, List.filter_cons]
    split
    · rw [List.length_cons, List.length_cons, lens_hits k L]
    · exact lens_hits k L _
theorem last_app {P1 P2 : List Pc} (n : P2 ≠ []) : (P1 ++ P2).getLast? = P2.getLast? := by
  rw [List.getLast?_append]
  obtain ⟨x, hx⟩ : ∃ x, P2.getLast? = some x := ⟨_, List.getLast?_eq_some_getLast n⟩
  rw [hx]
  rfl
theorem LnT.drop {P1 P2 : List Pc} (h : LnT (P1 ++ P2)) (n : P2 ≠ []) : LnT P2 := ⟨fun p hp => h.ok p (by simp [hp]), by
  obtain ⟨x, hx⟩ := h.last
  exact ⟨x, by rw [← hx, last_app n]⟩⟩
theorem LnT.swap {P1 P2 Q : List Pc} (h : LnT (P1 ++ P2)) (n : Q ≠ []) (hQ : LnT Q) : LnT (P1 ++ Q) := ⟨fun p hp => by
  rcases List.mem_append.mp hp with hp | hp
  · exact h.ok p (by simp [hp])
  · exact hQ.ok p hp, by
  obtain ⟨x, hx⟩ := hQ.last
  exact ⟨x, by rw [last_app n, hx]⟩⟩
theorem Mg.cons {b a : List Int} {x y : Int} (h : Mg b a x y) (z : Int) : Mg (z :: b) (z :: a) x y := by
  obtain ⟨w, h1, h2⟩ := h.ex
  exact ⟨h.x0, h.y0, z :: w, ((List.Perm.swap z y w).cons x |>.trans (List.Perm.swap z x _)).trans (h1.cons z), (List.Perm.swap z (x + y) w).trans (h2.cons z)⟩
/-- a cut of k less -/
theorem cut_less {k : Str} {n : Int} {m1 m2 : Str} (h1 : hit k m1 = true) (h2 : hit k m2 = false) {P2 : List Pc} (hP : LnT P2) : ∀ {P1 : List Pc} {o : Int}, 0 ≤ o → (∀ p ∈ P1, PcOk p) → 0 < n → ∃ x y, Mg (lens k (P1 ++ (n, m1) :: P2) o) (lens k (P1 ++ (n, m2) :: P2) o) x y
  | [], o, ho, _, hn => by
    obtain ⟨h, t, h0, e⟩ := lens_first k hP
    refine ⟨o + n, h, by omega, h0, t, ?_, ?_⟩
    · rw [List.nil_append, lens, if_pos h1, e 0, Int.zero_add]
    · rw [List.nil_append, lens, if_neg (by rw [h2]; simp), e]
  | p :: P1, o, ho, hp, hn => by
    have h0 := (hp p (by simp)).1
    have hp' : ∀ q ∈ P1, PcOk q := fun q hq => hp q (by simp [hq])
    rw [List.cons_append, List.cons_append, lens, lens]
    split
    · obtain ⟨x, y, ih⟩ := cut_less h1 h2 hP (P1 := P1) (o := 0) (by omega) hp' hn
      exact ⟨x, y, ih.cons _⟩
    · exact cut_less h1 h2 hP (by omega) hp' hn
theorem cut_same {k : Str} {n : Int} {m1 m2 : Str} (h : hit k m1 = hit k m2) (P2 : List Pc) : ∀ (P1 : List Pc) (o : Int), lens k (P1 ++ (n, m1) :: P2) o = lens k (P1 ++ (n, m2) :: P2) o
  | [], o => by rw [List.nil_append, List.nil_append, lens, lens, h]
  | p :: P1, o => by
    rw [List.cons_append, List.cons_append, lens, lens, cut_same h P2 P1, cut_same h P2 P1]
/-- a piece parted by k -/
theorem part_more {k : Str} {a b : Int} {mk m : Str} (h1 : hit k mk = true) (ha : 0 < a) {P2 : List Pc} (hP : LnT ((b, m) :: P2)) : ∀ {P1 : List Pc} {o : Int}, 0 ≤ o → (∀ p ∈ P1, PcOk p) → ∃ x y, Mg (lens k (P1 ++ (a, mk) :: (b, m) :: P2) o) (lens k (P1 ++ (a + b, m) :: P2) o) x y
  | [], o, ho, _ => by
    obtain ⟨h, t, h0, e⟩ := lens_first k hP
    have e2 : lens k ((a + b, m) :: P2) o = lens k ((b, m) :: P2) (o + a) := by
      rw [lens, lens, ← Int.add_assoc]
    refine ⟨o + a, h, by omega, h0, t, ?_, ?_⟩
    · rw [List.nil_append, lens, if_pos h1, e 0, Int.zero_add]
    · rw [List.nil_append, e2, e]
  | p :: P1, o, ho, hp => by
    have h0 := (hp p (by simp)).1
    have hp' : ∀ q ∈ P1, PcOk q := fun q hq => hp q (by simp [hq])
    rw [List.cons_append, List.cons_append, lens, lens]
    split
    · obtain ⟨x, y, ih⟩ := part_more h1 ha hP (P1 := P1) (o := 0) (by omega) hp'
      exact ⟨x, y, ih.cons _⟩
    · exact part_more h1 ha hP (by omega) hp'
theorem part_same {k : Str} {a b : Int} {mk m : Str} (h1 : hit k mk = false) (P2 : List Pc) : ∀ (P1 : List Pc) (o : Int), lens k (P1 ++ (a, mk) :: (b, m) :: P2) o = lens k (P1 ++ (a + b, m) :: P2) o
  | [], o => by
    rw [List.nil_append, List.nil_append, lens, if_neg (by rw [h1]; simp), lens, lens, Int.add_assoc]
  | p :: P1, o => by
    rw [List.cons_append, List.cons_append, lens, lens, part_same h1 P2 P1, part_same h1 P2 P1]
theorem Mg.sI {b a : List Int} {x y : Int} (h : Mg b a x y) : Mg (sI b) (sI a) x y := by
  obtain ⟨w, h1, h2⟩ := h.ex
  exact ⟨h.x0, h.y0, w, h1.trans (sI_perm b).symm, h2.trans (sI_perm a).symm⟩
theorem Mg.len {b a : List Int} {x y : Int} (h : Mg b a x y) : b.length = a.length + 1 := by
  obtain ⟨w, h1, h2⟩ := h.ex
  rw [← h1.length_eq, ← h2.length_eq]
  rfl
theorem Mg.more {b a : List Int} {x y : Int} (h : Mg b a x y) {k : Int} (hk : a.count k > b.count k) : k = x + y := by
  obtain ⟨w, h1, h2⟩ := h.ex
  rw [← h1.count_eq, ← h2.count_eq] at hk
  simp only [List.count_cons, beq_iff_eq] at hk
  apply Classical.byContradiction
  intro z
  rw [if_neg (fun y => z y.symm)] at hk
  omega
theorem Mg.gone {b a : List Int} {x y : Int} (h : Mg b a x y) : (x ∈ b ∧ b.count x > a.count x) ∧ (y ∈ b ∧ b.count y > a.count y) := by
  obtain ⟨w, h1, h2⟩ := h.ex
  have hx := h.x0
  have hy := h.y0
  refine ⟨⟨h1.mem_iff.mp (by simp), ?_⟩, h1.mem_iff.mp (by simp), ?_⟩
  · rw [← h1.count_eq, ← h2.count_eq]
    simp only [List.count_cons, beq_iff_eq, if_true]
    rw [if_neg (show ¬ x + y = x by omega)]
    omega
  · rw [← h1.count_eq, ← h2.count_eq]
    simp only [List.count_cons, beq_iff_eq, if_true]
    rw [if_neg (show ¬ x + y = y by omega)]
    omega
theorem Mg.rest {b a : List Int} {x y : Int} (h : Mg b a x y) : y ∈ b.erase x ∧ (((b.erase x).erase y) ++ [x + y]).Perm a := by
  obtain ⟨w, h1, h2⟩ := h.ex
  have e1 := h1.erase x
  rw [List.erase_cons_head] at e1
  have e2 := e1.erase y
  rw [List.erase_cons_head] at e2
  exact ⟨e1.mem_iff.mp (by simp), List.perm_append_comm.trans ((e2.symm.cons (x + y)).trans h2)⟩
/-! ### is_line of a line -/
def c_isline : TD := fun ds q _ => ∃ L : List Pc, ds = [eL L] ∧ LnT L ∧ L.length ≤ 12 ∧ q (.bool true) []
theorem p_isline : ∀ ds q e, c_isline ds q e → t_is_line c_piecesF ds q e := by
  rintro ds q e ⟨L, rfl, hL, hl, h⟩
  obtain ⟨n, hn⟩ := hL.last
  refine p_islineF _ _ _ ⟨L.map eP, n, rfl, fun p hp => ?_, by rw [List.length_map]; exact hl, by rw [List.getLast?_map, hn]; rfl, h⟩
  obtain ⟨x, hx, rfl⟩ := List.mem_map.mp hp
  exact ⟨x.1, x.2, rfl, (hL.ok x hx).1, (hL.ok x hx).2⟩
def tI (ns : List Int) : D := .tuple (ns.map .int)
/-! ### counts, lines, what went -/
theorem ifN {c : Prop} [Decidable c] {A B : Prop} (h : ¬ c) (b : B) : if c then A else B := by
  rw [if_neg h]; exact b
theorem occK {k m : Str} (hk : Mark k) (hm : Mark m) (n : k ≠ mAB) : (Builtin.Str.occurrences m k 0 m.length 1).isEmpty = !hit k m := by
  rcases hk with rfl | rfl | rfl <;> rcases hm with rfl | rfl | rfl <;> first
    | (decide +kernel)
    | exact absurd rfl n
def c_counts : TD := fun ds q _ => ∃ L : List Pc, ds = [eL L] ∧ (∀ p ∈ L, Mark p.2) ∧ L.length ≤ 100 ∧ q (eI [((lens mA L 0).length : Nat), ((lens mB L 0).length : Nat), (L.length : Nat)]) []
theorem p_counts : ∀ ds q e, c_counts ds q e → t__law_counts ds q e := by
  rintro ds q e ⟨L, rfl, hm, hl, h⟩
  unfold t__law_counts m__law_counts
  simp only [EX0, eL]
  have chars : ((Str.ofString "ab").cps.toList.map fun c => (PyData.str ⟨#[c]⟩ : D)) = [PyData.str mA, .str mB] := by
    have : ((Str.ofString "ab").cps.toList.map fun c => (⟨#[c]⟩ : Str)) = [mA, mB] := by decide +kernel
    have h2 := congrArg (List.map PyData.str) this
    rw [List.map_map] at h2
    exact h2
  have inner : ∀ (k : Str), Mark k → k ≠ mAB → ∀ {Q : D → List D → Prop} {y0 y1 y2 y3 y4 : D}, (∀ y4, Q (.list ((L.filter fun p => hit k p.2).map fun p => .str p.2)) [y0, y1, y2, y3, y4, .str k]) →
      lcD (gN 4) (tTest (tBin (oIn false) Ty.fz Ty.fz (tVar 5) (tVar 4))) (tVar 4) Q (L.map fun p => .str p.2) [] [y0, y1, y2, y3, y4, .str k] := fun k hk nk {Q y0 y1 y2 y3 y4} hQ => by
    refine lcD_map (fun pre acc ρ => acc = (pre.filter fun p => hit k p.2).map (fun p => PyData.str p.2) ∧ ∃ y4, ρ = [y0, y1, y2, y3, y4, .str k]) ⟨rfl, _, rfl⟩ ?_ ?_
    · rintro pre p post acc ρ ex ⟨rfl, z, rfl⟩ k2 hk2
      have hp : Mark p.2 := hm p (by rw [ex]; simp)
      have lp : (pre.filter fun p => hit k p.2).length ≤ 100 := Nat.le_trans (List.length_filter_le _ _) (by rw [ex] at hl; simp at hl; omega)
      simp only [EX0]
      rw [occK hk hp nk]
      cases hh : hit k p.2 with
      | true =>
        refine ifP (by simp) ?_
        exact ⟨by omega, hk2 _ _ ⟨by simp [hh], _, rfl⟩⟩
      | false =>
        refine (iteB (fun z => by simp at z) fun _ => ?_)
        exact hk2 _ _ ⟨by simp [hh], _, rfl⟩
    · rintro acc ρ ⟨rfl, z, rfl⟩
      exact hQ _
  refine lcD_map (fun pre acc ρ => acc = pre.map (fun p : Pc => PyData.str p.2) ∧ ∃ y3 y4, ρ = [eL L, .none, .none, y3, y4, .none]) ⟨rfl, _, _, rfl⟩ ?_ ?_
  · rintro pre p post acc ρ ex ⟨rfl, z3, z4, rfl⟩ k hk
    have lp : pre.length ≤ 100 := by rw [ex] at hl; simp at hl; omega
    simp only [EX0, eP]
    exact ⟨by omega, hk _ _ ⟨by simp, _, _, rfl⟩⟩
  · rintro acc ρ ⟨rfl, z3, z4, rfl⟩
    simp only [itemsOf]
    rw [chars]
    simp only [lcD, gN, wr, cYes, if_true, List.set_cons_zero, List.set_cons_succ]
    simp only [EX0]
    refine inner mA (.inl rfl) (by decide +kernel) fun y4 => ?_
    simp only [EX0]
    refine inner mB (.inr (.inl rfl)) (by decide +kernel) fun y4 => ?_
    simp only [EX0, eL]
    rw [lens_hits, lens_hits] at h
    exact h
/-- what the lines of a book are told as -/
def LV (A B P : List Int) (W : D) : Prop := W = .none ∨ ∃ T : List (List Pc), T.Nodup ∧ (∀ L, L ∈ T ↔ Book L A B P) ∧ W = .list (sortD (T.map eL))
def c_lawlines : TD := fun ds q _ => ∃ A B P, ds = [bkD A B P] ∧ BkOk A B P ∧ P.length ≤ 8 ∧ ∀ W, LV A B P W → q W []
theorem p_lawlines : ∀ ds q e, c_lawlines ds q e → t__law_lines c_linesof ds q e := by
  rintro ds q e ⟨A, B, P, rfl, ok, l8, h⟩
  unfold t__law_lines m__law_lines
  simp only [EX0]
  refine ⟨A, B, P, rfl, ok, fun _ T t1 t2 t3 => ?_, fun z => by omega, fun U u1 u2 u3 => ⟨rfl, by simp, ?_⟩⟩
  · exact h _ (.inr ⟨T, t1, t2, rfl⟩)
  · exact h _ (.inl rfl)
def c_without2 : TD := fun ds q _ => ∃ (B : List Int) (x y : Int), ds = [tI B, eI [x, y]] ∧ B.length ≤ 60 ∧ (x ∈ B ∧ y ∈ B.erase x → q (eI ((B.erase x).erase y)) []) ∧ (¬ (x ∈ B ∧ y ∈ B.erase x) → q .none [])
theorem p_without2 : ∀ ds q e, c_without2 ds q e → t__law_without ds q e := by
  rintro ds q e ⟨B, x, y, rfl, hl, h1, h2⟩
  unfold t__law_without m__law_without
  simp only [EX0, tI, eI]
  simp only [forD]
  simp only [EX0]
  refine ⟨(okI B).eq, ?_⟩
  rw [any_int]
  refine iteB (fun z => h2 fun y => by simp [y.1] at z) fun z => ?_
  have hx : x ∈ B := by simpa using z
  refine ⟨B, rfl, hx, (okI _).eq, ?_⟩
  rw [any_int]
  refine iteB (fun z => h2 fun y => by simp [y.2] at z) fun z => ?_
  have hy : y ∈ B.erase x := by simpa using z
  exact ⟨_, rfl, hy, h1 ⟨hx, hy⟩⟩
def c_merged : TD := fun ds q _ => ∃ (b a : List Int) (x y : Int), ds = [tI b, tI a] ∧ b.length ≤ 60 ∧ a.Pairwise (· ≤ ·) ∧ Mg b a x y ∧ q (.bool true) []
theorem p_merged : ∀ ds q e, c_merged ds q e → t__law_merged_right c_without2 ds q e := by
  rintro ds q e ⟨b, a, x, y, rfl, hl, sa, hM, h⟩
  unfold t__law_merged_right m__law_merged_right
  simp only [EX0, tI, tSrtSetT]
  have la := hM.len
  refine ⟨b, .inr rfl, by omega, fun ms pm mm => ?_⟩
  refine lcD_map (fun pre acc ρ => acc = (pre.filter fun k => decide (b.count k > a.count k)).map PyData.int ∧ ∃ y4, ρ = [tI b, tI a, .none, .none, y4, .none, .none]) ⟨rfl, _, rfl⟩ ?_ ?_
  · rintro pre k post acc ρ ex ⟨rfl, z4, rfl⟩ k2 hk2
    have lm : ms.length ≤ b.length := List.Nodup.length_le_of_subset (pm.imp fun h => Int.ne_of_lt h) fun k hk => (mm k).mp hk
    have lf : (pre.filter fun k => decide (b.count k > a.count k)).length ≤ 60 := Nat.le_trans (List.length_filter_le _ _) (by rw [ex] at lm; simp at lm; omega)
    simp only [EX0, tI]
    refine ⟨⟨_, rfl⟩, b, k, rfl, rfl, ⟨_, rfl⟩, a, k, rfl, rfl, iteB (fun z => ?_) fun z => ?_⟩
    · exact ⟨by omega, hk2 _ _ ⟨by simp [List.filter_append, show a.count k < b.count k by omega], _, rfl⟩⟩
    · exact hk2 _ _ ⟨by simp [List.filter_append, show ¬ a.count k < b.count k by omega], _, rfl⟩
  · rintro acc ρ ⟨rfl, z4, rfl⟩
    simp only [EX0]
    refine ⟨a, .inr rfl, by omega, fun ms2 pm2 mm2 => ?_⟩
    obtain ⟨gone, hg⟩ : ∃ gone, gone = ms.filter fun k => decide (b.count k > a.count k) := ⟨_, rfl⟩
    rw [← hg]
    have xg : x ∈ gone := by rw [hg]; exact List.mem_filter.mpr ⟨(mm x).mpr hM.gone.1.1, by simpa using hM.gone.1.2⟩
    have yg : y ∈ gone := by rw [hg]; exact List.mem_filter.mpr ⟨(mm y).mpr hM.gone.2.1, by simpa using hM.gone.2.2⟩
    refine lcD_map (fun pre acc ρ => acc = (pre.filter fun k => decide (a.count k > b.count k)).map PyData.int ∧ ∃ y4, ρ = [tI b, tI a, .list (gone.map .int), .none, y4, .none, .none]) ⟨rfl, _, rfl⟩ ?_ ?_
    · rintro pre k post acc ρ ex ⟨rfl, z4, rfl⟩ k2 hk2
      have lm : ms2.length ≤ a.length := List.Nodup.length_le_of_subset (pm2.imp fun h => Int.ne_of_lt h) fun k hk => (mm2 k).mp hk
      have lf : (pre.filter fun k => decide (a.count k > b.count k)).length ≤ 60 := Nat.le_trans (List.length_filter_le _ _) (by rw [ex] at lm; simp at lm; omega)
      simp only [EX0, tI]
      refine ⟨⟨_, rfl⟩, a, k, rfl, rfl, ⟨_, rfl⟩, b, k, rfl, rfl, iteB (fun z => ?_) fun z => ?_⟩
      · exact ⟨by omega, hk2 _ _ ⟨by simp [List.filter_append, show b.count k < a.count k by omega], _, rfl⟩⟩
      · exact hk2 _ _ ⟨by simp [List.filter_append, show ¬ b.count k < a.count k by omega], _, rfl⟩
    · rintro acc ρ ⟨rfl, z4, rfl⟩
      have lc : (ms2.filter fun k => decide (a.count k > b.count k)).length ≤ 1 := by
        have nd : (ms2.filter fun k => decide (a.count k > b.count k)).Nodup := List.Nodup.sublist List.filter_sublist (pm2.imp fun h => Int.ne_of_lt h)
        have := nd.length_le_of_subset (l₂ := [x + y]) fun k hk => by
          have := (List.mem_filter.mp hk).2
          rw [List.mem_singleton]
          exact hM.more (by simpa using this)
        simpa using this
      simp only [EX0, tI]
      refine iteB (fun z => by omega) fun _ => ifN (by omega) ?_
      refine forD_map (fun pre ρ => x ∉ pre ∧ ∃ c4 y4 y5 y6, ρ = [tI b, tI a, .list (gone.map .int), c4, y4, y5, y6]) ⟨by simp, _, _, _, _, rfl⟩ ?_ ?_
      · rintro pre one post ρ k ex ⟨hx, c4, w4, w5, w6, rfl⟩ hk
        simp only [EX0]
        refine forD_map (fun pm ρ => (one = x → y ∉ pm) ∧ ∃ c4 y5 y6, ρ = [tI b, tI a, .list (gone.map .int), c4, .int one, y5, y6]) ⟨by simp, _, _, _, rfl⟩ ?_ ?_
        · rintro pm other postm ρ k2 exm ⟨hy, c5, w5, w6, rfl⟩ hk2
          simp only [EX0]
          have go : (one = x → other = y → False) → ∀ {c5 w5 w6}, k2 [tI b, tI a, .list (gone.map .int), c5, .int one, w5, w6] := fun no {c5 w5 w6} => hk2 _ ⟨fun e hm => by
            rcases List.mem_append.mp hm with hm | hm
            · exact hy e hm
            · rw [List.mem_singleton] at hm
              exact no e hm.symm, _, _, _, rfl⟩
          refine ⟨b, one, other, rfl, hl, fun hin => ?_, fun hout => ?_⟩
          · have lr : ((b.erase one).erase other).length ≤ 60 := Nat.le_trans (List.length_erase_le ..) (Nat.le_trans (List.length_erase_le ..) hl)
            have ea : ((b.erase one).erase other).map PyData.int ++ [.int (one + other)] = (((b.erase one).erase other) ++ [one + other]).map .int := by rw [List.map_append]; rfl
            simp only [EX0, isN, eI, tI]
            rw [ea, sortD_ints]
            refine ⟨by omega, okSort_ints _, (okI _).eq, (okI a).eq, ?_⟩
            have ev := eqvAll_ints (sI (((b.erase one).erase other) ++ [one + other])) a
            refine iteB (fun _ => h) fun z => go fun e1 e2 => z ?_
            subst e1 e2
            have e3 : sI (((b.erase one).erase other) ++ [one + other]) = a := sI_eq hM.rest.2 sa
            show PyData.eqvAll ((sI (((b.erase one).erase other) ++ [one + other])).map .int) (a.map .int) = true
            rw [ev, e3]
            simp
          · simp only [EX0, isN]
            exact go fun e1 e2 => hout (by subst e1 e2; exact ⟨hM.gone.1.1, hM.rest.1⟩)
        · rintro ρ ⟨hy, c5, w5, w6, rfl⟩
          simp only [EX0]
          refine hk _ ⟨fun hm => ?_, _, _, _, _, rfl⟩
          rcases List.mem_append.mp hm with hm | hm
          · exact hx hm
          · rw [List.mem_singleton] at hm
            exact hy hm.symm yg
      · rintro ρ ⟨hx, c4, w4, w5, w6, rfl⟩
        exact absurd xg hx
def c_oneless : TD := fun ds q _ => ∃ (d : D) (c : Int) (L : List Pc), ds = [d, eL L] ∧ Deck c d ∧ c < 10000 ∧ LnT L ∧ L.length ≤ 12 ∧ (∀ d', Deck (c + 2) d' → q (.tuple [.none, .int 0]) [d']) ∧
  ∀ (P1 P2 : List Pc) (n : Int) (w : Nat) d', w < 2 → L = P1 ++ (n, mAB) :: P2 → P2 ≠ [] → Deck (c + 2) d' → q (.tuple [eL (P1 ++ (n, if w = 0 then mB else mA) :: P2), .int (w : Nat)]) [d']
theorem p_oneless : ∀ ds q e, c_oneless ds q e → t__law_one_less c_pick ds q e := by
  rintro ds q e ⟨d, c, L, rfl, hd, hc, hL, hl, h1, h2⟩
  unfold t__law_one_less m__law_one_less
  simp only [EX0, eL]
  have hne := hL.ne
  have h0 := List.length_pos_iff.mpr hne
  refine ⟨by constructor <;> omega, ?_⟩
  refine lcD_inv (fun pre acc ρ => acc.length ≤ pre.length ∧ (∀ x ∈ acc, ∃ (k : Nat) (n : Int), x = .int (k : Nat) ∧ k + 1 < L.length ∧ L[k]? = some (n, mAB)) ∧ ∃ z, ρ = [d, eL L, .none, .none, .none, z]) ⟨by simp, by simp, _, rfl⟩ ?_ ?_
  · rintro pre x post acc ρ ex ⟨i1, i2, z, rfl⟩ k hk
    have hlt : pre.length < (rng 0 ((L.length : Int) - 1)).length := by rw [ex]; simp
    have hx : x = .int (pre.length : Nat) := by
      have e1 : (rng 0 ((L.length : Int) - 1))[pre.length]? = some x := by rw [ex]; simp
      unfold rng at e1
      rw [rng_len] at hlt
      rw [List.getElem?_map, List.getElem?_range (by simpa using hlt)] at e1
      have := Option.some.inj e1
      rw [← this]
      simp
    subst hx
    rw [rng_len] at hlt
    have hp : pre.length + 1 < L.length := by omega
    obtain ⟨⟨n, m⟩, hn⟩ : ∃ p, L[pre.length]? = some p := ⟨_, List.getElem?_eq_getElem (by omega)⟩
    have hm : Mark m := (hL.ok (n, m) (List.mem_of_getElem? hn)).2
    have g1 : (L.map eP)[pre.length]? = some (.tuple [.int n, .str m]) := by rw [List.getElem?_map, hn]; rfl
    simp only [EX0, eL, g1]
    refine ⟨hm.ok, iteB (fun z => ?_) fun z => ?_⟩
    · refine ⟨by omega, hk _ _ ⟨by simp; omega, fun y hy => ?_, _, rfl⟩⟩
      rcases List.mem_append.mp hy with hy | hy
      · exact i2 y hy
      · rw [List.mem_singleton] at hy
        have z : m = mAB := by simpa using z
        exact ⟨pre.length, n, hy, hp, by rw [hn, z]⟩
    · exact hk _ _ ⟨by simp; omega, i2, _, rfl⟩
  · rintro acc ρ ⟨i1, i2, z, rfl⟩
    rw [rng_len] at i1
    simp only [EX0]
    have oka : Ok 1 (.list acc) := Ok.list (n := 0) fun x hx => by
      obtain ⟨k, n, rfl, _⟩ := i2 x hx
      exact Ok.i
    refine ⟨oka.eq, ?_⟩
    cases acc with
    | nil =>
      refine ifP rfl ?_
      exact h1 d (hd.mono (by omega))
    | cons a0 acc0 =>
      obtain ⟨acc, hacc⟩ : ∃ acc, acc = a0 :: acc0 := ⟨_, rfl⟩
      have hpos : 0 < acc.length := by rw [hacc]; simp
      have hlen : acc.length ≤ 12 := by rw [hacc]; omega
      rw [← hacc] at i2 ⊢
      refine ifN (by rw [hacc]; simp) ?_
      refine pick_step hd (fun r1 d1 a1 b1 k1 => ?_) (by omega) (by omega) (Fit.of (by omega) (by omega))
      simp only [EX0]
      refine atI_all a1 b1 fun x hx => ?_
      obtain ⟨at_, n, rfl, hat, hn⟩ := i2 x hx
      refine pick_step k1 fun r2 d2 a2 b2 k2 => ?_
      obtain ⟨w, rfl⟩ := Int.eq_ofNat_of_zero_le a2
      have hw : w < 2 := by omega
      have g1 : (L.map eP)[at_]? = some (.tuple [.int n, .str mAB]) := by rw [List.getElem?_map, hn]; rfl
      have eL1 : L = L.take at_ ++ (n, mAB) :: L.drop (at_ + 1) := by
        have : L.drop at_ = (n, mAB) :: L.drop (at_ + 1) := by
          rw [List.drop_eq_getElem_cons (by omega)]
          rw [List.getElem?_eq_getElem (by omega)] at hn
          rw [Option.some.inj hn]
        rw [← this, List.take_append_drop]
      have hdr : L.drop (at_ + 1) ≠ [] := fun z => by
        have := congrArg List.length z
        simp at this
        omega
      have ba : ∀ {q : D → Prop}, q (.str (if w = 0 then mB else mA)) → oIx (.str (Str.ofString "ba")) (.int (w : Nat)) q := fun {q} hq => by
        obtain rfl | rfl : w = 0 ∨ w = 1 := by omega
        · exact ⟨by decide +kernel, 98, by decide +kernel, by rw [show (⟨#[98]⟩ : Str) = mB by decide +kernel]; exact hq⟩
        · exact ⟨by decide +kernel, 97, by decide +kernel, by rw [show (⟨#[97]⟩ : Str) = mA by decide +kernel]; exact hq⟩
      simp only [EX0, eL, g1]
      refine ba ?_
      have lt : ((L.map eP).take at_).length ≤ 12 := by rw [List.length_take, List.length_map]; omega
      have ld : ((L.map eP).drop (at_ + 1)).length ≤ 12 := by rw [List.length_drop, List.length_map]; omega
      refine ⟨by omega, by omega, ?_⟩
      have e1 : (L.map eP).take at_ ++ [PyData.tuple [.int n, .str (if w = 0 then mB else mA)]] ++ (L.map eP).drop (at_ + 1) = (L.take at_ ++ (n, if w = 0 then mB else mA) :: L.drop (at_ + 1)).map eP := by
        rw [List.map_append, List.map_cons, List.map_take, List.map_drop, List.append_assoc]
        rfl
      rw [e1]
      exact h2 _ _ n w d2 hw eL1 hdr (k2.mono (by omega))
/-! ### the signs of ab -/
theorem ab0 {q : D → Prop} (h : q (.str mA)) : oIx (.str (Str.ofString "ab")) (.int 0) q :=
  ⟨by decide +kernel, 97, by decide +kernel, by rw [show (⟨#[97]⟩ : Str) = mA by decide +kernel]; exact h⟩
theorem ab1 {q : D → Prop} (h : q (.str mB)) : oIx (.str (Str.ofString "ab")) (.int 1) q :=
  ⟨by decide +kernel, 98, by decide +kernel, by rw [show (⟨#[98]⟩ : Str) = mB by decide +kernel]; exact h⟩
/-! ### lines in a sorted list of lines -/
theorem eqv_eL : ∀ L M : List Pc, PyData.eqv (eL L) (eL M) = decide (L = M) := by
  have all : ∀ L M : List Pc, PyData.eqvAll (L.map eP) (M.map eP) = decide (L = M) := fun L => by
    induction L with
    | nil => intro M; cases M <;> simp [PyData.eqvAll]
    | cons p L ih =>
      intro M
      cases M with
      | nil => simp [PyData.eqvAll]
      | cons q M =>
        simp only [List.map_cons, PyData.eqvAll, ih M]
        rw [Bool.eq_iff_iff]
        simp only [eP, PyData.eqv, PyData.eqvAll, Bool.and_true, Bool.and_eq_true, beq_iff_eq, decide_eq_true_eq, List.cons.injEq]
        constructor
        · rintro ⟨⟨h1, h2⟩, h3⟩; exact ⟨Prod.ext h1 h2, h3⟩
        · rintro ⟨rfl, h3⟩; exact ⟨⟨rfl, rfl⟩, h3⟩
  intro L M
  show PyData.eqvAll (L.map eP) (M.map eP) = _
  exact all L M
theorem any_eL (T : List (List Pc)) (L : List Pc) : ((sortD (T.map eL)).any fun e => PyData.eqv e (eL L)) = decide (L ∈ T) := by
  rw [Bool.eq_iff_iff, List.any_eq_true, decide_eq_true_eq]
  constructor
  · rintro ⟨x, hx, e⟩
    obtain ⟨M, hM, rfl⟩ := List.mem_map.mp ((sortD_perm _).mem_iff.mp hx)
    rw [eqv_eL, decide_eq_true_eq] at e
    exact e ▸ hM
  · intro h
    exact ⟨eL L, (sortD_perm _).mem_iff.mpr (List.mem_map_of_mem h), by rw [eqv_eL]; simp⟩
/-! ### the law -/
/-- what is asked of the parted line -/
def rest2 : SM := (sSeq (sSet 9 (tCallD [Ty.pk 2, Ty.fz] [Ty.ow, Ty.bot] c_pick (aCons (tPk 2) (aCons (tCB oLen [Ty.fz] (aCons (tVar 3) aNil)) aNil)))) (sSeq (sAsg (tBin oIx (Ty.fz) (Ty.fz) (tVar 3) (tVar 9)) (gS 2 (gsCons (gN 10) (gsCons (gN 11) gsNil)))) (sSeq (sIf (tTest (tBin oGt (Ty.fz) (Ty.fz) (tVar 10) (tK (.int 1)))) (sSeq (sSet 12 (tBin oAdd (Ty.fz) (Ty.fz) (tK (.int 1)) (tCallD [Ty.pk 2, Ty.fz] [Ty.ow, Ty.bot] c_pick (aCons (tPk 2) (aCons (tBin oSub (Ty.fz) (Ty.fz) (tVar 10) (tK (.int 1))) aNil))))) (sSeq (sSet 6 (tCallD [Ty.pk 2, Ty.fz] [Ty.ow, Ty.bot] c_pick (aCons (tPk 2) (aCons (tK (.int 2)) aNil)))) (sSeq (sSet 13 (tLst (aCons (tTup (aCons (tVar 12) (aCons (tBin oIx (Ty.fz) (Ty.fz) (tK (.str ("ab" : Str))) (tVar 6)) aNil))) (aCons (tTup (aCons (tBin oSub (Ty.fz) (Ty.fz) (tVar 10) (tVar 12)) (aCons (tVar 11) aNil))) aNil)))) (sSeq (sSet 14 (tBin oAdd (Ty.ow) (Ty.ow) (tBin oAdd (Ty.ow) (Ty.fz) (tSl (Ty.fz) (tVar 3) pNone (pSome (tVar 9))) (tVar 13)) (tSl (Ty.fz) (tVar 3) (pSome (tBin oAdd (Ty.fz) (Ty.fz) (tVar 9) (tK (.int 1)))) pNone))) (sSeq (sSet 8 (tCallD [Ty.fz] [Ty.bot] c_lawbook (aCons (tVar 14) aNil))) (sSeq (sIf (cOr (cNot (tTest (tCallD [Ty.fz] [Ty.bot] c_isline (aCons (tVar 14) aNil)))) (tTest (tBin oNe (Ty.fz) (Ty.fz) (tBin oIx (Ty.fz) (Ty.fz) (tVar 8) (tBin oSub (Ty.fz) (Ty.fz) (tK (.int 1)) (tVar 6))) (tBin oIx (Ty.fz) (Ty.fz) (tVar 4) (tBin oSub (Ty.fz) (Ty.fz) (tK (.int 1)) (tVar 6)))))) (sLast (sRet (tK (.bool false)))) sNil) (sSeq (sIf (cNot (tTest (tCallD [Ty.fz, Ty.fz] [Ty.bot, Ty.bot] c_merged (aCons (tBin oIx (Ty.fz) (Ty.fz) (tVar 8) (tK (.int 2))) (aCons (tBin oIx (Ty.fz) (Ty.fz) (tVar 4) (tK (.int 2))) aNil))))) (sLast (sRet (tK (.bool false)))) sNil) (sSeq (sIf (cNot (tTest (tCallD [Ty.fz, Ty.fz] [Ty.bot, Ty.bot] c_merged (aCons (tBin oIx (Ty.fz) (Ty.fz) (tVar 8) (tVar 6)) (aCons (tBin oIx (Ty.fz) (Ty.fz) (tVar 4) (tVar 6)) aNil))))) (sLast (sRet (tK (.bool false)))) sNil) (sSeq (sIf (cAnd (tTest (tBin (oIs true) (Ty.fz) (Ty.fz) (tVar 7) (tK .none))) (tTest (tBin (oIn false) (Ty.fz) (Ty.fz) (tVar 14) (tVar 7)))) (sLast (sRet (tK (.bool false)))) sNil) sNil))))))))) sNil) (sSeq (sIf (cAnd (tTest (tBin (oIs true) (Ty.fz) (Ty.fz) (tVar 7) (tK .none))) (tTest (tBin (oIn true) (Ty.fz) (Ty.fz) (tVar 3) (tVar 7)))) (sLast (sRet (tK (.bool false)))) sNil) sNil))))
def law2 : SM := (sSeq (sFor (iD (tSl (Ty.ow) (tBin oAdd (Ty.fz) (Ty.ow) (tVar 0) (tLst (aCons (tK (.int 0)) aNil))) pNone (pSome (tK (.int 2))))) (gN 1) (sSeq (sSet 2 (tCallD [Ty.fz, Ty.fz] [Ty.bot, Ty.bot] c_deck (aCons (tVar 1) (aCons (tK (.int 0)) aNil)))) (sSeq (sSet 3 (tCallD [Ty.pk 2, Ty.fz] [Ty.ow, Ty.bot] c_lineT (aCons (tPk 2) (aCons (tK (.int 7)) aNil)))) (sSeq (sSet 4 (tCallD [Ty.fz] [Ty.bot] c_lawbook (aCons (tVar 3) aNil))) (sSeq (sIf (tTest (tBin oNe (Ty.ow) (Ty.fz) (tLC (iD (tVar 4)) (gN 15) cYes (tCB oLen [Ty.fz] (aCons (tVar 15) aNil))) (tCallD [Ty.fz] [Ty.bot] c_counts (aCons (tVar 3) aNil)))) (sLast (sRet (tK (.bool false)))) sNil) (sSeq (sAsg (tCallD [Ty.pk 2, Ty.fz] [Ty.ow, Ty.bot] c_oneless (aCons (tPk 2) (aCons (tVar 3) aNil))) (gS 2 (gsCons (gN 5) (gsCons (gN 6) gsNil)))) (sSeq (sSet 7 (tCallD [Ty.fz] [Ty.bot] c_lawlines (aCons (tVar 4) aNil))) (sSeq (sIf (tTest (tBin (oIs true) (Ty.fz) (Ty.fz) (tVar 5) (tK .none))) (sSeq (sSet 8 (tCallD [Ty.fz] [Ty.bot] c_lawbook (aCons (tVar 5) aNil))) (sSeq (sIf (cOr (cNot (tTest (tCallD [Ty.fz] [Ty.bot] c_isline (aCons (tVar 5) aNil)))) (cOr (tTest (tBin oNe (Ty.fz) (Ty.fz) (tBin oIx (Ty.fz) (Ty.fz) (tVar 8) (tBin oSub (Ty.fz) (Ty.fz) (tK (.int 1)) (tVar 6))) (tBin oIx (Ty.fz) (Ty.fz) (tVar 4) (tBin oSub (Ty.fz) (Ty.fz) (tK (.int 1)) (tVar 6))))) (tTest (tBin oNe (Ty.fz) (Ty.fz) (tBin oIx (Ty.fz) (Ty.fz) (tVar 8) (tK (.int 2))) (tBin oIx (Ty.fz) (Ty.fz) (tVar 4) (tK (.int 2))))))) (sLast (sRet (tK (.bool false)))) sNil) (sSeq (sIf (cNot (tTest (tCallD [Ty.fz, Ty.fz] [Ty.bot, Ty.bot] c_merged (aCons (tBin oIx (Ty.fz) (Ty.fz) (tVar 4) (tVar 6)) (aCons (tBin oIx (Ty.fz) (Ty.fz) (tVar 8) (tVar 6)) aNil))))) (sLast (sRet (tK (.bool false)))) sNil) (sSeq (sIf (cAnd (tTest (tBin (oIs true) (Ty.fz) (Ty.fz) (tVar 7) (tK .none))) (tTest (tBin (oIn false) (Ty.fz) (Ty.fz) (tVar 5) (tVar 7)))) (sLast (sRet (tK (.bool false)))) sNil) sNil)))) sNil) rest2)))))))) (sLast (sRet (tK (.bool true)))))
theorem okT (ns : List Int) : Ok 1 (.tuple (ns.map .int)) := Ok.tuple (n := 0) fun y hy => by
  obtain ⟨i, _, rfl⟩ := List.mem_map.mp hy
  exact Ok.i
theorem LnT.head {n n' : Int} {m : Str} {X : List Pc} (h : LnT ((n, m) :: X)) (h0 : 0 < n') : LnT ((n', m) :: X) := by
  refine ⟨fun p hp => ?_, ?_⟩
  · rcases List.mem_cons.mp hp with rfl | hp
    · exact ⟨h0, (h.ok (n, m) (by simp)).2⟩
    · exact h.ok p (by simp [hp])
  · obtain ⟨x, hx⟩ := h.last
    cases X with
    | nil =>
      simp at hx
      exact ⟨n', by rw [hx.2]; rfl⟩
    | cons p X => exact ⟨x, by rw [← hx]; rfl⟩
theorem LnT.cons {p : Pc} {X : List Pc} (h : LnT X) (hp : PcOk p) : LnT (p :: X) := by
  refine ⟨fun q hq => ?_, ?_⟩
  · rcases List.mem_cons.mp hq with rfl | hq
    · exact hp
    · exact h.ok q hq
  · obtain ⟨x, hx⟩ := h.last
    refine ⟨x, ?_⟩
    cases X with
    | nil => cases hx
    | cons q X => rw [← hx]; rfl
theorem isN_eL (M : List Pc) : isN (eL M) = false := rfl
theorem isN_0 : isN .none = true := rfl
/-- a line that does not fit is not among them; one that fits is -/
theorem lv_out {A B P : List Int} {W : D} (h : LV A B P W) {M : List Pc} (hM : LnT M) (nb : ¬ Book M A B P) {G N : Prop} (g : G) :
    if isN W = false then oIn false (eL M) W (fun d => match d with
      | .bool b => if b = true then N else G
      | _ => False) else G := by
  rcases h with rfl | ⟨T, t1, t2, rfl⟩
  · exact g
  · have tm : ∀ L ∈ T, ∀ p ∈ L, Mark p.2 := fun L hL p hp => (((t2 L).mp hL).ln.ok p hp).2
    refine ⟨(okL fun p hp => (hM.ok p hp).2).eq, (sortL_ok T tm).eq, ?_⟩
    show if ((sortD (T.map eL)).any fun e => PyData.eqv e (eL M)) = true then N else G
    rw [any_eL, if_neg]
    · exact g
    · intro z
      exact nb ((t2 M).mp (of_decide_eq_true z))
theorem lv_in {A B P : List Int} {W : D} (h : LV A B P W) {M : List Pc} (bk : Book M A B P) {G N : Prop} (g : G) :
    if isN W = false then oIn true (eL M) W (fun d => match d with
      | .bool b => if b = true then N else G
      | _ => False) else G := by
  rcases h with rfl | ⟨T, t1, t2, rfl⟩
  · exact g
  · have tm : ∀ L ∈ T, ∀ p ∈ L, Mark p.2 := fun L hL p hp => (((t2 L).mp hL).ln.ok p hp).2
    refine ⟨(okL fun p hp => (bk.ln.ok p hp).2).eq, (sortL_ok T tm).eq, ?_⟩
    show if (!(sortD (T.map eL)).any fun e => PyData.eqv e (eL M)) = true then N else G
    rw [any_eL, if_neg (by simpa using (t2 M).mpr bk)]
    exact g
theorem rest2_ok {A B P : List Int} {L : List Pc} {W s cell d y5 y6 y8 y9 y10 y11 y12 y13 y14 y15 : D} {Pst : Post} {c : Int} (hL : LnT L) (hb : ∀ p ∈ L, p.1 ≤ 10000000000000) (hl : L.length ≤ 7) (hA : A = sI (lens mA L 0)) (hB : B = sI (lens mB L 0)) (hP : P = sI (L.map (·.1))) (hW : LV A B P W) (hd : Deck c d) (hc : c < 1000)
    (hnx : ∀ d y6 y8 y9 y10 y11 y12 y13 y14, Pst.nx [s, cell, d, eL L, bkD A B P, y5, y6, W, y8, y9, y10, y11, y12, y13, y14, y15]) : rest2 [s, cell, d, eL L, bkD A B P, y5, y6, W, y8, y9, y10, y11, y12, y13, y14, y15] Pst := by
  have mL : ∀ p ∈ L, Mark p.2 := fun p hp => (hL.ok p hp).2
  have pos := List.length_pos_iff.mpr hL.ne
  have bkL : Book L A B P := ⟨hL, hP ▸ (sI_perm _).symm, hA ▸ (sI_perm _).symm, hB ▸ (sI_perm _).symm⟩
  unfold rest2
  simp only [EX0, eL]
  refine pick_step hd (fun r1 d1 a1 b1 k1 => ?_) (by omega) (by omega) (Fit.of (by omega) (by omega))
  obtain ⟨at_, rfl⟩ := Int.eq_ofNat_of_zero_le a1
  have hat : at_ < L.length := by omega
  obtain ⟨⟨n, m⟩, hn⟩ : ∃ p, L[at_]? = some p := ⟨_, List.getElem?_eq_getElem hat⟩
  have g1 : (L.map eP)[at_]? = some (.tuple [.int n, .str m]) := by rw [List.getElem?_map, hn]; rfl
  have hpm := hL.ok (n, m) (List.mem_of_getElem? hn)
  have hbn := hb (n, m) (List.mem_of_getElem? hn)
  dsimp only at hbn
  have hm : Mark m := hpm.2
  simp only [EX0, g1]
  refine iteB (fun h1 => ?_) fun h1 => ?_
  · refine pick_step k1 (fun r2 d2 a2 b2 k2 => ?_) (by omega) (by omega) (Fit.of (by omega) (by omega))
    simp only [EX0]
    refine pick_step k2 fun r3 d3 a3 b3 k3 => ?_
    obtain ⟨w, rfl⟩ := Int.eq_ofNat_of_zero_le a3
    have eL1 : L = L.take at_ ++ (n, m) :: L.drop (at_ + 1) := by
      have : L.drop at_ = (n, m) :: L.drop (at_ + 1) := by
        rw [List.drop_eq_getElem_cons (by omega)]
        rw [List.getElem?_eq_getElem (by omega)] at hn
        rw [Option.some.inj hn]
      rw [← this, List.take_append_drop]
    have hD : LnT ((n, m) :: L.drop (at_ + 1)) := LnT.drop (eL1 ▸ hL) (by simp)
    have p1 : ∀ p ∈ L.take at_, PcOk p := fun p hp => hL.ok p (List.mem_of_mem_take hp)
    have en : 1 + r2 + (n - (1 + r2)) = n := by omega
    have sP : P.Pairwise (· ≤ ·) := hP ▸ sI_le _
    obtain rfl | rfl : w = 0 ∨ w = 1 := by omega
    · simp only [EX0]
      refine ab0 ?_
      have e1 : (L.map eP).take at_ ++ [PyData.tuple [.int (1 + r2), .str mA], .tuple [.int (n - (1 + r2)), .str m]] ++ (L.map eP).drop (at_ + 1) = (L.take at_ ++ (1 + r2, mA) :: (n - (1 + r2), m) :: L.drop (at_ + 1)).map eP := by
        rw [List.map_append, List.map_cons, List.map_cons, List.map_take, List.map_drop, List.append_assoc]
        rfl
      obtain ⟨M, hMe⟩ : ∃ M, M = L.take at_ ++ (1 + r2, mA) :: (n - (1 + r2), m) :: L.drop (at_ + 1) := ⟨_, rfl⟩
      rw [e1, ← hMe]
      have hQ : LnT ((1 + r2, mA) :: (n - (1 + r2), m) :: L.drop (at_ + 1)) := (hD.head (by omega)).cons ⟨by omega, .inl rfl⟩
      have hM : LnT M := by rw [hMe]; exact LnT.swap (eL1 ▸ hL) (by simp) hQ
      have lM : M.length = L.length + 1 := by
        have : L.length = (L.take at_).length + ((L.drop (at_ + 1)).length + 1) := by rw [List.length_take, List.length_drop]; omega
        rw [hMe, List.length_append, List.length_cons, List.length_cons]
        omega
      have mM : ∀ p ∈ M, Mark p.2 := fun p hp => (hM.ok p hp).2
      have es : lens mB M 0 = lens mB L 0 := by
        rw [hMe, part_same (k := mB) hBA, en, ← eL1]
      obtain ⟨x, y, hg⟩ := part_more (k := mA) (mk := mA) (a := 1 + r2) (b := n - (1 + r2)) (m := m) hAA (by omega) (hD.head (by omega)) (P1 := L.take at_) (o := 0) (by omega) p1
      rw [en, ← eL1, ← hMe] at hg
      have hg2 := hg.sI
      have gp : Mg (sI (M.map (·.1))) P (1 + r2) (n - (1 + r2)) := by
        refine ⟨by omega, by omega, (L.take at_ ++ L.drop (at_ + 1)).map (·.1), ?_, ?_⟩
        · refine List.Perm.trans ?_ (sI_perm _).symm
          rw [hMe, List.map_append, List.map_append, List.map_cons, List.map_cons]
          exact (List.perm_middle.trans (List.perm_middle.cons _)).symm
        · rw [hP]
          refine List.Perm.trans ?_ (sI_perm _).symm
          rw [en]
          conv => rhs; rw [eL1]
          rw [List.map_append, List.map_append, List.map_cons]
          exact List.perm_middle.symm
      have nb : ¬ Book M A B P := fun z => by
        have h1 := z.p.length_eq
        rw [List.length_map, lM, hP, (sI_perm _).length_eq, List.length_map] at h1
        omega
      have ll1 := (sI_perm (M.map (·.1))).length_eq
      rw [List.length_map] at ll1
      have ll2 := (sI_perm (lens mA M 0)).length_eq
      have ll3 := lens_len mA M 0
      have lt : ((L.map eP).take at_).length ≤ 12 := by rw [List.length_take, List.length_map]; omega
      have ld : ((L.map eP).drop (at_ + 1)).length ≤ 12 := by rw [List.length_drop, List.length_map]; omega
      refine ⟨by omega, by omega, ?_⟩
      refine ⟨M, rfl, mM, by omega, ?_⟩
      refine ⟨M, rfl, hM, by omega, ?_⟩
      have eb : bookL M = bkD (sI (lens mA M 0)) B (sI (M.map (·.1))) := by unfold bookL; rw [es, ← hB]
      simp only [EX0, eb, bkD, show ((1 : Int) - 0) = 1 from rfl]
      refine ⟨(okT B).eq, (okT B).eq, ifN (by rw [(okT B).refl]; simp) ?_⟩
      refine ⟨_, P, _, _, rfl, by omega, sP, gp, ?_⟩
      simp only [EX0]
      refine ⟨_, A, x, y, rfl, by omega, by rw [hA]; exact sI_le _, by rw [hA]; exact hg2, ?_⟩
      simp only [EX0]
      exact lv_out hW hM nb (lv_in hW bkL (hnx _ _ _ _ _ _ _ _ _))
    · simp only [EX0]
      refine ab1 ?_
      have e1 : (L.map eP).take at_ ++ [PyData.tuple [.int (1 + r2), .str mB], .tuple [.int (n - (1 + r2)), .str m]] ++ (L.map eP).drop (at_ + 1) = (L.take at_ ++ (1 + r2, mB) :: (n - (1 + r2), m) :: L.drop (at_ + 1)).map eP := by
        rw [List.map_append, List.map_cons, List.map_cons, List.map_take, List.map_drop, List.append_assoc]
        rfl
      obtain ⟨M, hMe⟩ : ∃ M, M = L.take at_ ++ (1 + r2, mB) :: (n - (1 + r2), m) :: L.drop (at_ + 1) := ⟨_, rfl⟩
      rw [e1, ← hMe]
      have hQ : LnT ((1 + r2, mB) :: (n - (1 + r2), m) :: L.drop (at_ + 1)) := (hD.head (by omega)).cons ⟨by omega, .inr (.inl rfl)⟩
      have hM : LnT M := by rw [hMe]; exact LnT.swap (eL1 ▸ hL) (by simp) hQ
      have lM : M.length = L.length + 1 := by
        have : L.length = (L.take at_).length + ((L.drop (at_ + 1)).length + 1) := by rw [List.length_take, List.length_drop]; omega
        rw [hMe, List.length_append, List.length_cons, List.length_cons]
        omega
      have mM : ∀ p ∈ M, Mark p.2 := fun p hp => (hM.ok p hp).2
      have es : lens mA M 0 = lens mA L 0 := by
        rw [hMe, part_same (k := mA) hAB, en, ← eL1]
      obtain ⟨x, y, hg⟩ := part_more (k := mB) (mk := mB) (a := 1 + r2) (b := n - (1 + r2)) (m := m) hBB (by omega) (hD.head (by omega)) (P1 := L.take at_) (o := 0) (by omega) p1
      rw [en, ← eL1, ← hMe] at hg
      have hg2 := hg.sI
      have gp : Mg (sI (M.map (·.1))) P (1 + r2) (n - (1 + r2)) := by
        refine ⟨by omega, by omega, (L.take at_ ++ L.drop (at_ + 1)).map (·.1), ?_, ?_⟩
        · refine List.Perm.trans ?_ (sI_perm _).symm
          rw [hMe, List.map_append, List.map_append, List.map_cons, List.map_cons]
          exact (List.perm_middle.trans (List.perm_middle.cons _)).symm
        · rw [hP]
          refine List.Perm.trans ?_ (sI_perm _).symm
          rw [en]
          conv => rhs; rw [eL1]
          rw [List.map_append, List.map_append, List.map_cons]
          exact List.perm_middle.symm
      have nb : ¬ Book M A B P := fun z => by
        have h1 := z.p.length_eq
        rw [List.length_map, lM, hP, (sI_perm _).length_eq, List.length_map] at h1
        omega
      have ll1 := (sI_perm (M.map (·.1))).length_eq
      rw [List.length_map] at ll1
      have ll2 := (sI_perm (lens mB M 0)).length_eq
      have ll3 := lens_len mB M 0
      have lt : ((L.map eP).take at_).length ≤ 12 := by rw [List.length_take, List.length_map]; omega
      have ld : ((L.map eP).drop (at_ + 1)).length ≤ 12 := by rw [List.length_drop, List.length_map]; omega
      refine ⟨by omega, by omega, ?_⟩
      refine ⟨M, rfl, mM, by omega, ?_⟩
      refine ⟨M, rfl, hM, by omega, ?_⟩
      have eb : bookL M = bkD A (sI (lens mB M 0)) (sI (M.map (·.1))) := by unfold bookL; rw [es, ← hA]
      simp only [EX0, eb, bkD, show ((1 : Int) - 1) = 0 from rfl]
      refine ⟨(okT A).eq, (okT A).eq, ifN (by rw [(okT A).refl]; simp) ?_⟩
      refine ⟨_, P, _, _, rfl, by omega, sP, gp, ?_⟩
      simp only [EX0]
      refine ⟨_, B, x, y, rfl, by omega, by rw [hB]; exact sI_le _, by rw [hB]; exact hg2, ?_⟩
      simp only [EX0]
      exact lv_out hW hM nb (lv_in hW bkL (hnx _ _ _ _ _ _ _ _ _))
  · exact lv_in hW bkL (hnx _ _ _ _ _ _ _ _ _)
theorem p_law (ds : List D) (q : D → List D → Prop) (e : DE) (h : c_law ds q e) : t_law c_isline c_lawbook c_deck c_pick c_lineT c_counts c_lawlines c_merged c_oneless ds q e := by
  obtain ⟨ns, rfl, hn, h⟩ := h
  have el : t_law c_isline c_lawbook c_deck c_pick c_lineT c_counts c_lawlines c_merged c_oneless = semOf 15 [Ty.bot] true law2 := rfl
  rw [el]
  simp only [EX0, law2]
  refine ⟨by omega, ?_⟩
  refine forD_inv (fun pre ρ => ∃ x1 x2 x3 x4 x5 x6 x7 x8 x9 x10 x11 x12 x13 x14 x15 : D, ρ = [.list (ns.map .int), x1, x2, x3, x4, x5, x6, x7, x8, x9, x10, x11, x12, x13, x14, x15]) ⟨_, _, _, _, _, _, _, _, _, _, _, _, _, _, _, rfl⟩ ?_ ?_
  · rintro pre x post ρ k ex ⟨x1, x2, x3, x4, x5, x6, x7, x8, x9, x10, x11, x12, x13, x14, x15, rfl⟩ hk
    have kk : ∀ {x1 x2 x3 x4 x5 x6 x7 x8 x9 x10 x11 x12 x13 x14 x15 : D}, k [.list (ns.map .int), x1, x2, x3, x4, x5, x6, x7, x8, x9, x10, x11, x12, x13, x14, x15] := hk _ ⟨_, _, _, _, _, _, _, _, _, _, _, _, _, _, _, rfl⟩
    obtain ⟨cell, rfl⟩ : ∃ cell, x = .int cell := by
      have := cutD_mem (show x ∈ cutD (ns.map PyData.int ++ [PyData.int 0]) none (some 2) by rw [ex]; simp)
      rcases List.mem_append.mp this with z | z
      · obtain ⟨i, _, rfl⟩ := List.mem_map.mp z; exact ⟨i, rfl⟩
      · rw [List.mem_singleton.mp z]; exact ⟨0, rfl⟩
    simp only [EX0]
    refine ⟨cell, 0, rfl, by omega, fun d0 hd0 => ?_⟩
    simp only [EX0]
    refine ⟨d0, 7, 0, rfl, hd0, by omega, by omega, by omega, fun L d1 hL hb hl hd1 => ?_⟩
    have mL : ∀ p ∈ L, Mark p.2 := fun p hp => (hL.ok p hp).2
    simp only [EX0]
    refine ⟨L, rfl, mL, by omega, ?_⟩
    have gb : ∀ k, Gd 120000000000000 (sI (lens k L 0)) := fun k => Gd.book hL hb (by omega) (by omega) k
    have gp := gb mAB
    rw [lens_ab] at gp
    obtain ⟨A, hA⟩ : ∃ A, A = sI (lens mA L 0) := ⟨_, rfl⟩
    obtain ⟨B, hB⟩ : ∃ B, B = sI (lens mB L 0) := ⟨_, rfl⟩
    obtain ⟨P, hP⟩ : ∃ P, P = sI (L.map (·.1)) := ⟨_, rfl⟩
    have gA := gb mA
    have gB := gb mB
    rw [← hA] at gA
    rw [← hB] at gB
    rw [← hP] at gp
    have lA : A.length = (lens mA L 0).length := by rw [hA]; exact (sI_perm _).length_eq
    have lB : B.length = (lens mB L 0).length := by rw [hB]; exact (sI_perm _).length_eq
    have lP : P.length = L.length := by rw [hP, (sI_perm _).length_eq, List.length_map]
    have ebk : bookL L = bkD A B P := by unfold bookL; rw [← hA, ← hB, ← hP]
    rw [ebk]
    have hA12 := gA.hi
    have hB12 := gB.hi
    have bok : BkOk A B P := ⟨fun x hx => (gA.pos x hx).1, fun x hx => (gB.pos x hx).1, fun x hx => (gp.pos x hx).1, by omega, by omega, by omega, fun z => by have := gp.lo; rw [z] at this; simp at this⟩
    simp only [EX0, bkD]
    simp only [lcD, gN, wr, cYes, if_true, List.set_cons_zero, List.set_cons_succ]
    simp only [EX0]
    refine ⟨L, rfl, mL, by omega, ?_⟩
    rw [← lA, ← lB, ← lP]
    simp only [EX0, eI]
    have ok3 : Ok 1 (.list [PyData.int (A.length : Nat), .int (B.length : Nat), .int (P.length : Nat)]) := okI [(A.length : Int), B.length, P.length]
    refine ⟨ok3.eq, ok3.eq, ifN (by rw [ok3.refl]; simp) ?_⟩
    refine ⟨d1, 20, L, rfl, hd1.mono (by omega), by omega, hL, by omega, fun d2 hd2 => ?_, fun P1 P2 n w d2 hw eL1 nP2 hd2 => ?_⟩
    · simp only [EX0]
      refine ⟨A, B, P, rfl, bok, by omega, fun W hW => ?_⟩
      simp only [EX0, isN_0]
      exact rest2_ok hL hb (by omega) hA hB hP hW hd2 (by omega) fun d y6 y8 y9 y10 y11 y12 y13 y14 => kk
    · simp only [EX0]
      refine ⟨A, B, P, rfl, bok, by omega, fun W hW => ?_⟩
      simp only [EX0, isN_eL]
      have hM : LnT (P1 ++ (n, if w = 0 then mB else mA) :: P2) := by
        have h1 : LnT ((n, mAB) :: P2) := LnT.drop (eL1 ▸ hL) (by simp)
        have h2 := h1.tail nP2
        refine LnT.swap (eL1 ▸ hL) (by simp) ⟨fun p hp => ?_, ?_⟩
        · rcases List.mem_cons.mp hp with rfl | hp
          · exact ⟨(h1.ok (n, mAB) (by simp)).1, by split; exact .inr (.inl rfl); exact .inl rfl⟩
          · exact h2.ok p hp
        · obtain ⟨x, hx⟩ := h2.last
          refine ⟨x, ?_⟩
          rw [← hx]
          cases P2 with
          | nil => exact absurd rfl nP2
          | cons => rfl
      have lM : (P1 ++ (n, if w = 0 then mB else mA) :: P2).length = L.length := by rw [eL1]; simp
      have mM : ∀ p ∈ (P1 ++ (n, if w = 0 then mB else mA) :: P2), Mark p.2 := fun p hp => (hM.ok p hp).2
      have n0 : 0 < n := (hL.ok (n, mAB) (by rw [eL1]; simp)).1
      have p1 : ∀ p ∈ P1, PcOk p := fun p hp => hL.ok p (by rw [eL1]; simp [hp])
      have hP2 : LnT P2 := (LnT.drop (eL1 ▸ hL) (by simp) : LnT ((n, mAB) :: P2)).tail nP2
      have ep : sI ((P1 ++ (n, if w = 0 then mB else mA) :: P2).map (·.1)) = P := by rw [hP, eL1]; simp
      refine ⟨_, rfl, mM, by omega, ?_⟩
      simp only [EX0]
      refine ⟨_, rfl, hM, by omega, ?_⟩
      obtain rfl | rfl : w = 0 ∨ w = 1 := by omega
      · have es : sI (lens mB (P1 ++ (n, mB) :: P2) 0) = B := by rw [hB, eL1, cut_same (k := mB) (m1 := mB) (m2 := mAB) (by rw [hBB, hKab])]
        obtain ⟨x, y, hg⟩ := cut_less (k := mA) (n := n) (m1 := mAB) (m2 := mB) (hKab _) hAB hP2 (P1 := P1) (o := 0) (by omega) p1 n0
        rw [← eL1] at hg
        have nb : ¬ Book (P1 ++ (n, mB) :: P2) A B P := fun z => by
          have h1 := z.a.length_eq
          have h2 := hg.len
          omega
        have hg2 := hg.sI
        rw [← hA] at hg2
        have eb : bookL (P1 ++ (n, mB) :: P2) = bkD (sI (lens mA (P1 ++ (n, mB) :: P2) 0)) B P := by
          have ep : sI ((P1 ++ (n, mB) :: P2).map (·.1)) = P := ep
          unfold bookL
          rw [ep, es]
        simp only [EX0, eb, bkD, show ((1 : Int) - 0) = 1 from rfl]
        refine ⟨(okT B).eq, (okT B).eq, ifN (by rw [(okT B).refl]; simp) ⟨(okT P).eq, (okT P).eq, ifN (by rw [(okT P).refl]; simp) ?_⟩⟩
        refine ⟨A, _, x, y, rfl, by omega, sI_le _, hg2, ?_⟩
        simp only [EX0]
        exact lv_out hW hM nb (rest2_ok hL hb (by omega) hA hB hP hW hd2 (by omega) fun d y6 y8 y9 y10 y11 y12 y13 y14 => kk)
      · have es : sI (lens mA (P1 ++ (n, mA) :: P2) 0) = A := by rw [hA, eL1, cut_same (k := mA) (m1 := mA) (m2 := mAB) (by rw [hAA, hKab])]
        obtain ⟨x, y, hg⟩ := cut_less (k := mB) (n := n) (m1 := mAB) (m2 := mA) (hKab _) hBA hP2 (P1 := P1) (o := 0) (by omega) p1 n0
        rw [← eL1] at hg
        have nb : ¬ Book (P1 ++ (n, mA) :: P2) A B P := fun z => by
          have h1 := z.b.length_eq
          have h2 := hg.len
          omega
        have hg2 := hg.sI
        rw [← hB] at hg2
        have eb : bookL (P1 ++ (n, mA) :: P2) = bkD A (sI (lens mB (P1 ++ (n, mA) :: P2) 0)) P := by
          have ep : sI ((P1 ++ (n, mA) :: P2).map (·.1)) = P := ep
          unfold bookL
          rw [ep, es]
        simp only [EX0, show ¬ (1 : Nat) = 0 by decide, eb, bkD, show ((1 : Int) - 1) = 0 from rfl]
        refine ⟨(okT A).eq, (okT A).eq, ifN (by rw [(okT A).refl]; simp) ⟨(okT P).eq, (okT P).eq, ifN (by rw [(okT P).refl]; simp) ?_⟩⟩
        refine ⟨B, _, x, y, rfl, by omega, sI_le _, hg2, ?_⟩
        simp only [EX0]
        exact lv_out hW hM nb (rest2_ok hL hb (by omega) hA hB hP hW hd2 (by omega) fun d y6 y8 y9 y10 y11 y12 y13 y14 => kk)
  · rintro ρ ⟨x1, x2, x3, x4, x5, x6, x7, x8, x9, x10, x11, x12, x13, x14, x15, rfl⟩
    simp only [EX0]
    exact h
end K38

namespace K38
open PySem PySem.Spec PyProof.Rows L2 T2
def dd_is_length : He.DefD := ⟨(("is_length" : Str), none), ("is_length" : Str), ("is_length" : Str), defArgs st_is_length, defBody st_is_length, defScope st_is_length, [], []⟩
def dd_are_pieces : He.DefD := ⟨(("are_pieces" : Str), none), ("are_pieces" : Str), ("are_pieces" : Str), defArgs st_are_pieces, defBody st_are_pieces, defScope st_are_pieces, [], []⟩
def dd_is_line : He.DefD := ⟨(("is_line" : Str), none), ("is_line" : Str), ("is_line" : Str), defArgs st_is_line, defBody st_is_line, defScope st_is_line, [], []⟩
def dd_lengths_of : He.DefD := ⟨(("lengths_of" : Str), none), ("lengths_of" : Str), ("lengths_of" : Str), defArgs st_lengths_of, defBody st_lengths_of, defScope st_lengths_of, [], []⟩
def dd_book_of : He.DefD := ⟨(("book_of" : Str), none), ("book_of" : Str), ("book_of" : Str), defArgs st_book_of, defBody st_book_of, defScope st_book_of, [], []⟩
def dd_counted : He.DefD := ⟨(("counted" : Str), none), ("counted" : Str), ("counted" : Str), defArgs st_counted, defBody st_counted, defScope st_counted, [], []⟩
def dd_without : He.DefD := ⟨(("without" : Str), none), ("without" : Str), ("without" : Str), defArgs st_without, defBody st_without, defScope st_without, [], []⟩
def dd_steps_from : He.DefD := ⟨(("steps_from" : Str), none), ("steps_from" : Str), ("steps_from" : Str), defArgs st_steps_from, defBody st_steps_from, defScope st_steps_from, [], []⟩
def dd_extended : He.DefD := ⟨(("extended" : Str), none), ("extended" : Str), ("extended" : Str), defArgs st_extended, defBody st_extended, defScope st_extended, [], []⟩
def dd_lines_of : He.DefD := ⟨(("lines_of" : Str), none), ("lines_of" : Str), ("lines_of" : Str), defArgs st_lines_of, defBody st_lines_of, defScope st_lines_of, [], []⟩
def dd__law_deck : He.DefD := ⟨(("_law_deck" : Str), none), ("_law_deck" : Str), ("_law_deck" : Str), defArgs st__law_deck, defBody st__law_deck, defScope st__law_deck, [], []⟩
def dd__law_pick : He.DefD := ⟨(("_law_pick" : Str), none), ("_law_pick" : Str), ("_law_pick" : Str), defArgs st__law_pick, defBody st__law_pick, defScope st__law_pick, [], []⟩
def dd__law_line : He.DefD := ⟨(("_law_line" : Str), none), ("_law_line" : Str), ("_law_line" : Str), defArgs st__law_line, defBody st__law_line, defScope st__law_line, [], []⟩
def dd__law_counts : He.DefD := ⟨(("_law_counts" : Str), none), ("_law_counts" : Str), ("_law_counts" : Str), defArgs st__law_counts, defBody st__law_counts, defScope st__law_counts, [], []⟩
def dd__law_lines : He.DefD := ⟨(("_law_lines" : Str), none), ("_law_lines" : Str), ("_law_lines" : Str), defArgs st__law_lines, defBody st__law_lines, defScope st__law_lines, [], []⟩
def dd__law_without : He.DefD := ⟨(("_law_without" : Str), none), ("_law_without" : Str), ("_law_without" : Str), defArgs st__law_without, defBody st__law_without, defScope st__law_without, [], []⟩
def dd__law_merged_right : He.DefD := ⟨(("_law_merged_right" : Str), none), ("_law_merged_right" : Str), ("_law_merged_right" : Str), defArgs st__law_merged_right, defBody st__law_merged_right, defScope st__law_merged_right, [], []⟩
def dd__law_one_less : He.DefD := ⟨(("_law_one_less" : Str), none), ("_law_one_less" : Str), ("_law_one_less" : Str), defArgs st__law_one_less, defBody st__law_one_less, defScope st__law_one_less, [], []⟩
def dd_law : He.DefD := ⟨(("law" : Str), none), ("law" : Str), ("law" : Str), defArgs st_law, defBody st_law, defScope st_law, [], []⟩
def fn : List He.DefD := [dd_is_length, dd_are_pieces, dd_is_line, dd_lengths_of, dd_book_of, dd_counted, dd_without, dd_steps_from, dd_extended, dd_lines_of, dd__law_deck, dd__law_pick, dd__law_line, dd__law_counts, dd__law_lines, dd__law_without, dd__law_merged_right, dd__law_one_less, dd_law]
def fa : List He.Fa := [.glo ("is_length" : Str), .glo ("are_pieces" : Str), .glo ("is_line" : Str), .glo ("lengths_of" : Str), .glo ("book_of" : Str), .glo ("counted" : Str), .glo ("without" : Str), .glo ("steps_from" : Str), .glo ("extended" : Str), .glo ("lines_of" : Str), .glo ("_law_deck" : Str), .glo ("_law_pick" : Str), .glo ("_law_line" : Str), .glo ("_law_counts" : Str), .glo ("_law_lines" : Str), .glo ("_law_without" : Str), .glo ("_law_merged_right" : Str), .glo ("_law_one_less" : Str), .glo ("law" : Str), .free ("bool" : Str), .free ("dict" : Str), .free ("enumerate" : Str), .free ("int" : Str), .free ("isinstance" : Str), .free ("len" : Str), .free ("list" : Str), .free ("max" : Str), .free ("range" : Str), .free ("set" : Str), .free ("sorted" : Str), .free ("str" : Str), .free ("sum" : Str), .free ("tuple" : Str), .glo ("TooMany" : Str), .glo ("MARKS" : Str), .int ("MOST_FITTED" : Str) 8, .int ("MOST_LINES" : Str) 500, .int ("MOST_PIECES" : Str) 12]
def tb : List (Str × List He.Dv) := [(("MARKS" : Str), [.str ("a" : Str), .str ("b" : Str), .str ("ab" : Str)])]
def loose0 : List Str := [("__name__" : Str), ("KnifeError" : Str), ("TooMany" : Str), ("MOST_PIECES" : Str), ("MARKS" : Str), ("is_length" : Str), ("are_pieces" : Str), ("is_line" : Str), ("lengths_of" : Str), ("book_of" : Str), ("MOST_FITTED" : Str), ("MOST_LINES" : Str), ("counted" : Str), ("without" : Str), ("steps_from" : Str), ("extended" : Str), ("lines_of" : Str), ("_law_deck" : Str), ("_law_pick" : Str), ("_law_line" : Str), ("_law_counts" : Str), ("_law_lines" : Str), ("_law_without" : Str), ("_law_merged_right" : Str), ("_law_one_less" : Str)]
abbrev R : PySem.W.OpenRow := PySem.W.OpenLaw.row PySem.Challenge.rw_twoknives_k38_whole_books_told_otherwise
abbrev hk : PySem.W.Hook := hookX 4 fa fn tb xt
def ob (s : PySem.W.SharedT) : He.AlD × Bool := obsXG 4 fa fn tb xt (HandSHeadRun.getT s)
theorem ob_eq (s : PySem.W.SharedT) : ob s = hk.obs s.abs := obsXG_eq (HandSHeadRun.getT_eq s)
theorem run (w : World) : HandSHeadRun.RunEq R (PySem.W.view R.prog [29]) hk ob 4000 (loose0) w := by
  intro os
  kernel_rfl
abbrev sc_extended_ps : List Str := [("line" : Str), ("opened" : Str), ("left" : Str), ("pieces" : Str), ("found" : Str)]
theorem facts {P : Program} {w : World} {K : PySem.W.Frag} {h : Heap} {mg : Str → Option Value} {f : Addr} (X : K.In h) (G : h.Ns mainGlobals mg) (hfa : mg ("law" : Str) = some (.ref f)) (cc : SaysX fa fn tb xt K) :
    ∃ fd : FuncData, (∀ (s : Shared) (v : Value), BindsTo s fd ⟨[v], []⟩ [(("script" : Str), v)]) ∧ ∀ base : Heap, K.In base → base.Ns mainGlobals mg → FnOk P w K mg base (L2N.CX P w) 14 f fd [("script" : Str)] (spD K mg [.fz] [.bot] .fz c_law) := by
  obtain ⟨c, cx⟩ := cc
  have xf : XFacts xt K mg := XT.facts X G cx
  obtain ⟨fd_is_length, FD_is_length⟩ := c.1.def_ 0 (d := dd_is_length) rfl
  have m_is_length : mg ("is_length" : Str) = some (.ref (He.ga K ("is_length" : Str))) := He.glo_ok X G (c.1.fact 0 (f := .glo ("is_length" : Str)) rfl)
  obtain ⟨fd_are_pieces, FD_are_pieces⟩ := c.1.def_ 1 (d := dd_are_pieces) rfl
  have m_are_pieces : mg ("are_pieces" : Str) = some (.ref (He.ga K ("are_pieces" : Str))) := He.glo_ok X G (c.1.fact 1 (f := .glo ("are_pieces" : Str)) rfl)
  obtain ⟨fd_is_line, FD_is_line⟩ := c.1.def_ 2 (d := dd_is_line) rfl
  have m_is_line : mg ("is_line" : Str) = some (.ref (He.ga K ("is_line" : Str))) := He.glo_ok X G (c.1.fact 2 (f := .glo ("is_line" : Str)) rfl)
  obtain ⟨fd_lengths_of, FD_lengths_of⟩ := c.1.def_ 3 (d := dd_lengths_of) rfl
  have m_lengths_of : mg ("lengths_of" : Str) = some (.ref (He.ga K ("lengths_of" : Str))) := He.glo_ok X G (c.1.fact 3 (f := .glo ("lengths_of" : Str)) rfl)
  obtain ⟨fd_book_of, FD_book_of⟩ := c.1.def_ 4 (d := dd_book_of) rfl
  have m_book_of : mg ("book_of" : Str) = some (.ref (He.ga K ("book_of" : Str))) := He.glo_ok X G (c.1.fact 4 (f := .glo ("book_of" : Str)) rfl)
  obtain ⟨fd_counted, FD_counted⟩ := c.1.def_ 5 (d := dd_counted) rfl
  have m_counted : mg ("counted" : Str) = some (.ref (He.ga K ("counted" : Str))) := He.glo_ok X G (c.1.fact 5 (f := .glo ("counted" : Str)) rfl)
  obtain ⟨fd_without, FD_without⟩ := c.1.def_ 6 (d := dd_without) rfl
  have m_without : mg ("without" : Str) = some (.ref (He.ga K ("without" : Str))) := He.glo_ok X G (c.1.fact 6 (f := .glo ("without" : Str)) rfl)
  obtain ⟨fd_steps_from, FD_steps_from⟩ := c.1.def_ 7 (d := dd_steps_from) rfl
  have m_steps_from : mg ("steps_from" : Str) = some (.ref (He.ga K ("steps_from" : Str))) := He.glo_ok X G (c.1.fact 7 (f := .glo ("steps_from" : Str)) rfl)
  obtain ⟨fd_extended, FD_extended⟩ := c.1.def_ 8 (d := dd_extended) rfl
  have m_extended : mg ("extended" : Str) = some (.ref (He.ga K ("extended" : Str))) := He.glo_ok X G (c.1.fact 8 (f := .glo ("extended" : Str)) rfl)
  obtain ⟨fd_lines_of, FD_lines_of⟩ := c.1.def_ 9 (d := dd_lines_of) rfl
  have m_lines_of : mg ("lines_of" : Str) = some (.ref (He.ga K ("lines_of" : Str))) := He.glo_ok X G (c.1.fact 9 (f := .glo ("lines_of" : Str)) rfl)
  obtain ⟨fd__law_deck, FD__law_deck⟩ := c.1.def_ 10 (d := dd__law_deck) rfl
  have m__law_deck : mg ("_law_deck" : Str) = some (.ref (He.ga K ("_law_deck" : Str))) := He.glo_ok X G (c.1.fact 10 (f := .glo ("_law_deck" : Str)) rfl)
  obtain ⟨fd__law_pick, FD__law_pick⟩ := c.1.def_ 11 (d := dd__law_pick) rfl
  have m__law_pick : mg ("_law_pick" : Str) = some (.ref (He.ga K ("_law_pick" : Str))) := He.glo_ok X G (c.1.fact 11 (f := .glo ("_law_pick" : Str)) rfl)
  obtain ⟨fd__law_line, FD__law_line⟩ := c.1.def_ 12 (d := dd__law_line) rfl
  have m__law_line : mg ("_law_line" : Str) = some (.ref (He.ga K ("_law_line" : Str))) := He.glo_ok X G (c.1.fact 12 (f := .glo ("_law_line" : Str)) rfl)
  obtain ⟨fd__law_counts, FD__law_counts⟩ := c.1.def_ 13 (d := dd__law_counts) rfl
  have m__law_counts : mg ("_law_counts" : Str) = some (.ref (He.ga K ("_law_counts" : Str))) := He.glo_ok X G (c.1.fact 13 (f := .glo ("_law_counts" : Str)) rfl)
  obtain ⟨fd__law_lines, FD__law_lines⟩ := c.1.def_ 14 (d := dd__law_lines) rfl
  have m__law_lines : mg ("_law_lines" : Str) = some (.ref (He.ga K ("_law_lines" : Str))) := He.glo_ok X G (c.1.fact 14 (f := .glo ("_law_lines" : Str)) rfl)
  obtain ⟨fd__law_without, FD__law_without⟩ := c.1.def_ 15 (d := dd__law_without) rfl
  have m__law_without : mg ("_law_without" : Str) = some (.ref (He.ga K ("_law_without" : Str))) := He.glo_ok X G (c.1.fact 15 (f := .glo ("_law_without" : Str)) rfl)
  obtain ⟨fd__law_merged_right, FD__law_merged_right⟩ := c.1.def_ 16 (d := dd__law_merged_right) rfl
  have m__law_merged_right : mg ("_law_merged_right" : Str) = some (.ref (He.ga K ("_law_merged_right" : Str))) := He.glo_ok X G (c.1.fact 16 (f := .glo ("_law_merged_right" : Str)) rfl)
  obtain ⟨fd__law_one_less, FD__law_one_less⟩ := c.1.def_ 17 (d := dd__law_one_less) rfl
  have m__law_one_less : mg ("_law_one_less" : Str) = some (.ref (He.ga K ("_law_one_less" : Str))) := He.glo_ok X G (c.1.fact 17 (f := .glo ("_law_one_less" : Str)) rfl)
  obtain ⟨fd_law, FD_law⟩ := c.1.def_ 18 (d := dd_law) rfl
  have m_law : mg ("law" : Str) = some (.ref (He.ga K ("law" : Str))) := He.glo_ok X G (c.1.fact 18 (f := .glo ("law" : Str)) rfl)
  have g_bool : mg ("bool" : Str) = none := He.free_ok X G (c.1.fact 19 (f := .free ("bool" : Str)) rfl)
  have g_dict : mg ("dict" : Str) = none := He.free_ok X G (c.1.fact 20 (f := .free ("dict" : Str)) rfl)
  have g_enumerate : mg ("enumerate" : Str) = none := He.free_ok X G (c.1.fact 21 (f := .free ("enumerate" : Str)) rfl)
  have g_int : mg ("int" : Str) = none := He.free_ok X G (c.1.fact 22 (f := .free ("int" : Str)) rfl)
  have g_isinstance : mg ("isinstance" : Str) = none := He.free_ok X G (c.1.fact 23 (f := .free ("isinstance" : Str)) rfl)
  have g_len : mg ("len" : Str) = none := He.free_ok X G (c.1.fact 24 (f := .free ("len" : Str)) rfl)
  have g_list : mg ("list" : Str) = none := He.free_ok X G (c.1.fact 25 (f := .free ("list" : Str)) rfl)
  have g_max : mg ("max" : Str) = none := He.free_ok X G (c.1.fact 26 (f := .free ("max" : Str)) rfl)
  have g_range : mg ("range" : Str) = none := He.free_ok X G (c.1.fact 27 (f := .free ("range" : Str)) rfl)
  have g_set : mg ("set" : Str) = none := He.free_ok X G (c.1.fact 28 (f := .free ("set" : Str)) rfl)
  have g_sorted : mg ("sorted" : Str) = none := He.free_ok X G (c.1.fact 29 (f := .free ("sorted" : Str)) rfl)
  have g_str : mg ("str" : Str) = none := He.free_ok X G (c.1.fact 30 (f := .free ("str" : Str)) rfl)
  have g_sum : mg ("sum" : Str) = none := He.free_ok X G (c.1.fact 31 (f := .free ("sum" : Str)) rfl)
  have g_tuple : mg ("tuple" : Str) = none := He.free_ok X G (c.1.fact 32 (f := .free ("tuple" : Str)) rfl)
  have n_TooMany : mg ("TooMany" : Str) = some (.ref (He.ga K ("TooMany" : Str))) := He.glo_ok X G (c.1.fact 33 (f := .glo ("TooMany" : Str)) rfl)
  have g_MARKS : mg ("MARKS" : Str) = some (.ref (He.ga K ("MARKS" : Str))) ∧ ∀ F, Fz K F (.tuple k_MARKS) (.ref (He.ga K ("MARKS" : Str))) := ⟨He.glo_ok X G (c.1.fact 34 (f := .glo ("MARKS" : Str)) rfl), fzTup (c.tup 0 rfl) fun F => by simp [k_MARKS, FzL, Fz, He.Dv.v]⟩
  have g_MOST_FITTED : ∃ t, mg ("MOST_FITTED" : Str) = some (.int 8 t) := He.int_ok X G (c.1.fact 35 (f := .int ("MOST_FITTED" : Str) 8) rfl)
  have g_MOST_LINES : ∃ t, mg ("MOST_LINES" : Str) = some (.int 500 t) := He.int_ok X G (c.1.fact 36 (f := .int ("MOST_LINES" : Str) 500) rfl)
  have g_MOST_PIECES : ∃ t, mg ("MOST_PIECES" : Str) = some (.int 12 t) := He.int_ok X G (c.1.fact 37 (f := .int ("MOST_PIECES" : Str) 12) rfl)
  have e := hfa.symm.trans m_law
  cases e
  have b := FunD.bindsA (ps := [("script" : Str)]) FD_law fun _ _ _ _ _ _ us hl => match us, hl with | [_], _ => rfl
  refine ⟨fd_law, fun s v => b s [v] rfl, fun base _ _ => ?_⟩
  have C_is_length : Fn P w K mg base 1 ("is_length" : Str) [.fz] [.bot] .fz c_islen := (ok_is_length (k := 0) FD_is_length m_is_length g_bool g_int g_isinstance).imp p_islen
  have C_are_pieces : Fn P w K mg base 2 ("are_pieces" : Str) [.fz] [.bot] .fz c_piecesF := (ok_are_pieces (k := 1) FD_are_pieces m_are_pieces (C_is_length.mono (by decide)) g_isinstance g_len g_list g_str g_tuple g_MARKS g_MOST_PIECES).imp p_piecesF
  have C_is_line : Fn P w K mg base 3 ("is_line" : Str) [.fz] [.bot] .fz c_isline := (ok_is_line (k := 2) FD_is_line m_is_line (C_are_pieces.mono (by decide))).imp p_isline
  have C_lengths_of : Fn P w K mg base 1 ("lengths_of" : Str) [.fz, .fz] [.bot, .bot] .fz c_lensT := (ok_lengths_of (k := 0) FD_lengths_of m_lengths_of).imp p_lensT1
  have C_book_of : Fn P w K mg base 2 ("book_of" : Str) [.fz] [.bot] .fz c_lawbook := (ok_book_of (k := 1) FD_book_of m_book_of (C_lengths_of.mono (by decide)) g_sorted g_tuple).imp p_lawbook
  have C__law_deck : Fn P w K mg base 1 ("_law_deck" : Str) [.fz, .fz] [.bot, .bot] .ow c_deck := (ok__law_deck (k := 0) FD__law_deck m__law_deck).imp p_deck
  have C__law_pick : Fn P w K mg base 1 ("_law_pick" : Str) [.ow, .fz] [.ow, .bot] .fz c_pick := (ok__law_pick (k := 0) FD__law_pick m__law_pick).imp p_pick
  have C__law_line : Fn P w K mg base 2 ("_law_line" : Str) [.ow, .fz] [.ow, .bot] .fz c_lineT := (ok__law_line (k := 1) FD__law_line m__law_line (C__law_pick.mono (by decide)) g_len g_range).imp p_lineT
  have C__law_counts : Fn P w K mg base 1 ("_law_counts" : Str) [.fz] [.bot] .fz c_counts := (ok__law_counts (k := 0) FD__law_counts m__law_counts g_len).imp p_counts
  have C_counted : Fn P w K mg base 1 ("counted" : Str) [.fz] [.bot] .fz c_counted := (ok_counted (k := 0) FD_counted m_counted).imp p_counted
  have C_without : Fn P w K mg base 1 ("without" : Str) [.fz, .fz] [.bot, .bot] .fz c_without := (ok_without (k := 0) FD_without m_without g_dict).imp p_without
  have C_steps_from : Fn P w K mg base 2 ("steps_from" : Str) [.fz, .fz, .fz, .fz] [.bot, .bot, .bot, .bot] .fz c_steps := (ok_steps_from (k := 1) FD_steps_from m_steps_from (C_without.mono (by decide)) g_enumerate g_max).imp p_steps
  have C_extended_0 : Fn P w K mg base 2 ("extended" : Str) [.fz, .fz, .fz, .fz, .ow] [.bot, .bot, .bot, .bot, .ow] .fz (c_ext 0) := fn_bot (ps := sc_extended_ps) FD_extended m_extended (fun _ _ _ _ _ _ us hl => match us, hl with | [_, _, _, _, _], _ => rfl) (fun ds q e h => by obtain ⟨_, _, _, _, _, _, _, _, _, _, _, _, _, _, z, _⟩ := h; omega)
  have C_extended_1 : Fn P w K mg base 3 ("extended" : Str) [.fz, .fz, .fz, .fz, .ow] [.bot, .bot, .bot, .bot, .ow] .fz (c_ext 1) := (ok_extended (k := 2) FD_extended m_extended (C_without.mono (by decide)) (C_steps_from.mono (by decide)) C_extended_0 xf g_len g_list g_MOST_LINES).imp (p_ext 0)
  have C_extended_2 : Fn P w K mg base 4 ("extended" : Str) [.fz, .fz, .fz, .fz, .ow] [.bot, .bot, .bot, .bot, .ow] .fz (c_ext 2) := (ok_extended (k := 3) FD_extended m_extended (C_without.mono (by decide)) (C_steps_from.mono (by decide)) C_extended_1 xf g_len g_list g_MOST_LINES).imp (p_ext 1)
  have C_extended_3 : Fn P w K mg base 5 ("extended" : Str) [.fz, .fz, .fz, .fz, .ow] [.bot, .bot, .bot, .bot, .ow] .fz (c_ext 3) := (ok_extended (k := 4) FD_extended m_extended (C_without.mono (by decide)) (C_steps_from.mono (by decide)) C_extended_2 xf g_len g_list g_MOST_LINES).imp (p_ext 2)
  have C_extended_4 : Fn P w K mg base 6 ("extended" : Str) [.fz, .fz, .fz, .fz, .ow] [.bot, .bot, .bot, .bot, .ow] .fz (c_ext 4) := (ok_extended (k := 5) FD_extended m_extended (C_without.mono (by decide)) (C_steps_from.mono (by decide)) C_extended_3 xf g_len g_list g_MOST_LINES).imp (p_ext 3)
  have C_extended_5 : Fn P w K mg base 7 ("extended" : Str) [.fz, .fz, .fz, .fz, .ow] [.bot, .bot, .bot, .bot, .ow] .fz (c_ext 5) := (ok_extended (k := 6) FD_extended m_extended (C_without.mono (by decide)) (C_steps_from.mono (by decide)) C_extended_4 xf g_len g_list g_MOST_LINES).imp (p_ext 4)
  have C_extended_6 : Fn P w K mg base 8 ("extended" : Str) [.fz, .fz, .fz, .fz, .ow] [.bot, .bot, .bot, .bot, .ow] .fz (c_ext 6) := (ok_extended (k := 7) FD_extended m_extended (C_without.mono (by decide)) (C_steps_from.mono (by decide)) C_extended_5 xf g_len g_list g_MOST_LINES).imp (p_ext 5)
  have C_extended_7 : Fn P w K mg base 9 ("extended" : Str) [.fz, .fz, .fz, .fz, .ow] [.bot, .bot, .bot, .bot, .ow] .fz (c_ext 7) := (ok_extended (k := 8) FD_extended m_extended (C_without.mono (by decide)) (C_steps_from.mono (by decide)) C_extended_6 xf g_len g_list g_MOST_LINES).imp (p_ext 6)
  have C_extended_8 : Fn P w K mg base 10 ("extended" : Str) [.fz, .fz, .fz, .fz, .ow] [.bot, .bot, .bot, .bot, .ow] .fz (c_ext 8) := (ok_extended (k := 9) FD_extended m_extended (C_without.mono (by decide)) (C_steps_from.mono (by decide)) C_extended_7 xf g_len g_list g_MOST_LINES).imp (p_ext 7)
  have C_extended_9 : Fn P w K mg base 11 ("extended" : Str) [.fz, .fz, .fz, .fz, .ow] [.bot, .bot, .bot, .bot, .ow] .fz (c_ext 9) := (ok_extended (k := 10) FD_extended m_extended (C_without.mono (by decide)) (C_steps_from.mono (by decide)) C_extended_8 xf g_len g_list g_MOST_LINES).imp (p_ext 8)
  have C_extended := C_extended_9
  have C_lines_of : Fn P w K mg base 12 ("lines_of" : Str) [.fz] [.bot] .fz c_linesof := (ok_lines_of (k := 11) FD_lines_of m_lines_of (C_counted.mono (by decide)) (C_extended.mono (by decide)) xf g_len g_sorted g_sum g_MOST_FITTED).imp p_linesof
  have C__law_lines : Fn P w K mg base 13 ("_law_lines" : Str) [.fz] [.bot] .fz c_lawlines := (ok__law_lines (k := 12) FD__law_lines m__law_lines (C_lines_of.mono (by decide)) xf n_TooMany).imp p_lawlines
  have C__law_without : Fn P w K mg base 1 ("_law_without" : Str) [.fz, .fz] [.bot, .bot] .fz c_without2 := (ok__law_without (k := 0) FD__law_without m__law_without g_list).imp p_without2
  have C__law_merged_right : Fn P w K mg base 2 ("_law_merged_right" : Str) [.fz, .fz] [.bot, .bot] .fz c_merged := (ok__law_merged_right (k := 1) FD__law_merged_right m__law_merged_right (C__law_without.mono (by decide)) g_len g_list g_set g_sorted).imp p_merged
  have C__law_one_less : Fn P w K mg base 2 ("_law_one_less" : Str) [.ow, .fz] [.ow, .bot] .fz c_oneless := (ok__law_one_less (k := 1) FD__law_one_less m__law_one_less (C__law_pick.mono (by decide)) g_len g_range).imp p_oneless
  exact (ok_law (k := 13) FD_law (C_is_line.mono (by decide)) (C_book_of.mono (by decide)) (C__law_deck.mono (by decide)) (C__law_pick.mono (by decide)) (C__law_line.mono (by decide)) (C__law_counts.mono (by decide)) (C__law_lines.mono (by decide)) (C__law_merged_right.mono (by decide)) (C__law_one_less.mono (by decide)) g_len).imp fun vs H Q E ⟨l, F, S, ds, q, e, w, s, z⟩ => ⟨l, F, S, ds, q, e, w, p_law _ _ _ s, z⟩
end K38
open PySem PySem.W PySem.Calls PyProof.Rows
theorem PySem.Challenge.cw_twoknives_k38_whole_books_told_otherwise_holds : PySem.Challenge.rw_twoknives_k38_whole_books_told_otherwise.Holds := by
  w_on; o_law
  refine HandSHeadRun.head_any (r := OpenLaw.row PySem.Challenge.rw_twoknives_k38_whole_books_told_otherwise) (q := view (OpenLaw.row PySem.Challenge.rw_twoknives_k38_whole_books_told_otherwise).prog [29]) (H := K38.hk) (ob := K38.ob) (M := 4000) (loose := K38.loose0) (d := HandSHeadRun.topDef (OpenLaw.row PySem.Challenge.rw_twoknives_k38_whole_books_told_otherwise).prog 29) (kwd := []) K38.ob_eq
    (by kernel_rfl) (fun s => by kernel_rfl) K38.run (by kernel_rfl) (by kernel_rfl) (by kernel_rfl) (by rfl) (by first | assumption | decide +kernel) (by decide +kernel) ⟨rfl, rfl, rfl, rfl, rfl, by decide +kernel⟩ ?hw ?hc
  case hw => w_witness2
  case hc =>
    refine L2.walk_ofE (l := PySem.Challenge.rw_twoknives_k38_whole_books_told_otherwise) (n := 63) (k := 14) (x := ("script" : PySem.Str)) (CX := L2.CX0) rfl (by decide) (by kernel_rfl) ⟨rfl, by decide, by decide⟩ ?F (fun _ _ _ _ z => z)
    intro w mg fa h Y G hmg0
    obtain ⟨K, KX, c⟩ := Y
    have hmg : mg ("law" : PySem.Str) = some (.ref fa) := by
      have e : (HandSHeadRun.topDef (OpenLaw.row PySem.Challenge.rw_twoknives_k38_whole_books_told_otherwise).prog 29).name = ("law" : PySem.Str) := by kernel_rfl
      rw [← e]
      exact hmg0
    obtain ⟨fd, hb, hF⟩ := K38.facts (P := (PySem.Challenge.rw_twoknives_k38_whole_books_told_otherwise).prog) (w := w) KX G hmg c
    exact ⟨K, fd, (fun vs H Q _ => T2.spD K mg [.fz] [.bot] .fz T2.c_law vs H Q fun _ _ _ => False), KX, hb, fun H a ns hl _ hS => T2.sp_law (mg := mg) hS hl, fun base h1 h2 => T2.FnOk.cx0 (hF base h1 h2)⟩
