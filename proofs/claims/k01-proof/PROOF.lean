import PyProof.Rows.All
import Wide.All
import OpenK.AllK
import Wide.FinOn
import PySem.Challenge.RW_editsagree_k01_whole_signs_that_keep_the
import HandS.ForMost
import HandS.AnyAll
import HandS.EndTab
import HandS.EndOwn
import HandS.IsInst
import HandS.Deep
import HandS.Wide
import HandS.TupAny
import HandS.TupLe
import KE.KRevSl
import HandS.Text
import HandS.SortInts
import HandS.Dict
import KE.GoesNew
import HandS.Conv
import HandS.Rev
import HandS.RevTup
import HandS.GenOver
import HandS.Style
import HandS.Defaults
import HandS.Head0
import HandS.Head1
import HandS.Head2
import HandS.HeadEnd
import HandS.HeadHook1
import HandS.HeadHook2
import HandS.HeadHook3
import HandS.HeadHook4
import HandS.HeadWalk
set_option Elab.async false
set_option linter.all false
set_option autoImplicit false
set_option maxRecDepth 100000
set_option maxHeartbeats 1000000
/-! Mp, part 1: data D, cells, worlds, how they stand for the layer's values and heaps -/
namespace Mp
open PySem PySem.Spec L2
open PyProof.Rows hiding St

/-- a value as plain data: texts by their codes; ref: a thing that may change -/
inductive D where
  | non | bl (b : Bool) | int (i : Int) | str (cs : List Nat) | tup (ds : List D) | lst (ds : List D) | fz (ds : List D) | ref (n : Nat)
inductive Cell where
  | lst (ds : List D) | dct (kvs : List (Key × D)) | gone
abbrev Hs := List Cell

/-- where the cells stand, which lists are never written any more, the layer's heap -/
structure Wd where
  ι : List Addr
  F : Addr → Prop
  H : Hp

variable {K : PySem.W.Frag} {T : List Addr}

def KL (K : PySem.W.Frag) (a : Addr) (xs : List V) : Prop :=
  ∃ (o : Obj) (its : Array Value) (n : Nat), K.lookup a = some o ∧ o.cls = .type "list" ∧ o.dict = none ∧ o.data = .seq its n ∧ its.size ≤ sizeLine ∧ Vals xs its.toList
def LOk (w : Wd) (a : Addr) (vs : List V) : Prop := w.F a ∧ w.H a = some (.lst vs)
/-- a list that is the caller's or the module's -/
def FOk (K : PySem.W.Frag) (H : Hp) (a : Addr) (vs : List V) : Prop := (∃ o, H a = some (.frz o (.lst vs))) ∨ KL K a vs
theorem LOk.sq {w : Wd} {a : Addr} {vs : List V} (h : LOk w a vs) : SqL K w.H a vs := .inl (.inl h.2)
theorem FOk.sq {H : Hp} {a : Addr} {vs : List V} (h : FOk K H a vs) : SqL K H a vs := h.elim (fun z => .inl (.inr z)) .inr

mutual
def RV (K : PySem.W.Frag) (w : Wd) : D → V → Prop
  | .non, v => v = .non
  | .bl b, v => v = .bl b
  | .int i, v => v = .int i
  | .str cs, v => v = .str ⟨cs.toArray⟩
  | .tup ds, v => ∃ a vs, v = .ref a ∧ SqT K w.H a vs ∧ RVs K w ds vs
  | .lst ds, v => ∃ a vs, v = .ref a ∧ LOk w a vs ∧ RVs K w ds vs
  | .fz ds, v => ∃ a vs, v = .ref a ∧ FOk K w.H a vs ∧ RVs K w ds vs
  | .ref n, v => ∃ a, v = .ref a ∧ w.ι[n]? = some a
def RVs (K : PySem.W.Frag) (w : Wd) : List D → List V → Prop
  | [], vs => vs = []
  | d :: ds, vs => ∃ v r, vs = v :: r ∧ RV K w d v ∧ RVs K w ds r
end

structure Ext (K : PySem.W.Frag) (w w' : Wd) : Prop where
  pre : ∀ (n : Nat) a, w.ι[n]? = some a → w'.ι[n]? = some a
  tup : ∀ a xs, SqT K w.H a xs → SqT K w'.H a xs
  lst : ∀ a xs, LOk w a xs → LOk w' a xs
  fz : ∀ a xs, FOk K w.H a xs → FOk K w'.H a xs
theorem Ext.refl {w : Wd} : Ext K w w := ⟨fun _ _ h => h, fun _ _ h => h, fun _ _ h => h, fun _ _ h => h⟩
theorem Ext.trans {w w' w'' : Wd} (h : Ext K w w') (g : Ext K w' w'') : Ext K w w'' :=
  ⟨fun n a e => g.pre n a (h.pre n a e), fun a xs e => g.tup a xs (h.tup a xs e), fun a xs e => g.lst a xs (h.lst a xs e), fun a xs e => g.fz a xs (h.fz a xs e)⟩

/-- the strong form: what is not one of the things that may change stands as it stood -/
structure Ex2 (K : PySem.W.Frag) (w w' : Wd) : Prop extends Ext K w w' where
  new : ∀ a ∈ w'.ι, a ∈ w.ι ∨ w.H a = none
  fr : ∀ a, w.F a → w'.F a
  nf : ∀ a, w'.F a → w.F a ∨ a ∈ w.ι ∨ w.H a = none
  stay : ∀ a o, w.H a = some o → (a ∉ w.ι ∨ w.F a) → (∀ ps, o ≠ .tbl ps) → w'.H a = some o
  occ : ∀ a, w.H a ≠ none → w'.H a ≠ none
theorem Ex2.refl {w : Wd} : Ex2 K w w := ⟨Ext.refl, fun _ h => .inl h, fun _ h => h, fun _ h => .inl h, fun _ _ h _ _ => h, fun _ h => h⟩
theorem Ex2.trans {w w' w'' : Wd} (h : Ex2 K w w') (g : Ex2 K w' w'') : Ex2 K w w'' := by
  have back : ∀ a, w'.H a = none → w.H a = none := fun a z => Classical.byContradiction fun q => h.occ a q z
  refine ⟨h.toExt.trans g.toExt, fun a ha => ?_, fun a ha => g.fr a (h.fr a ha), fun a ha => ?_, fun a o e n t => ?_, fun a ha => g.occ a (h.occ a ha)⟩
  · rcases g.new a ha with z | z
    · exact h.new a z
    · exact .inr (back a z)
  · rcases g.nf a ha with z | z | z
    · exact h.nf a z
    · rcases h.new a z with q | q
      · exact .inr (.inl q)
      · exact .inr (.inr q)
    · exact .inr (.inr (back a z))
  · refine g.stay a o (h.stay a o e n t) ?_ t
    rcases n with n | n
    · refine .inl fun z => ?_
      rcases h.new a z with q | q
      · exact n q
      · rw [e] at q; cases q
    · exact .inr (h.fr a n)

mutual
theorem RV.ext {w w' : Wd} (x : Ext K w w') : ∀ (d : D) (v : V), RV K w d v → RV K w' d v
  | .non, _, h => h
  | .bl _, _, h => h
  | .int _, _, h => h
  | .str _, _, h => h
  | .tup ds, _, h => by
    obtain ⟨a, vs, e, h1, h2⟩ := h
    exact ⟨a, vs, e, x.tup _ _ h1, RVs.ext x ds vs h2⟩
  | .lst ds, _, h => by
    obtain ⟨a, vs, e, h1, h2⟩ := h
    exact ⟨a, vs, e, x.lst _ _ h1, RVs.ext x ds vs h2⟩
  | .fz ds, _, h => by
    obtain ⟨a, vs, e, h1, h2⟩ := h
    exact ⟨a, vs, e, x.fz _ _ h1, RVs.ext x ds vs h2⟩
  | .ref n, _, h => by
    obtain ⟨a, e, h1⟩ := h
    exact ⟨a, e, x.pre _ _ h1⟩
theorem RVs.ext {w w' : Wd} (x : Ext K w w') : ∀ (ds : List D) (vs : List V), RVs K w ds vs → RVs K w' ds vs
  | [], _, h => h
  | d :: ds, _, h => by
    obtain ⟨v, r, e, h1, h2⟩ := h
    exact ⟨v, r, e, RV.ext x d v h1, RVs.ext x ds r h2⟩
end
theorem RVs.len {w : Wd} : ∀ {ds : List D} {vs : List V}, RVs K w ds vs → ds.length = vs.length
  | [], _, h => by cases h; rfl
  | d :: ds, _, h => by
    obtain ⟨v, r, e, _, h2⟩ := h
    subst e
    simp [RVs.len h2]
theorem RVs.get {w : Wd} : ∀ {ds : List D} {vs : List V} {i : Nat} {d : D}, RVs K w ds vs → ds[i]? = some d → ∃ v, vs[i]? = some v ∧ RV K w d v
  | [], _, _, _, _, e => by simp at e
  | d :: ds, _, 0, d', h, e => by
    obtain ⟨v, r, rfl, h1, _⟩ := h
    simp at e; subst e
    exact ⟨v, rfl, h1⟩
  | d :: ds, _, i + 1, d', h, e => by
    obtain ⟨v, r, rfl, _, h2⟩ := h
    simp at e
    obtain ⟨u, e1, e2⟩ := RVs.get (i := i) h2 e
    exact ⟨u, by simpa using e1, e2⟩
theorem RVs.get' {w : Wd} {ds : List D} {vs : List V} {i : Nat} {v : V} (h : RVs K w ds vs) (e : vs[i]? = some v) : ∃ d, ds[i]? = some d ∧ RV K w d v := by
  have hi : i < ds.length := by rw [h.len]; exact (List.getElem?_eq_some_iff.mp e).1
  obtain ⟨u, e1, e2⟩ := h.get (List.getElem?_eq_getElem hi)
  rw [e] at e1; cases e1
  exact ⟨_, List.getElem?_eq_getElem hi, e2⟩
theorem RVs.append {w : Wd} : ∀ {ds es : List D} {vs us : List V}, RVs K w ds vs → RVs K w es us → RVs K w (ds ++ es) (vs ++ us)
  | [], _, _, _, h, g => by cases h; exact g
  | d :: ds, _, _, _, h, g => by
    obtain ⟨v, r, rfl, h1, h2⟩ := h
    exact ⟨v, r ++ _, rfl, h1, RVs.append h2 g⟩
theorem RVs.take {w : Wd} : ∀ {ds : List D} {vs : List V} (n : Nat), RVs K w ds vs → RVs K w (ds.take n) (vs.take n)
  | _, _, 0, _ => rfl
  | [], _, n + 1, h => by cases h; rfl
  | d :: ds, _, n + 1, h => by
    obtain ⟨v, r, rfl, h1, h2⟩ := h
    exact ⟨v, r.take n, rfl, h1, RVs.take n h2⟩
theorem RVs.drop {w : Wd} : ∀ {ds : List D} {vs : List V} (n : Nat), RVs K w ds vs → RVs K w (ds.drop n) (vs.drop n)
  | _, _, 0, h => h
  | [], _, n + 1, h => by cases h; rfl
  | d :: ds, _, n + 1, h => by
    obtain ⟨v, r, rfl, h1, h2⟩ := h
    exact RVs.drop n h2
theorem RVs.reverse {w : Wd} : ∀ {ds : List D} {vs : List V}, RVs K w ds vs → RVs K w ds.reverse vs.reverse
  | [], _, h => by cases h; rfl
  | d :: ds, _, h => by
    obtain ⟨v, r, rfl, h1, h2⟩ := h
    rw [List.reverse_cons, List.reverse_cons]
    exact (RVs.reverse h2).append ⟨v, [], rfl, h1, rfl⟩
theorem RVs.set {w : Wd} {x : D} {u : V} (hx : RV K w x u) : ∀ {ds : List D} {vs : List V} (i : Nat), RVs K w ds vs → RVs K w (ds.set i x) (vs.set i u)
  | [], _, _, h => by cases h; rfl
  | d :: ds, _, 0, h => by
    obtain ⟨v, r, rfl, h1, h2⟩ := h
    exact ⟨u, r, rfl, hx, h2⟩
  | d :: ds, _, i + 1, h => by
    obtain ⟨v, r, rfl, h1, h2⟩ := h
    exact ⟨v, r.set i u, rfl, h1, RVs.set hx i h2⟩
theorem RVs.eraseIdx {w : Wd} : ∀ {ds : List D} {vs : List V} (i : Nat), RVs K w ds vs → RVs K w (ds.eraseIdx i) (vs.eraseIdx i)
  | [], _, _, h => by cases h; rfl
  | d :: ds, _, 0, h => by
    obtain ⟨v, r, rfl, h1, h2⟩ := h
    exact h2
  | d :: ds, _, i + 1, h => by
    obtain ⟨v, r, rfl, h1, h2⟩ := h
    exact ⟨v, r.eraseIdx i, rfl, h1, RVs.eraseIdx i h2⟩
theorem RVs.dropLast {w : Wd} {ds : List D} {vs : List V} (h : RVs K w ds vs) : RVs K w ds.dropLast vs.dropLast := by
  rw [List.dropLast_eq_take, List.dropLast_eq_take, h.len]
  exact h.take _

def RKs (K : PySem.W.Frag) (w : Wd) : List (Key × D) → List (Key × V) → Prop := Paired fun p q => p.1 = q.1 ∧ RV K w p.2 q.2
theorem RKs.ext {w w' : Wd} (x : Ext K w w') {a : List (Key × D)} {b : List (Key × V)} (h : RKs K w a b) : RKs K w' a b :=
  Paired.mapP h fun _ _ q => ⟨q.1, RV.ext x _ _ q.2⟩

def CellOk (K : PySem.W.Frag) (w : Wd) (a : Addr) : Cell → Prop
  | .lst ds => ¬ w.F a ∧ ∃ vs, w.H a = some (.lst vs) ∧ RVs K w ds vs
  | .dct kvs => ¬ w.F a ∧ ∃ us, w.H a = some (.dK us) ∧ RKs K w kvs us
  | .gone => True
theorem CellOk.mono {w w' : Wd} {a : Addr} {c : Cell} (x : Ext K w w') (e : w'.H a = w.H a) (f : w'.F a → w.F a) (h : CellOk K w a c) : CellOk K w' a c := by
  cases c with
  | lst ds => obtain ⟨n, vs, h1, h2⟩ := h; exact ⟨fun z => n (f z), vs, e.trans h1, h2.ext x⟩
  | dct kvs => obtain ⟨n, vs, h1, h2⟩ := h; exact ⟨fun z => n (f z), vs, e.trans h1, h2.ext x⟩
  | gone => trivial

structure Rel (K : PySem.W.Frag) (T : List Addr) (w : Wd) (G : Hs) : Prop where
  len : w.ι.length = G.length
  nd : w.ι.Nodup
  cell : ∀ (n : Nat) c a, G[n]? = some c → w.ι[n]? = some a → CellOk K w a c
  live : ∀ a, w.F a → w.H a ≠ none
  alv : ∀ a ∈ w.ι, w.H a ≠ none
  tab : ∀ P ∈ T, GxR.TabG w.H P

section
variable {w : Wd} {G : Hs} {p : Addr}

theorem ne_fresh {a : Addr} (h : w.H p = none) (e : w.H a ≠ none) : a ≠ p := fun z => e (z ▸ h)
theorem SqT.fresh {H : Hp} {o : HO} {a : Addr} {xs : List V} (h : H p = none) (q : SqT K H a xs) : SqT K (upd H p o) a xs := by
  rcases q with (q | ⟨o', q⟩) | q
  · exact .inl (.inl (by rw [upd_ne (ne_of_none q h)]; exact q))
  · exact .inl (.inr ⟨o', by rw [upd_ne (ne_of_none q h)]; exact q⟩)
  · exact .inr q
/-- a new object -/
theorem Ext.fresh {o : HO} {ι' : List Addr} {F' : Addr → Prop} (h : w.H p = none) (hι : ∀ (n : Nat) a, w.ι[n]? = some a → ι'[n]? = some a) (hF : ∀ a, w.F a → F' a) : Ext K w ⟨ι', F', upd w.H p o⟩ := by
  refine ⟨hι, fun a xs q => SqT.fresh h q, fun a xs q => ?_, fun a xs q => ?_⟩
  · exact ⟨hF a q.1, by show upd w.H p o a = _; rw [upd_ne (ne_of_none q.2 h)]; exact q.2⟩
  · rcases q with ⟨o', q⟩ | q
    · exact .inl ⟨o', by show upd w.H p o a = _; rw [upd_ne (ne_of_none q h)]; exact q⟩
    · exact .inr q
theorem Ex2.fresh {o : HO} {ι' : List Addr} {F' : Addr → Prop} (h : w.H p = none) (hι : ∀ (n : Nat) a, w.ι[n]? = some a → ι'[n]? = some a) (hF : ∀ a, w.F a → F' a)
    (hι' : ∀ a ∈ ι', a ∈ w.ι ∨ a = p) (hF' : ∀ a, F' a → w.F a ∨ a = p) : Ex2 K w ⟨ι', F', upd w.H p o⟩ := by
  refine ⟨Ext.fresh h hι hF, fun a ha => ?_, hF, fun a ha => ?_, fun a u e _ _ => ?_, fun a ha => ?_⟩
  · rcases hι' a ha with z | z
    · exact .inl z
    · exact .inr (z ▸ h)
  · rcases hF' a ha with z | z
    · exact .inl z
    · exact .inr (.inr (z ▸ h))
  · show upd w.H p o a = _
    rw [upd_ne (ne_of_none e h)]; exact e
  · show upd w.H p o a ≠ none
    rw [upd_ne (ne_fresh h ha)]; exact ha
theorem Ex2.newTup {o : HO} (h : w.H p = none) : Ex2 K w ⟨w.ι, w.F, upd w.H p o⟩ := Ex2.fresh h (fun _ _ e => e) (fun _ z => z) (fun _ z => .inl z) fun _ z => .inl z
theorem Ex2.newLst {o : HO} (h : w.H p = none) : Ex2 K w ⟨w.ι, fun a => w.F a ∨ a = p, upd w.H p o⟩ := Ex2.fresh h (fun _ _ e => e) (fun _ z => .inl z) (fun _ z => .inl z) fun _ z => z
theorem TabG.fresh {H : Hp} {o : HO} {P : Addr} (h : H p = none) (q : GxR.TabG H P) : GxR.TabG (upd H p o) P := by
  obtain ⟨ps, q1, q2⟩ := q
  exact ⟨ps, by rw [upd_ne (ne_of_none q1 h)]; exact q1, q2⟩
theorem Rel.fresh (R : Rel K T w G) {o : HO} {F' : Addr → Prop} (h : w.H p = none) (hF : ∀ a, w.F a → F' a) (hF' : ∀ a, F' a → w.F a ∨ a = p) : Rel K T ⟨w.ι, F', upd w.H p o⟩ G := by
  have x : Ext K w ⟨w.ι, F', upd w.H p o⟩ := Ext.fresh h (fun _ _ e => e) hF
  refine ⟨R.len, R.nd, fun n c a e1 e2 => ?_, fun a ha => ?_, fun a ha => ?_, fun P hP => TabG.fresh h (R.tab P hP)⟩
  · have na : a ≠ p := ne_fresh h (R.alv a (List.mem_of_getElem? e2))
    refine (R.cell n c a e1 e2).mono x (upd_ne na) fun z => ?_
    rcases hF' a z with z | z
    · exact z
    · exact absurd z na
  · show upd w.H p o a ≠ none
    rcases hF' a ha with z | z
    · rw [upd_ne (ne_fresh h (R.live a z))]; exact R.live a z
    · rw [z, upd_same]; simp
  · show upd w.H p o a ≠ none
    rw [upd_ne (ne_fresh h (R.alv a ha))]; exact R.alv a ha
theorem Rel.newTup (R : Rel K T w G) {o : HO} (h : w.H p = none) : Rel K T ⟨w.ι, w.F, upd w.H p o⟩ G := R.fresh h (fun _ z => z) fun _ z => .inl z
theorem getElem?_snoc {α : Type} {l : List α} {x y : α} {n : Nat} (h : l[n]? = some y) : (l ++ [x])[n]? = some y := by
  rw [List.getElem?_append_left (List.getElem?_eq_some_iff.mp h).1]; exact h
theorem getElem?_snoc_inv {α : Type} {l : List α} {x y : α} {n : Nat} (h : (l ++ [x])[n]? = some y) : l[n]? = some y ∨ (n = l.length ∧ x = y) := by
  by_cases hn : n < l.length
  · rw [List.getElem?_append_left hn] at h; exact .inl h
  · rw [List.getElem?_append_right (by omega)] at h
    by_cases e : n - l.length = 0
    · rw [e] at h; simp at h; exact .inr ⟨by omega, h⟩
    · rw [List.getElem?_eq_none (by simp; omega)] at h; cases h
/-- a new thing that may change -/
theorem Ex2.cell {o : HO} (h : w.H p = none) : Ex2 K w ⟨w.ι ++ [p], w.F, upd w.H p o⟩ :=
  Ex2.fresh h (fun _ _ e => getElem?_snoc e) (fun _ z => z) (fun a z => (List.mem_append.mp z).imp id fun q => List.mem_singleton.mp q) fun _ z => .inl z
theorem Rel.newCell (R : Rel K T w G) {o : HO} {c : Cell} (h : w.H p = none) (hc : ¬ w.F p → CellOk K ⟨w.ι ++ [p], w.F, upd w.H p o⟩ p c) : Rel K T ⟨w.ι ++ [p], w.F, upd w.H p o⟩ (G ++ [c]) := by
  have x : Ext K w ⟨w.ι ++ [p], w.F, upd w.H p o⟩ := (Ex2.cell h).toExt
  refine ⟨by simp [R.len], ?_, fun n c' a e1 e2 => ?_, fun a ha => ?_, fun a ha => ?_, fun P hP => TabG.fresh h (R.tab P hP)⟩
  · refine List.nodup_append.mpr ⟨R.nd, by simp, fun a ha b hb => ?_⟩
    rw [List.mem_singleton.mp hb]
    exact ne_fresh h (R.alv a ha)
  · rcases getElem?_snoc_inv e1 with e1 | ⟨en, rfl⟩
    · have hn : n < w.ι.length := by rw [R.len]; exact (List.getElem?_eq_some_iff.mp e1).1
      rw [List.getElem?_append_left hn] at e2
      have na : a ≠ p := ne_fresh h (R.alv a (List.mem_of_getElem? e2))
      exact (R.cell n c' a e1 e2).mono x (upd_ne na) fun z => z
    · rw [en, ← R.len, List.getElem?_append_right (Nat.le_refl _), Nat.sub_self] at e2
      simp at e2
      subst e2
      exact hc fun z => R.live _ z h
  · show upd w.H p o a ≠ none
    rw [upd_ne (ne_fresh h (R.live a ha))]; exact R.live a ha
  · show upd w.H p o a ≠ none
    rcases List.mem_append.mp ha with ha | ha
    · rw [upd_ne (ne_fresh h (R.alv a ha))]; exact R.alv a ha
    · rw [List.mem_singleton.mp ha, upd_same]; simp
def Wr : HO → Prop
  | .lst _ => True
  | .dK _ => True
  | _ => False
/-- a cell is written -/
theorem Ext.write {a : Addr} {o u : HO} (hF : ¬ w.F a) (hu : w.H a = some u) (hw : Wr u) : Ext K w ⟨w.ι, w.F, upd w.H a o⟩ := by
  have ne : ∀ b q, w.H b = some q → ¬ Wr q → b ≠ a := fun b q e n z => by
    subst z
    rw [hu] at e; cases e
    exact n hw
  refine ⟨fun _ _ e => e, fun b xs q => ?_, fun b xs q => ?_, fun b xs q => ?_⟩
  · rcases q with (q | ⟨o', q⟩) | q
    · exact .inl (.inl (by show upd w.H a o b = _; rw [upd_ne (ne b _ q fun z => z)]; exact q))
    · exact .inl (.inr ⟨o', by show upd w.H a o b = _; rw [upd_ne (ne b _ q fun z => z)]; exact q⟩)
    · exact .inr q
  · refine ⟨q.1, ?_⟩
    show upd w.H a o b = _
    rw [upd_ne (show b ≠ a from fun z => hF (by rw [← z]; exact q.1))]; exact q.2
  · rcases q with ⟨o', q⟩ | q
    · refine .inl ⟨o', ?_⟩
      show upd w.H a o b = _
      rw [upd_ne (ne b _ q fun z => z)]; exact q
    · exact .inr q
theorem Ex2.write {a : Addr} {o u : HO} (ha : a ∈ w.ι) (hF : ¬ w.F a) (hu : w.H a = some u) (hw : Wr u) : Ex2 K w ⟨w.ι, w.F, upd w.H a o⟩ := by
  refine ⟨Ext.write hF hu hw, fun _ z => .inl z, fun _ z => z, fun _ z => .inl z, fun b q e n _ => ?_, fun b hb => ?_⟩
  · have nb : b ≠ a := fun z => by
      subst z
      exact n.elim (fun k => k ha) hF
    show upd w.H a o b = _
    rw [upd_ne nb]; exact e
  · show upd w.H a o b ≠ none
    by_cases e : b = a
    · rw [e, upd_same]; simp
    · rw [upd_ne e]; exact hb
theorem Rel.write (R : Rel K T w G) {n : Nat} {a : Addr} {o u : HO} {c : Cell} (ha : w.ι[n]? = some a) (hF : ¬ w.F a) (hu : w.H a = some u) (hw : Wr u)
    (hc : CellOk K ⟨w.ι, w.F, upd w.H a o⟩ a c) : Rel K T ⟨w.ι, w.F, upd w.H a o⟩ (G.set n c) := by
  have x : Ext K w ⟨w.ι, w.F, upd w.H a o⟩ := Ext.write hF hu hw
  refine ⟨by simp [R.len], R.nd, fun m c' b e1 e2 => ?_, fun b hb => ?_, fun b hb => ?_, fun P hP => ?_⟩
  · by_cases hm : m = n
    · subst hm
      have e2 : w.ι[m]? = some b := e2
      rw [ha] at e2; cases e2
      rw [List.getElem?_set_self (by rw [← R.len]; exact (List.getElem?_eq_some_iff.mp ha).1)] at e1
      cases e1
      exact hc
    · rw [List.getElem?_set_ne (Ne.symm hm)] at e1
      have e2 : w.ι[m]? = some b := e2
      have nb : b ≠ a := fun z => by
        subst z
        obtain ⟨h1, q1⟩ := List.getElem?_eq_some_iff.mp e2
        obtain ⟨h2, q2⟩ := List.getElem?_eq_some_iff.mp ha
        exact hm ((List.getElem_inj R.nd).mp (q1.trans q2.symm))
      exact (R.cell m c' b e1 e2).mono x (upd_ne nb) fun z => z
  · show upd w.H a o b ≠ none
    by_cases hb' : b = a
    · rw [hb', upd_same]; simp
    · rw [upd_ne hb']; exact R.live b hb
  · show upd w.H a o b ≠ none
    by_cases hb' : b = a
    · rw [hb', upd_same]; simp
    · rw [upd_ne hb']; exact R.alv b hb
  · obtain ⟨ps, q1, q2⟩ := R.tab P hP
    refine ⟨ps, ?_, q2⟩
    show upd w.H a o P = _
    rw [upd_ne (fun z => by subst z; rw [hu] at q1; cases q1; exact hw)]; exact q1
/-- a list is never written any more -/
theorem Ext.freeze {a : Addr} : Ext K w ⟨w.ι, fun b => w.F b ∨ b = a, w.H⟩ := by
  exact ⟨fun _ _ e => e, fun b xs q => q, fun b xs q => ⟨.inl q.1, q.2⟩, fun b xs q => q⟩
theorem Ex2.freeze {a : Addr} (ha : a ∈ w.ι) : Ex2 K w ⟨w.ι, fun b => w.F b ∨ b = a, w.H⟩ :=
  ⟨Ext.freeze, fun _ z => .inl z, fun _ z => .inl z, fun b z => z.elim .inl (fun q => .inr (.inl (by rw [q]; exact ha))), fun _ _ e _ _ => e, fun _ z => z⟩
theorem Rel.freeze (R : Rel K T w G) {n : Nat} {a : Addr} (ha : w.ι[n]? = some a) : Rel K T ⟨w.ι, fun b => w.F b ∨ b = a, w.H⟩ (G.set n .gone) := by
  refine ⟨by simp [R.len], R.nd, fun m c' b e1 e2 => ?_, fun b hb => ?_, R.alv, R.tab⟩
  · by_cases hm : m = n
    · subst hm
      rw [List.getElem?_set_self (by rw [← R.len]; exact (List.getElem?_eq_some_iff.mp ha).1)] at e1
      cases e1
      trivial
    · rw [List.getElem?_set_ne (Ne.symm hm)] at e1
      have e2 : w.ι[m]? = some b := e2
      have nb : b ≠ a := fun z => by
        subst z
        obtain ⟨h1, q1⟩ := List.getElem?_eq_some_iff.mp e2
        obtain ⟨h2, q2⟩ := List.getElem?_eq_some_iff.mp ha
        exact hm ((List.getElem_inj R.nd).mp (q1.trans q2.symm))
      exact (R.cell m c' b e1 e2).mono Ext.freeze rfl fun z => z.elim id fun z => absurd z nb
  · rcases hb with hb | rfl
    · exact R.live b hb
    · exact R.alv _ (List.mem_of_getElem? ha)
end

/-! ### what an evaluation gives -/
abbrev Rs := Option (D × Hs)
/-- what is wanted of a result -/
def Lift (K : PySem.W.Frag) (T : List Addr) (w : Wd) (r : Rs) (Q : V → Hp → Prop) : Prop :=
  ∃ d G', r = some (d, G') ∧ ∀ w' v, Ex2 K w w' → Rel K T w' G' → RV K w' d v → Q v w'.H
theorem Lift.now {w : Wd} {G : Hs} {d : D} {v : V} {Q : V → Hp → Prop} (R : Rel K T w G) (h : Lift K T w (some (d, G)) Q) (r : RV K w d v) : Q v w.H := by
  obtain ⟨d', G', e, q⟩ := h
  cases e
  exact q w v Ex2.refl R r
theorem Lift.to {w w' : Wd} {G' : Hs} {d : D} {v : V} {Q : V → Hp → Prop} (h : Lift K T w (some (d, G')) Q) (x : Ex2 K w w') (R : Rel K T w' G') (r : RV K w' d v) : Q v w'.H := by
  obtain ⟨d', G', e, q⟩ := h
  cases e
  exact q w' v x R r
theorem Lift.from {w w' : Wd} {r : Rs} {Q : V → Hp → Prop} (x : Ex2 K w w') (h : Lift K T w r Q) : Lift K T w' r Q := by
  obtain ⟨d, G', e, q⟩ := h
  exact ⟨d, G', e, fun w'' v y => q w'' v (x.trans y)⟩

abbrev Env' := List (Option D)
/-- the slots -/
structure RS (K : PySem.W.Frag) (w : Wd) (ς : Env') (σ : St) : Prop where
  len : ς.length = σ.length
  at_ : ∀ (i : Nat) d, ς[i]? = some (some d) → ∃ v, σ[i]? = some (some v) ∧ RV K w d v
theorem RS.ext {w w' : Wd} {ς : Env'} {σ : St} (x : Ext K w w') (h : RS K w ς σ) : RS K w' ς σ :=
  ⟨h.len, fun i d e => let ⟨v, e1, e2⟩ := h.at_ i d e; ⟨v, e1, RV.ext x _ _ e2⟩⟩
theorem RS.set {w : Wd} {ς : Env'} {σ : St} {d : D} {v : V} (h : RS K w ς σ) (r : RV K w d v) (i : Nat) : RS K w (ς.set i (some d)) (σ.set i (some v)) := by
  refine ⟨by simp [h.len], fun j e q => ?_⟩
  by_cases hj : j = i
  · subst hj
    by_cases hl : j < ς.length
    · rw [List.getElem?_set_self hl] at q
      cases q
      exact ⟨v, by rw [List.getElem?_set_self (by rw [← h.len]; exact hl)], r⟩
    · rw [List.getElem?_eq_none (by simpa using hl)] at q; cases q
  · rw [List.getElem?_set_ne (Ne.symm hj)] at q ⊢
    exact h.at_ j e q

/-- an expression's reading, by its plain value -/
def LE (K : PySem.W.Frag) (T : List Addr) (f : Env' → Hs → Rs) : TE := fun σ H Q =>
  ∃ ι F ς G, Rel K T ⟨ι, F, H⟩ G ∧ RS K ⟨ι, F, H⟩ ς σ ∧ Lift K T ⟨ι, F, H⟩ (f ς G) Q
theorem LE.mono {f : Env' → Hs → Rs} {σ : St} {H : Hp} {Q Q' : V → Hp → Prop} (h : LE K T f σ H Q) (m : ∀ v H, Q v H → Q' v H) : LE K T f σ H Q' := by
  obtain ⟨ι, F, ς, G, R, S, d, G', e, q⟩ := h
  exact ⟨ι, F, ς, G, R, S, d, G', e, fun w' v x R' r => m _ _ (q w' v x R' r)⟩
end Mp
set_option Elab.async false
set_option linter.all false
set_option autoImplicit false
set_option maxRecDepth 100000
set_option maxHeartbeats 1000000
/-! Mp, part 2: operations on data, and that the model does them -/
namespace Mp
open PySem PySem.Spec L2
open PyProof.Rows hiding St

variable {K : PySem.W.Frag} {T : List Addr}

/-! ### readings of operations -/
def r1 (K : PySem.W.Frag) (T : List Addr) (g : D → Hs → Rs) : V → Hp → VK → Prop := fun x H Q =>
  ∃ ι F G dx, Rel K T ⟨ι, F, H⟩ G ∧ RV K ⟨ι, F, H⟩ dx x ∧ Lift K T ⟨ι, F, H⟩ (g dx G) Q
def r2 (K : PySem.W.Frag) (T : List Addr) (g : D → D → Hs → Rs) : R2 := fun x y H Q =>
  ∃ ι F G dx dy, Rel K T ⟨ι, F, H⟩ G ∧ RV K ⟨ι, F, H⟩ dx x ∧ RV K ⟨ι, F, H⟩ dy y ∧ Lift K T ⟨ι, F, H⟩ (g dx dy G) Q
def rn (K : PySem.W.Frag) (T : List Addr) (g : List D → Hs → Rs) : List V → Hp → VK → Prop := fun xs H Q =>
  ∃ ι F G ds, Rel K T ⟨ι, F, H⟩ G ∧ RVs K ⟨ι, F, H⟩ ds xs ∧ Lift K T ⟨ι, F, H⟩ (g ds G) Q
def rm (K : PySem.W.Frag) (T : List Addr) (g : D → List D → Hs → Rs) : V → List V → Hp → VK → Prop := fun x xs H Q =>
  ∃ ι F G d ds, Rel K T ⟨ι, F, H⟩ G ∧ RV K ⟨ι, F, H⟩ d x ∧ RVs K ⟨ι, F, H⟩ ds xs ∧ Lift K T ⟨ι, F, H⟩ (g d ds G) Q

/-- a result that is none is asked of nobody -/
theorem Lift.no {w : Wd} {Q : V → Hp → Prop} {P : Prop} (h : Lift K T w none Q) : P := by
  obtain ⟨_, _, e, _⟩ := h
  cases e
theorem Lift.ite {w : Wd} {c : Prop} [Decidable c] {r : Rs} {Q : V → Hp → Prop} (h : Lift K T w (if c then r else none) Q) : c ∧ Lift K T w r Q := by
  by_cases e : c
  · rw [if_pos e] at h; exact ⟨e, h⟩
  · rw [if_neg e] at h; exact h.no
theorem Lift.ofBind {α : Type} {w : Wd} {o : Option α} {f : α → Rs} {Q : V → Hp → Prop} (h : Lift K T w (o.bind f) Q) : ∃ a, o = some a ∧ Lift K T w (f a) Q := by
  cases o with
  | none => exact h.no
  | some a => exact ⟨a, rfl, h⟩

theorem rv_int {w : Wd} {i : Int} {v : V} (h : RV K w (.int i) v) : v = .int i := h
theorem rv_bl {w : Wd} {i : Bool} {v : V} (h : RV K w (.bl i) v) : v = .bl i := h
theorem rv_str {w : Wd} {i : List Nat} {v : V} (h : RV K w (.str i) v) : v = .str ⟨i.toArray⟩ := h

/-! ### reading sequences -/
def listOf (G : Hs) : D → Option (List D)
  | .lst ds => some ds
  | .ref n => match G[n]? with
    | some (.lst ds) => some ds
    | _ => none
  | _ => none
def roOf (G : Hs) : D → Option (List D)
  | .fz ds => some ds
  | d => listOf G d
def seqOf (G : Hs) : D → Option (List D)
  | .tup ds => some ds
  | d => roOf G d
theorem cell_at {w : Wd} {G : Hs} {n : Nat} {ds : List D} (R : Rel K T w G) {v : V} (r : RV K w (.ref n) v) (e : G[n]? = some (.lst ds)) :
    ∃ a vs, v = .ref a ∧ w.ι[n]? = some a ∧ ¬ w.F a ∧ w.H a = some (.lst vs) ∧ RVs K w ds vs := by
  obtain ⟨a, ev, ea⟩ := r
  obtain ⟨nf, vs, h1, h2⟩ := R.cell n _ a e ea
  exact ⟨a, vs, ev, ea, nf, h1, h2⟩
theorem listOf_at {w : Wd} {G : Hs} (R : Rel K T w G) {d : D} {v : V} (r : RV K w d v) {ds : List D} (e : listOf G d = some ds) :
    ∃ a vs, v = .ref a ∧ w.H a = some (.lst vs) ∧ RVs K w ds vs := by
  cases d with
  | lst xs =>
    cases e
    obtain ⟨a, vs, e1, h1, h2⟩ := r
    exact ⟨a, vs, e1, h1.2, h2⟩
  | ref n =>
    simp only [listOf] at e
    split at e
    · rename_i xs eg
      cases e
      obtain ⟨a, vs, e1, _, _, h1, h2⟩ := cell_at R r eg
      exact ⟨a, vs, e1, h1, h2⟩
    · cases e
  | non => cases e
  | bl _ => cases e
  | int _ => cases e
  | str _ => cases e
  | tup _ => cases e
  | fz _ => cases e
theorem roOf_at {w : Wd} {G : Hs} (R : Rel K T w G) {d : D} {v : V} (r : RV K w d v) {ds : List D} (e : roOf G d = some ds) :
    ∃ a vs, v = .ref a ∧ SqL K w.H a vs ∧ RVs K w ds vs := by
  by_cases h : ∃ xs, d = .fz xs
  · obtain ⟨xs, rfl⟩ := h
    cases e
    obtain ⟨a, vs, e1, h1, h2⟩ := r
    exact ⟨a, vs, e1, h1.sq, h2⟩
  · have e' : listOf G d = some ds := by
      cases d <;> first | exact e | exact absurd ⟨_, rfl⟩ h
    obtain ⟨a, vs, e1, h1, h2⟩ := listOf_at R r e'
    exact ⟨a, vs, e1, .of h1, h2⟩
theorem seqOf_at {w : Wd} {G : Hs} (R : Rel K T w G) {d : D} {v : V} (r : RV K w d v) {ds : List D} (e : seqOf G d = some ds) :
    ∃ a vs, v = .ref a ∧ (SqL K w.H a vs ∨ SqT K w.H a vs) ∧ RVs K w ds vs := by
  by_cases h : ∃ xs, d = .tup xs
  · obtain ⟨xs, rfl⟩ := h
    cases e
    obtain ⟨a, vs, e1, h1, h2⟩ := r
    exact ⟨a, vs, e1, .inr h1, h2⟩
  · have e' : roOf G d = some ds := by
      cases d <;> first | exact e | exact absurd ⟨_, rfl⟩ h
    obtain ⟨a, vs, e1, h1, h2⟩ := roOf_at R r e'
    exact ⟨a, vs, e1, .inl h1, h2⟩

/-! ### the results that are new -/
theorem Lift.newT {w : Wd} {G : Hs} {ds : List D} {vs : List V} {Q : V → Hp → Prop} (R : Rel K T w G) (h : Lift K T w (some (.tup ds, G)) Q) (r : RVs K w ds vs) : ∀ p, w.H p = none → Q (.ref p) (upd w.H p (.tup vs)) := by
  intro p hp
  have x : Ex2 K w ⟨w.ι, w.F, upd w.H p (.tup vs)⟩ := Ex2.newTup hp
  exact h.to x (R.newTup hp) ⟨p, vs, rfl, .of upd_same, r.ext x.toExt⟩
theorem Lift.newL {w : Wd} {G : Hs} {ds : List D} {vs : List V} {Q : V → Hp → Prop} (R : Rel K T w G) (h : Lift K T w (some (.lst ds, G)) Q) (r : RVs K w ds vs) : ∀ p, w.H p = none → Q (.ref p) (upd w.H p (.lst vs)) := by
  intro p hp
  have x : Ex2 K w ⟨w.ι, fun a => w.F a ∨ a = p, upd w.H p (.lst vs)⟩ := Ex2.newLst hp
  exact h.to x (R.fresh hp (fun _ z => .inl z) fun _ z => z) ⟨p, vs, rfl, ⟨.inr rfl, upd_same⟩, r.ext x.toExt⟩
theorem Lift.newC {w : Wd} {G : Hs} {ds : List D} {vs : List V} {Q : V → Hp → Prop} (R : Rel K T w G) (h : Lift K T w (some (.ref G.length, G ++ [.lst ds])) Q) (r : RVs K w ds vs) : ∀ p, w.H p = none → Q (.ref p) (upd w.H p (.lst vs)) := by
  intro p hp
  have x : Ex2 K w ⟨w.ι ++ [p], w.F, upd w.H p (.lst vs)⟩ := Ex2.cell hp
  refine h.to x (R.newCell hp fun nf => ⟨nf, vs, upd_same, r.ext x.toExt⟩) ⟨p, rfl, ?_⟩
  show (w.ι ++ [p])[G.length]? = some p
  rw [← R.len, List.getElem?_append_right (Nat.le_refl _), Nat.sub_self]; rfl

/-! ### binary operations -/
inductive Bop where
  | add | sub | mul | fdiv | mod | pow
def Bop.py : Bop → Operator
  | .add => .Add | .sub => .Sub | .mul => .Mult | .fdiv => .FloorDiv | .mod => .Mod | .pow => .Pow
def binD : Bop → D → D → Hs → Rs
  | .add, .int i, .int j, G => some (.int (i + j), G)
  | .add, .str a, .str b, G => if a.length + b.length ≤ sizeLine then some (.str (a ++ b), G) else none
  | .add, .tup a, .tup b, G => if a.length + b.length ≤ sizeLine then some (.tup (a ++ b), G) else none
  | .add, x, y, G => (listOf G x).bind fun a => (listOf G y).bind fun b => if a.length + b.length ≤ sizeLine then some (.lst (a ++ b), G) else none
  | .sub, .int i, .int j, G => some (.int (i - j), G)
  | .mul, .int i, .int j, G => if (-(2 ^ 64) < i ∧ i < 2 ^ 64) ∨ (-(2 ^ 64) < j ∧ j < 2 ^ 64) then some (.int (i * j), G) else none
  | .fdiv, .int i, .int j, G => if 0 < j ∧ j < 1073741824 then some (.int (i / j), G) else none
  | .mod, .int i, .int j, G => if 0 < j then some (.int (i % j), G) else none
  | .pow, .int i, .int j, G => if 0 ≤ j ∧ j ≤ 1000000 ∧ i.natAbs < 2 ^ 64 then some (.int (i ^ j.toNat), G) else none
  | _, _, _, _ => none
def catM (x y : D) (G : Hs) : Rs := (listOf G x).bind fun a => (listOf G y).bind fun b => if a.length + b.length ≤ sizeLine then some (.ref G.length, G ++ [.lst (a ++ b)]) else none

section
variable {X : Cx}
theorem toArr (a b : List Nat) : (⟨a.toArray⟩ : Str) ++ (⟨b.toArray⟩ : Str) = ⟨(a ++ b).toArray⟩ := by
  show (⟨a.toArray ++ b.toArray⟩ : Str) = _
  simp
theorem strLen (a : List Nat) : (⟨a.toArray⟩ : Str).length = a.length := by simp [Str.length]

theorem add_ll {w : Wd} {G : Hs} {dx dy : D} {x y : V} {u v : Value} {pins : List (Addr × Obj)} {s : Shared} {σ : L2.St} {Q : VK} (I : Inv X pins σ w.H s) (R : Rel X.K T w G) (rx : RV X.K w dx x) (ry : RV X.K w dy y) (rv : RelV x v) (ru : RelV y u)
    (h : Lift X.K T w ((listOf G dx).bind fun a => (listOf G dy).bind fun b => if a.length + b.length ≤ sizeLine then some (.lst (a ++ b), G) else none) Q) :
    wpAny (model X.prog X.w) X.A (binaryOp .Add v u) (EP X pins σ Q) X.xe s := by
  obtain ⟨a, ea, h⟩ := h.ofBind
  obtain ⟨b, eb, h⟩ := h.ofBind
  obtain ⟨hl, h⟩ := h.ite
  obtain ⟨p, vs, rfl, h1, q1⟩ := listOf_at R rx ea
  obtain ⟨p', vs', rfl, h2, q2⟩ := listOf_at R ry eb
  refine op_cat pins s σ w.H _ _ v u Q I rv ru ⟨p, p', vs, vs', rfl, rfl, h1, h2, by rw [← q1.len, ← q2.len]; exact hl, ?_⟩
  exact h.newL R (q1.append q2)
theorem op_bin (o : Bop) : OpR X (binaryOp o.py) (r2 X.K T (binD o)) := by
  intro pins s σ H x y v u Q I rv ru h
  obtain ⟨ι, F, G, dx, dy, R, rx, ry, h⟩ := h
  cases o with
  | add =>
    by_cases c : (∃ i j, dx = .int i ∧ dy = .int j) ∨ (∃ a b, dx = .str a ∧ dy = .str b) ∨ ∃ a b, dx = .tup a ∧ dy = .tup b
    · rcases c with ⟨i, j, rfl, rfl⟩ | ⟨a, b, rfl, rfl⟩ | ⟨a, b, rfl, rfl⟩
      · exact op_add pins s σ H x y v u Q I rv ru ⟨i, j, rx, ry, h.now R rfl⟩
      · obtain ⟨hl, h⟩ := h.ite
        refine op_add_str pins s σ H x y v u Q I rv ru ⟨_, _, rx, ry, by rw [strLen, strLen]; exact hl, ?_⟩
        rw [toArr]
        exact h.now R rfl
      · obtain ⟨hl, h⟩ := h.ite
        obtain ⟨p, vs, rfl, h1, q1⟩ := rx
        obtain ⟨p', vs', rfl, h2, q2⟩ := ry
        have l1 := q1.len
        have l2 := q2.len
        refine op_catA pins s σ H _ _ v u Q I rv ru ⟨p, p', vs, vs', rfl, rfl, h1, h2, by rw [← l1, ← l2]; exact hl, fun z => ?_, fun _ z => ?_, fun _ z => ?_⟩
        · have ea : a = [] := by rw [z] at l1; exact List.length_eq_zero_iff.mp l1
          subst ea
          rw [List.nil_append] at h
          exact h.now R ⟨p', vs', rfl, h2, q2⟩
        · have eb : b = [] := by rw [z] at l2; exact List.length_eq_zero_iff.mp l2
          subst eb
          rw [List.append_nil] at h
          exact h.now R ⟨p, vs, rfl, h1, q1⟩
        · exact h.newT R (q1.append q2)
    · have h' : Lift X.K T ⟨ι, F, H⟩ ((listOf G dx).bind fun a => (listOf G dy).bind fun b => if a.length + b.length ≤ sizeLine then some (.lst (a ++ b), G) else none) Q := by
        cases dx <;> cases dy <;> first | exact h | exact absurd (.inl ⟨_, _, rfl, rfl⟩) c | exact absurd (.inr (.inl ⟨_, _, rfl, rfl⟩)) c | exact absurd (.inr (.inr ⟨_, _, rfl, rfl⟩)) c
      exact add_ll (w := ⟨ι, F, H⟩) I R rx ry rv ru h'
  | sub =>
    cases dx <;> first | exact h.no | skip
    cases dy <;> first | exact h.no | skip
    exact op_sub pins s σ H x y v u Q I rv ru ⟨_, _, rx, ry, h.now R rfl⟩
  | mul =>
    cases dx <;> first | exact h.no | skip
    cases dy <;> first | exact h.no | skip
    obtain ⟨hc, h⟩ := h.ite
    exact op_mul pins s σ H x y v u Q I rv ru ⟨_, _, rx, ry, hc, h.now R rfl⟩
  | fdiv =>
    cases dx <;> first | exact h.no | skip
    cases dy <;> first | exact h.no | skip
    obtain ⟨hc, h⟩ := h.ite
    exact op_fdiv pins s σ H x y v u Q I rv ru ⟨_, _, rx, ry, hc, h.now R rfl⟩
  | mod =>
    cases dx <;> first | exact h.no | skip
    cases dy <;> first | exact h.no | skip
    obtain ⟨hc, h⟩ := h.ite
    exact op_mod pins s σ H x y v u Q I rv ru ⟨_, _, rx, ry, hc, h.now R rfl⟩
  | pow =>
    cases dx <;> first | exact h.no | skip
    cases dy <;> first | exact h.no | skip
    obtain ⟨hc, h⟩ := h.ite
    exact op_pow pins s σ H x y v u Q I rv ru ⟨_, _, rx, ry, hc, h.now R rfl⟩
theorem op_catM : OpR X (binaryOp .Add) (r2 X.K T catM) := by
  intro pins s σ H x y v u Q I rv ru h
  obtain ⟨ι, F, G, dx, dy, R, rx, ry, h⟩ := h
  obtain ⟨a, ea, h⟩ := h.ofBind
  obtain ⟨b, eb, h⟩ := h.ofBind
  obtain ⟨hl, h⟩ := h.ite
  obtain ⟨p, vs, rfl, h1, q1⟩ := listOf_at R rx ea
  obtain ⟨p', vs', rfl, h2, q2⟩ := listOf_at R ry eb
  refine op_cat pins s σ H _ _ v u Q I rv ru ⟨p, p', vs, vs', rfl, rfl, h1, h2, by rw [← q1.len, ← q2.len]; exact hl, ?_⟩
  exact h.newC R (q1.append q2)
theorem un_negD : UnR X (unaryOp .USub) (r1 X.K T fun d G => match d with | .int i => some (.int (-i), G) | _ => none) := by
  intro pins s σ H x v Q I rv h
  obtain ⟨ι, F, G, dx, R, rx, h⟩ := h
  cases dx <;> first | exact h.no | skip
  exact un_neg pins s σ H x v Q I rv ⟨_, rx, h.now R rfl⟩
end
end Mp
set_option Elab.async false
set_option linter.all false
set_option autoImplicit false
set_option maxRecDepth 100000
set_option maxHeartbeats 1000000
/-! Mp, part 3: comparisons -/
namespace Mp
open PySem PySem.Spec L2
open PyProof.Rows hiding St

variable {K : PySem.W.Frag} {T : List Addr}

mutual
def eqD : D → D → Bool
  | .non, .non => true
  | .bl a, .bl b => a == b
  | .bl a, .int j => (if a then 1 else 0) == j
  | .int i, .bl b => i == (if b then 1 else 0)
  | .int i, .int j => i == j
  | .str a, .str b => a == b
  | .tup a, .tup b => eqDs a b
  | .lst a, .lst b => eqDs a b
  | _, _ => false
def eqDs : List D → List D → Bool
  | [], [] => true
  | a :: r, b :: t => eqD a b && eqDs r t
  | _, _ => false
end
mutual
/-- no thing that may change within, texts of sound codes -/
def okD : D → Bool
  | .str cs => cs.all (· < 0x110000)
  | .tup ds => okDs ds
  | .lst ds => okDs ds
  | .fz _ => false
  | .ref _ => false
  | _ => true
def okDs : List D → Bool
  | [] => true
  | d :: r => okD d && okDs r
end
mutual
def depD : D → Nat
  | .tup ds => depDs ds + 1
  | .lst ds => depDs ds + 1
  | _ => 0
def depDs : List D → Nat
  | [] => 0
  | d :: r => max (depD d) (depDs r)
end
mutual
def toP : D → PyData
  | .non => .none
  | .bl b => .bool b
  | .int i => .int i
  | .str cs => .str ⟨cs.toArray⟩
  | .tup ds => .tuple (toPs ds)
  | .lst ds => .list (toPs ds)
  | .fz _ => .none
  | .ref _ => .none
def toPs : List D → List PyData
  | [] => []
  | d :: r => toP d :: toPs r
end
mutual
theorem toP_lay : ∀ d : D, okD d = true → (toP d).canLay0 = true
  | .non, _ => by simp [toP, PyData.canLay0]
  | .bl _, _ => by simp [toP, PyData.canLay0]
  | .int _, _ => by simp [toP, PyData.canLay0]
  | .str cs, h => by
    simp only [okD] at h
    simp only [toP, PyData.canLay0, PyData.strOk]
    simpa using h
  | .tup ds, h => by simp only [okD] at h; simp only [toP, PyData.canLay0]; exact toPs_lay ds h
  | .lst ds, h => by simp only [okD] at h; simp only [toP, PyData.canLay0]; exact toPs_lay ds h
  | .fz _, h => by simp [okD] at h
  | .ref _, h => by simp [okD] at h
theorem toPs_lay : ∀ ds : List D, okDs ds = true → PyData.canLayAll0 (toPs ds) = true
  | [], _ => by simp [toPs, PyData.canLayAll0]
  | d :: r, h => by
    simp only [okDs, Bool.and_eq_true] at h
    simp only [toPs, PyData.canLayAll0, toP_lay d h.1, toPs_lay r h.2, Bool.and_true]
end
mutual
theorem toP_dep : ∀ d : D, (toP d).depth = depD d
  | .non => by simp [toP, PyData.depth, depD]
  | .bl _ => by simp [toP, PyData.depth, depD]
  | .int _ => by simp [toP, PyData.depth, depD]
  | .str _ => by simp [toP, PyData.depth, depD]
  | .tup ds => by simp only [toP, PyData.depth, depD, toPs_dep ds]
  | .lst ds => by simp only [toP, PyData.depth, depD, toPs_dep ds]
  | .fz _ => by simp [toP, PyData.depth, depD]
  | .ref _ => by simp [toP, PyData.depth, depD]
theorem toPs_dep : ∀ ds : List D, PyData.depthAll (toPs ds) = depDs ds
  | [] => by simp [toPs, PyData.depthAll, depDs]
  | d :: r => by simp only [toPs, PyData.depthAll, depDs, toP_dep d, toPs_dep r]
end
mutual
theorem eqD_eqv : ∀ a b : D, okD a = true → okD b = true → PyData.eqv (toP a) (toP b) = eqD a b
  | .non, b, _, hb => by cases b <;> simp_all [okD, toP, PyData.eqv, eqD]
  | .bl x, b, _, hb => by cases b <;> simp_all [okD, toP, PyData.eqv, eqD]
  | .int x, b, _, hb => by cases b <;> simp_all [okD, toP, PyData.eqv, eqD]
  | .str x, b, _, hb => by
    cases b <;> first | (simp [okD] at hb; done) | (simp only [toP, PyData.eqv, eqD]; done) | skip
    rename_i y
    simp only [toP, PyData.eqv, eqD]
    by_cases e : x = y
    · subst e; simp
    · have e' : (⟨x.toArray⟩ : Str) ≠ ⟨y.toArray⟩ := fun z => e (by injection z with z; simpa using z)
      rw [beq_eq_false_iff_ne.mpr e, beq_eq_false_iff_ne.mpr e']
  | .tup x, b, ha, hb => by
    cases b <;> first | (simp [okD] at hb; done) | (simp only [toP, PyData.eqv, eqD]; done) | skip
    simp only [okD] at ha hb
    simp only [toP, PyData.eqv, eqD]
    exact eqDs_eqv x _ ha hb
  | .lst x, b, ha, hb => by
    cases b <;> first | (simp [okD] at hb; done) | (simp only [toP, PyData.eqv, eqD]; done) | skip
    simp only [okD] at ha hb
    simp only [toP, PyData.eqv, eqD]
    exact eqDs_eqv x _ ha hb
  | .fz _, _, ha, _ => by simp [okD] at ha
  | .ref _, _, ha, _ => by simp [okD] at ha
theorem eqDs_eqv : ∀ a b : List D, okDs a = true → okDs b = true → PyData.eqvAll (toPs a) (toPs b) = eqDs a b
  | [], [], _, _ => by simp [toPs, PyData.eqvAll, eqDs]
  | [], _ :: _, _, _ => by simp [toPs, PyData.eqvAll, eqDs]
  | _ :: _, [], _, _ => by simp [toPs, PyData.eqvAll, eqDs]
  | a :: r, b :: t, ha, hb => by
    simp only [okDs, Bool.and_eq_true] at ha hb
    simp only [toPs, PyData.eqvAll, eqDs, eqD_eqv a b ha.1 hb.1, eqDs_eqv r t ha.2 hb.2]
end
theorem anyD_eqv (x : D) (hx : okD x = true) : ∀ ds : List D, okDs ds = true → (toPs ds).any (fun z => PyData.eqv z (toP x)) = ds.any fun z => eqD z x
  | [], _ => by simp [toPs]
  | d :: r, h => by
    simp only [okDs, Bool.and_eq_true] at h
    simp only [toPs, List.any_cons, eqD_eqv d x h.1 hx, anyD_eqv x hx r h.2]
mutual
theorem dpD {w : Wd} : ∀ (d : D) (v : V), okD d = true → RV K w d v → Dp K w.H v (toP d)
  | .non, _, _, r => by rw [show _ = V.non from r]; exact .non
  | .bl b, _, _, r => by rw [show _ = V.bl b from r]; exact .bl b
  | .int i, _, _, r => by rw [show _ = V.int i from r]; exact .int i
  | .str cs, _, _, r => by rw [show _ = V.str ⟨cs.toArray⟩ from r]; exact .str _
  | .tup ds, _, h, r => by
    simp only [okD] at h
    obtain ⟨a, vs, rfl, h1, h2⟩ := r
    exact .tup h1 (dpDs ds vs h h2)
  | .lst ds, _, h, r => by
    simp only [okD] at h
    obtain ⟨a, vs, rfl, h1, h2⟩ := r
    exact .lst h1.sq (dpDs ds vs h h2)
  | .fz _, _, h, _ => by simp [okD] at h
  | .ref _, _, h, _ => by simp [okD] at h
theorem dpDs {w : Wd} : ∀ (ds : List D) (vs : List V), okDs ds = true → RVs K w ds vs → DpAll K w.H vs (toPs ds)
  | [], _, _, r => by cases r; exact .nil
  | d :: ds, _, h, r => by
    simp only [okDs, Bool.and_eq_true] at h
    obtain ⟨v, t, rfl, h1, h2⟩ := r
    exact .cons (dpD d v h.1 h1) (dpDs ds t h.2 h2)
end
/-- a list that may change, as it stands now -/
def deref (G : Hs) (d : D) : D := match d with
  | .ref n => match G[n]? with
    | some (.lst ds) => .lst ds
    | _ => d
  | _ => d
theorem dp_deref {w : Wd} {G : Hs} (R : Rel K T w G) {d : D} {v : V} (r : RV K w d v) (h : okD (deref G d) = true) : Dp K w.H v (toP (deref G d)) := by
  by_cases c : ∃ n ds, d = .ref n ∧ G[n]? = some (.lst ds)
  · obtain ⟨n, ds, rfl, e⟩ := c
    have ed : deref G (.ref n) = .lst ds := by simp only [deref, e]
    rw [ed] at h ⊢
    simp only [okD] at h
    obtain ⟨a, vs, rfl, _, _, h1, h2⟩ := cell_at R r e
    exact .lst (.of h1) (dpDs ds vs h h2)
  · have ed : deref G d = d := by
      cases d <;> first | rfl | skip
      rename_i n
      simp only [deref]
      split
      · rename_i ds e
        exact absurd ⟨n, ds, rfl, e⟩ c
      · rfl
    rw [ed] at h ⊢
    exact dpD d v h r

def okC (d : D) : Bool := okD d && decide (depD d ≤ 64)
theorem okC_shaped {d : D} (h : okC d = true) : okD d = true ∧ SeqAt.shaped (toP d) = true := by
  unfold okC at h
  rw [Bool.and_eq_true, decide_eq_true_eq] at h
  refine ⟨h.1, ?_⟩
  unfold SeqAt.shaped
  rw [Bool.and_eq_true, decide_eq_true_eq]
  exact ⟨toP_lay d h.1, by rw [toP_dep]; exact h.2⟩

inductive Cop where
  | eq | ne | lt | le | gt | ge | in_ | nin | is_ | isn
def Cop.py : Cop → CmpOp
  | .eq => .Eq | .ne => .NotEq | .lt => .Lt | .le => .LtE | .gt => .Gt | .ge => .GtE | .in_ => .In | .nin => .NotIn | .is_ => .Is | .isn => .IsNot
def eqC (x y : D) (G : Hs) : Option Bool := match x, y with
  | .str a, .str b => some (a == b)
  | .int a, .int b => some (a == b)
  | x, y => if okC (deref G x) ∧ okC (deref G y) then some (eqD (deref G x) (deref G y)) else none
def keyD : D → Option Key
  | .int i => some (.inl i)
  | .str cs => some (.inr ⟨cs.toArray⟩)
  | _ => none
def dlook (kvs : List (Key × D)) (k : Key) : Option D := (kvs.find? fun kv => decide (kv.1 = k)).map (·.2)
def inC (x y : D) (G : Hs) : Option Bool := match y with
  | .str cs => match x with
    | .str [c] => some (decide (c ∈ cs))
    | _ => none
  | .ref n => match G[n]? with
    | some (.dct kvs) => (keyD x).map fun k => (dlook kvs k).isSome
    | some (.lst ds) => if okC x ∧ okC (.lst ds) then some (ds.any fun z => eqD z x) else none
    | _ => none
  | .tup ds => if okC x ∧ okC (.tup ds) then some (ds.any fun z => eqD z x) else none
  | .lst ds => if okC x ∧ okC (.lst ds) then some (ds.any fun z => eqD z x) else none
  | _ => none
def isC : D → D → Option Bool
  | .non, .non => some true
  | .bl a, .bl b => some (a == b)
  | .ref _, .non => some false
  | .tup _, .non => some false
  | .lst _, .non => some false
  | .fz _, .non => some false
  | .int _, .non => some false
  | .str _, .non => some false
  | .bl _, .non => some false
  | .non, .bl _ => some false
  | .tup _, .bl _ => some false
  | _, _ => none
def cmpB : Cop → D → D → Hs → Option Bool
  | .eq, x, y, G => eqC x y G
  | .ne, x, y, G => (eqC x y G).map (!·)
  | .lt, .int i, .int j, _ => some (decide (i < j))
  | .le, .int i, .int j, _ => some (decide (i ≤ j))
  | .gt, .int i, .int j, _ => some (decide (j < i))
  | .ge, .int i, .int j, _ => some (decide (j ≤ i))
  | .lt, .str i, .str j, _ => some (decide (i < j))
  | .le, .str i, .str j, _ => some (!decide (j < i))
  | .in_, x, y, G => inC x y G
  | .nin, x, y, G => (inC x y G).map (!·)
  | .is_, x, y, _ => isC x y
  | .isn, x, y, _ => (isC x y).map (!·)
  | _, _, _, _ => none
def cmpD (o : Cop) (x y : D) (G : Hs) : Rs := (cmpB o x y G).map fun b => (.bl b, G)

theorem Lift.cmp {w : Wd} {o : Cop} {x y : D} {G : Hs} {Q : V → Hp → Prop} (R : Rel K T w G) (h : Lift K T w (cmpD o x y G) Q) : ∃ b, cmpB o x y G = some b ∧ Q (.bl b) w.H := by
  unfold cmpD at h
  cases e : cmpB o x y G with
  | none => rw [e] at h; exact h.no
  | some b => rw [e] at h; exact ⟨b, rfl, h.now R rfl⟩
end Mp
set_option Elab.async false
set_option linter.all false
set_option autoImplicit false
set_option maxRecDepth 100000
set_option maxHeartbeats 1000000
/-! Mp, part 3b: the model compares so -/
namespace Mp
open PySem PySem.Spec L2
open PyProof.Rows hiding St

variable {K : PySem.W.Frag} {T : List Addr}

theorem dlook_at {w : Wd} {kvs : List (Key × D)} {us : List (Key × V)} (r : RKs K w kvs us) (k : Key) :
    (∀ d, dlook kvs k = some d → ∃ v, valV us k = some v ∧ RV K w d v) ∧ (dlook kvs k = none → valV us k = none) := by
  unfold RKs at r
  induction r with
  | nil => exact ⟨fun d e => by simp [dlook] at e, fun _ => rfl⟩
  | @cons p q ps qs h t ih =>
    obtain ⟨e1, e2⟩ := h
    by_cases e : p.1 = k
    · have e' : q.1 = k := by rw [← e1]; exact e
      have x1 : dlook (p :: ps) k = some p.2 := by simp [dlook, List.find?_cons, e]
      have x2 : valV (q :: qs) k = some q.2 := valV_pos e'
      rw [x1, x2]
      exact ⟨fun d h => by cases h; exact ⟨_, rfl, e2⟩, fun h => by cases h⟩
    · have e' : ¬ q.1 = k := by rw [← e1]; exact e
      have x1 : dlook (p :: ps) k = dlook ps k := by simp [dlook, List.find?_cons, e]
      have x2 : valV (q :: qs) k = valV qs k := valV_neg e'
      rw [x1, x2]
      exact ih
theorem dlook_isSome {w : Wd} {kvs : List (Key × D)} {us : List (Key × V)} (r : RKs K w kvs us) (k : Key) : (valV us k).isSome = (dlook kvs k).isSome := by
  obtain ⟨h1, h2⟩ := dlook_at r k
  cases e : dlook kvs k with
  | none => rw [h2 e]; rfl
  | some d => obtain ⟨v, e1, _⟩ := h1 d e; rw [e1]; rfl
theorem dct_at {w : Wd} {G : Hs} {n : Nat} {kvs : List (Key × D)} (R : Rel K T w G) {v : V} (r : RV K w (.ref n) v) (e : G[n]? = some (.dct kvs)) :
    ∃ a us, v = .ref a ∧ w.ι[n]? = some a ∧ ¬ w.F a ∧ w.H a = some (.dK us) ∧ RKs K w kvs us := by
  obtain ⟨a, ev, ea⟩ := r
  obtain ⟨nf, us, h1, h2⟩ := R.cell n _ a e ea
  exact ⟨a, us, ev, ea, nf, h1, h2⟩
theorem keyD_kV {w : Wd} {d : D} {v : V} {k : Key} (h : keyD d = some k) (r : RV K w d v) : v = kV k := by
  cases d <;> first | (cases h; done) | skip
  · cases h; exact r
  · cases h; exact r

section
variable {X : Cx}

theorem eqC_spec {w : Wd} {G : Hs} {dx dy : D} {x y : V} {b : Bool} (R : Rel K T w G) (rx : RV K w dx x) (ry : RV K w dy y) (h : eqC dx dy G = some b) :
    (scal x y = true ∧ decide (x = y) = b) ∨ ∃ d e, Dp K w.H x d ∧ Dp K w.H y e ∧ SeqAt.shaped d = true ∧ SeqAt.shaped e = true ∧ PyData.eqv d e = b := by
  have gen : (if okC (deref G dx) ∧ okC (deref G dy) then some (eqD (deref G dx) (deref G dy)) else none) = some b →
      (scal x y = true ∧ decide (x = y) = b) ∨ ∃ d e, Dp K w.H x d ∧ Dp K w.H y e ∧ SeqAt.shaped d = true ∧ SeqAt.shaped e = true ∧ PyData.eqv d e = b := by
    intro h
    split at h
    · rename_i c
      cases h
      obtain ⟨o1, s1⟩ := okC_shaped c.1
      obtain ⟨o2, s2⟩ := okC_shaped c.2
      exact .inr ⟨_, _, dp_deref R rx o1, dp_deref R ry o2, s1, s2, eqD_eqv _ _ o1 o2⟩
    · cases h
  by_cases c : ∃ a b, dx = .str a ∧ dy = .str b
  · obtain ⟨a, b', rfl, rfl⟩ := c
    have h : some (a == b') = some b := h
    cases h
    rw [show x = _ from rx, show y = _ from ry]
    refine .inl ⟨rfl, ?_⟩
    by_cases e : a = b'
    · subst e; simp
    · have e' : (V.str ⟨a.toArray⟩) ≠ V.str ⟨b'.toArray⟩ := fun z => e (by injection z with z; injection z with z; simpa using z)
      rw [decide_eq_false e', beq_eq_false_iff_ne.mpr e]
  · by_cases c2 : ∃ i j, dx = .int i ∧ dy = .int j
    · obtain ⟨i, j, rfl, rfl⟩ := c2
      have h : some (i == j) = some b := h
      cases h
      rw [show x = _ from rx, show y = _ from ry]
      exact .inl ⟨rfl, dec_int⟩
    · refine gen ?_
      cases dx <;> cases dy <;> first | exact h | exact absurd ⟨_, _, rfl, rfl⟩ c | exact absurd ⟨_, _, rfl, rfl⟩ c2

theorem op_eqC (hu : X.A.units + 65 < cLine) : OpR X (compareOp .Eq) (r2 X.K T (cmpD .eq)) := by
  intro pins s σ H x y v u Q I rv ru h
  obtain ⟨ι, F, G, dx, dy, R, rx, ry, h⟩ := h
  obtain ⟨b, e, q⟩ := h.cmp R
  rcases eqC_spec R rx ry e with ⟨s1, s2⟩ | ⟨d, e, h1, h2, h3, h4, h5⟩
  · exact op_eq pins s σ H x y v u Q I rv ru ⟨s1, by rw [s2]; exact q⟩
  · exact op_eqD (Nat.lt_of_succ_lt hu) pins s σ H x y v u Q I rv ru ⟨d, e, h1, h2, h3, h4, by rw [h5]; exact q⟩
theorem op_neC (hu : X.A.units + 65 < cLine) : OpR X (compareOp .NotEq) (r2 X.K T (cmpD .ne)) := by
  intro pins s σ H x y v u Q I rv ru h
  obtain ⟨ι, F, G, dx, dy, R, rx, ry, h⟩ := h
  obtain ⟨b, e, q⟩ := h.cmp R
  obtain ⟨b', e', rfl⟩ := Option.map_eq_some_iff.mp e
  rcases eqC_spec R rx ry e' with ⟨s1, s2⟩ | ⟨d, e, h1, h2, h3, h4, h5⟩
  · exact op_ne pins s σ H x y v u Q I rv ru ⟨s1, by rw [s2]; exact q⟩
  · exact op_neD (Nat.lt_of_succ_lt hu) pins s σ H x y v u Q I rv ru ⟨d, e, h1, h2, h3, h4, by rw [h5]; exact q⟩

/-- in, not in -/
theorem op_inC (hu : X.A.units + 65 < cLine) (neg : Bool) {pins : List (Addr × Obj)} {s : Shared} {σ : L2.St} {w : Wd} {G : Hs} {dx dy : D} {x y : V} {v u : Value} {Q : VK} {b : Bool} (I : Inv X pins σ w.H s) (R : Rel X.K T w G)
    (rx : RV X.K w dx x) (ry : RV X.K w dy y) (rv : RelV x v) (ru : RelV y u) (h : inC dx dy G = some b) (q : Q (.bl (if neg then !b else b)) w.H) :
    wpAny (model X.prog X.w) X.A (compareOp (if neg then .NotIn else .In) v u) (EP X pins σ Q) X.xe s := by
  -- data
  have ind : ∀ ds : List D, okC dx = true → okC (.lst ds) = true → (∃ as, Reads s.heap u (.list (toPs ds)) as) ∨ (∃ as, Reads s.heap u (.tuple (toPs ds)) as) → (ds.any fun z => eqD z dx) = b →
      wpAny (model X.prog X.w) X.A (compareOp (if neg then .NotIn else .In) v u) (EP X pins σ Q) X.xe s := by
    intro ds o1 o2 hr e
    obtain ⟨k1, s1⟩ := okC_shaped o1
    obtain ⟨k2, s2⟩ := okC_shaped o2
    simp only [okD] at k2
    obtain ⟨as1, r1⟩ := Dp.reads I _ x v (dpD dx x k1 rx) rv
    have e' : ((toPs ds).any fun z => PyData.eqv z (toP dx)) = b := by rw [anyD_eqv dx k1 ds k2]; exact e
    cases neg with
    | false =>
      rcases hr with ⟨as2, r2⟩ | ⟨as2, r2⟩
      · exact SeqAt.in_list_reads r2 r1 (toPs_lay ds k2) (toP_lay dx k1) (room_in_shaped s1 hu) ⟨.bl _, w.H, I, rfl, by rw [e']; exact q⟩
      · exact SeqAt.in_tuple_reads r2 r1 (toPs_lay ds k2) (toP_lay dx k1) (room_in_shaped s1 hu) ⟨.bl _, w.H, I, rfl, by rw [e']; exact q⟩
    | true =>
      rcases hr with ⟨as2, r2⟩ | ⟨as2, r2⟩
      · exact SeqAt.notIn_list_reads r2 r1 (toPs_lay ds k2) (toP_lay dx k1) (room_in_shaped s1 hu) ⟨.bl _, w.H, I, rfl, by rw [e']; exact q⟩
      · exact SeqAt.notIn_tuple_reads r2 r1 (toPs_lay ds k2) (toP_lay dx k1) (room_in_shaped s1 hu) ⟨.bl _, w.H, I, rfl, by rw [e']; exact q⟩
  have okL : ∀ ds : List D, okC (.tup ds) = okC (.lst ds) := fun ds => by
    show (okD (.tup ds) && decide (depD (.tup ds) ≤ 64)) = (okD (.lst ds) && decide (depD (.lst ds) ≤ 64))
    have e1 : okD (.tup ds) = okD (.lst ds) := by simp only [okD]
    have e2 : depD (.tup ds) = depD (.lst ds) := by simp only [depD]
    rw [e1, e2]
  cases dy with
  | str cs =>
    cases dx <;> first | (cases h; done) | skip
    rename_i xs
    obtain ⟨c, rfl⟩ : ∃ c, xs = [c] := by
      cases xs with
      | nil => cases h
      | cons c r => cases r with
        | nil => exact ⟨c, rfl⟩
        | cons _ _ => cases h
    have h : some (decide (c ∈ cs)) = some b := h
    cases h
    rw [show x = _ from rx] at rv
    rw [show y = _ from ry] at ru
    cases neg with
    | false => exact op_in_sign pins s σ w.H _ _ v u Q I rv ru ⟨c, ⟨cs.toArray⟩, rfl, rfl, by simpa using q⟩
    | true => exact op_notIn_sign pins s σ w.H _ _ v u Q I rv ru ⟨c, ⟨cs.toArray⟩, rfl, rfl, by simpa using q⟩
  | ref n =>
    simp only [inC] at h
    split at h
    · rename_i kvs eg
      obtain ⟨k, ek, rfl⟩ := Option.map_eq_some_iff.mp h
      obtain ⟨a, us, rfl, _, _, ha, hr⟩ := dct_at R ry eg
      cases (show u = Value.ref a from ru)
      have g : DGet w.H a x (valV us k) := by rw [keyD_kV ek rx]; exact DGet.k ha
      have hu1 : X.A.units + 1 < cLine := Nat.lt_of_le_of_lt (by omega) hu
      rw [← dlook_isSome hr k] at q
      cases neg with
      | false => exact d_in hu1 I g rv fun s' I' => ⟨.bl _, w.H, I', rfl, q⟩
      | true => exact d_notIn hu1 I g rv fun s' I' => ⟨.bl _, w.H, I', rfl, q⟩
    · rename_i ds eg
      split at h
      · rename_i c
        cases h
        have k2 : okDs ds = true := by have := (okC_shaped c.2).1; simpa only [okD] using this
        obtain ⟨a, vs, rfl, _, _, h1, h2⟩ := cell_at R ry eg
        exact ind ds c.1 c.2 (.inl (Dp.reads I _ _ u (.lst (.of h1) (dpDs ds vs k2 h2)) ru)) rfl
      · cases h
    · cases h
  | tup ds =>
    simp only [inC] at h
    split at h
    · rename_i c
      cases h
      obtain ⟨k2, _⟩ := okC_shaped c.2
      exact ind ds c.1 (by rw [← okL]; exact c.2) (.inr (Dp.reads I _ y u (dpD (.tup ds) y k2 ry) ru)) rfl
    · cases h
  | lst ds =>
    simp only [inC] at h
    split at h
    · rename_i c
      cases h
      obtain ⟨k2, _⟩ := okC_shaped c.2
      exact ind ds c.1 c.2 (.inl (Dp.reads I _ y u (dpD (.lst ds) y k2 ry) ru)) rfl
    · cases h
  | non => cases h
  | bl _ => cases h
  | int _ => cases h
  | fz _ => cases h

theorem op_isC (neg : Bool) {pins : List (Addr × Obj)} {s : Shared} {σ : L2.St} {w : Wd} {G : Hs} {dx dy : D} {x y : V} {v u : Value} {Q : VK} {b : Bool} (I : Inv X pins σ w.H s) (R : Rel X.K T w G)
    (rx : RV X.K w dx x) (ry : RV X.K w dy y) (rv : RelV x v) (ru : RelV y u) (h : isC dx dy = some b) (q : Q (.bl (if neg then !b else b)) w.H) :
    wpAny (model X.prog X.w) X.A (compareOp (if neg then .IsNot else .Is) v u) (EP X pins σ Q) X.xe s := by
  have toN : dy = .non → decide (x = .non) = b → wpAny (model X.prog X.w) X.A (compareOp (if neg then .IsNot else .Is) v u) (EP X pins σ Q) X.xe s := by
    intro e1 e2
    subst e1
    have ey : y = V.non := ry
    cases neg with
    | false => exact op_isN pins s σ w.H x y v u Q I rv ru ⟨ey, by rw [e2]; exact q⟩
    | true => exact op_notN pins s σ w.H x y v u Q I rv ru ⟨ey, by rw [e2]; exact q⟩
  have other : ∀ c, dy = .bl c → b = false → (∀ c', v ≠ .bool c') → plainIs v (.bool c) = true → wpAny (model X.prog X.w) X.A (compareOp (if neg then .IsNot else .Is) v u) (EP X pins σ Q) X.xe s := by
    intro c e1 e2 e3 e4
    subst e1 e2
    have ey : y = V.bl c := ry
    subst ey
    cases (show u = Value.bool c from ru)
    cases neg with
    | false => exact wpAny_is_other e4 (e3 c) ⟨.bl _, w.H, I, rfl, q⟩
    | true => exact wpAny_isNot_other e4 (e3 c) ⟨.bl _, w.H, I, rfl, q⟩
  cases dy with
  | non =>
    refine toN rfl ?_
    cases dx <;> cases h
    · rw [show x = _ from rx]; rfl
    · rw [show x = _ from rx]; rfl
    · rw [show x = _ from rx]; rfl
    · rw [show x = _ from rx]; rfl
    · obtain ⟨a, vs, rfl, _⟩ := rx; rfl
    · obtain ⟨a, vs, rfl, _⟩ := rx; rfl
    · obtain ⟨a, vs, rfl, _⟩ := rx; rfl
    · obtain ⟨a, rfl, _⟩ := rx; rfl
  | bl c =>
    cases dx <;> cases h
    · have ex : x = V.non := rx
      subst ex
      cases (show v = Value.none from rv)
      exact other c rfl rfl (fun _ z => by cases z) rfl
    · rename_i a
      have ex : x = V.bl a := rx
      have ey : y = V.bl c := ry
      subst ex ey
      have e : decide (a = c) = (a == c) := by cases a <;> cases c <;> rfl
      cases neg with
      | false => exact op_is_bl pins s σ w.H _ _ v u Q I rv ru ⟨a, c, rfl, rfl, by rw [e]; exact q⟩
      | true => exact op_isnot_bl pins s σ w.H _ _ v u Q I rv ru ⟨a, c, rfl, rfl, by rw [e]; exact q⟩
    · obtain ⟨p, vs, rfl, _⟩ := rx
      cases (show v = Value.ref p from rv)
      exact other c rfl rfl (fun _ z => by cases z) rfl
  | int _ => cases dx <;> cases h
  | str _ => cases dx <;> cases h
  | tup _ => cases dx <;> cases h
  | lst _ => cases dx <;> cases h
  | fz _ => cases dx <;> cases h
  | ref _ => cases dx <;> cases h

theorem op_cmp (hu : X.A.units + 65 < cLine) (o : Cop) : OpR X (compareOp o.py) (r2 X.K T (cmpD o)) := by
  cases o with
  | eq => exact op_eqC hu
  | ne => exact op_neC hu
  | lt =>
    intro pins s σ H x y v u Q I rv ru h
    obtain ⟨ι, F, G, dx, dy, R, rx, ry, h⟩ := h
    obtain ⟨b, e, q⟩ := h.cmp R
    cases dx <;> first | (cases e; done) | skip
    · cases dy <;> cases e
      exact op_lt pins s σ H x y v u Q I rv ru ⟨_, _, rx, ry, q⟩
    · cases dy <;> cases e
      exact op_lt_str pins s σ H x y v u Q I rv ru ⟨_, _, rx, ry, by simpa using q⟩
  | le =>
    intro pins s σ H x y v u Q I rv ru h
    obtain ⟨ι, F, G, dx, dy, R, rx, ry, h⟩ := h
    obtain ⟨b, e, q⟩ := h.cmp R
    cases dx <;> first | (cases e; done) | skip
    · cases dy <;> cases e
      exact op_le pins s σ H x y v u Q I rv ru ⟨_, _, rx, ry, q⟩
    · cases dy <;> cases e
      exact op_le_str pins s σ H x y v u Q I rv ru ⟨_, _, rx, ry, by simpa using q⟩
  | gt =>
    intro pins s σ H x y v u Q I rv ru h
    obtain ⟨ι, F, G, dx, dy, R, rx, ry, h⟩ := h
    obtain ⟨b, e, q⟩ := h.cmp R
    cases dx <;> first | (cases e; done) | skip
    cases dy <;> cases e
    exact op_gt pins s σ H x y v u Q I rv ru ⟨_, _, rx, ry, q⟩
  | ge =>
    intro pins s σ H x y v u Q I rv ru h
    obtain ⟨ι, F, G, dx, dy, R, rx, ry, h⟩ := h
    obtain ⟨b, e, q⟩ := h.cmp R
    cases dx <;> first | (cases e; done) | skip
    cases dy <;> cases e
    exact op_ge pins s σ H x y v u Q I rv ru ⟨_, _, rx, ry, q⟩
  | in_ =>
    intro pins s σ H x y v u Q I rv ru h
    obtain ⟨ι, F, G, dx, dy, R, rx, ry, h⟩ := h
    obtain ⟨b, e, q⟩ := h.cmp R
    exact op_inC (w := ⟨ι, F, H⟩) hu false I R rx ry rv ru e q
  | nin =>
    intro pins s σ H x y v u Q I rv ru h
    obtain ⟨ι, F, G, dx, dy, R, rx, ry, h⟩ := h
    obtain ⟨b, e, q⟩ := h.cmp R
    obtain ⟨b', e', rfl⟩ := Option.map_eq_some_iff.mp e
    exact op_inC (w := ⟨ι, F, H⟩) hu true I R rx ry rv ru e' q
  | is_ =>
    intro pins s σ H x y v u Q I rv ru h
    obtain ⟨ι, F, G, dx, dy, R, rx, ry, h⟩ := h
    obtain ⟨b, e, q⟩ := h.cmp R
    exact op_isC (w := ⟨ι, F, H⟩) false I R rx ry rv ru e q
  | isn =>
    intro pins s σ H x y v u Q I rv ru h
    obtain ⟨ι, F, G, dx, dy, R, rx, ry, h⟩ := h
    obtain ⟨b, e, q⟩ := h.cmp R
    obtain ⟨b', e', rfl⟩ := Option.map_eq_some_iff.mp e
    exact op_isC (w := ⟨ι, F, H⟩) true I R rx ry rv ru e' q
end
end Mp
set_option Elab.async false
set_option linter.all false
set_option autoImplicit false
set_option maxRecDepth 100000
set_option maxHeartbeats 1000000
/-! Mp, part 4: subscripts, slices, stores by place -/
namespace Mp
open PySem PySem.Spec L2
open PyProof.Rows hiding St

variable {K : PySem.W.Frag} {T : List Addr}

def idxD (x i : D) (G : Hs) : Rs := match x, i with
  | .str cs, .int k => if cs.length ≤ sizeLine then (atI cs k).map fun c => (.str [c], G) else none
  | .ref n, i => match G[n]?, i with
    | some (.dct kvs), i => (keyD i).bind fun k => (dlook kvs k).map fun d => (d, G)
    | some (.lst ds), .int k => (atI ds k).map fun d => (d, G)
    | _, _ => none
  | .tup ds, .int k => (atI ds k).map fun d => (d, G)
  | .lst ds, .int k => (atI ds k).map fun d => (d, G)
  | .fz ds, .int k => (atI ds k).map fun d => (d, G)
  | _, _ => none
theorem RVs.atI {w : Wd} {ds : List D} {vs : List V} {k : Int} {d : D} (r : RVs K w ds vs) (e : atI ds k = some d) : ∃ v, atI vs k = some v ∧ RV K w d v := by
  unfold L2.atI at e ⊢
  rw [← r.len]
  cases h : ixN ds.length k with
  | none => rw [h] at e; cases e
  | some j =>
    rw [h] at e
    exact r.get e
theorem Lift.ofMap {α : Type} {w : Wd} {o : Option α} {f : α → D × Hs} {Q : V → Hp → Prop} (h : Lift K T w (o.map f) Q) : ∃ a, o = some a ∧ Lift K T w (some (f a)) Q := by
  cases o with
  | none => exact h.no
  | some a => exact ⟨a, rfl, h⟩

section
variable {X : Cx}
theorem ix_D (hu : X.A.units + 65 < cLine) : IxR X (r2 X.K T idxD) := by
  intro value slice pins s σ H x y v u Q I rv ru h hs
  obtain ⟨ι, F, G, dx, dy, R, rx, ry, h⟩ := h
  have seq : ∀ (ds : List D) (k : Int), dy = .int k → (∃ a vs, x = .ref a ∧ (SqL X.K H a vs ∨ SqT X.K H a vs) ∧ RVs X.K ⟨ι, F, H⟩ ds vs) → Lift X.K T ⟨ι, F, H⟩ ((atI ds k).map fun d => (d, G)) Q →
      wpAny (model X.prog X.w) X.A (subscriptTail value slice v u) (EP X pins σ Q) X.xe s := by
    intro ds k e1 ⟨a, vs, e2, h1, h2⟩ hh
    subst e1 e2
    obtain ⟨d, ed, hh⟩ := hh.ofMap
    obtain ⟨z, ez, rz⟩ := h2.atI ed
    refine ix_seq value slice pins s σ H _ _ v u Q I rv ru ?_ hs
    rcases h1 with h1 | h1
    · exact .inl ⟨a, vs, k, z, rfl, ry, h1, ez, hh.now R rz⟩
    · exact .inr (.inl ⟨a, vs, k, z, rfl, ry, h1, ez, hh.now R rz⟩)
  cases dx with
  | str cs =>
    cases dy <;> first | exact h.no | skip
    rename_i k
    obtain ⟨hl, h⟩ := h.ite
    obtain ⟨c, ec, h⟩ := h.ofMap
    refine ix_seq value slice pins s σ H _ _ v u Q I rv ru (.inr (.inr ⟨⟨cs.toArray⟩, k, c, rx, ry, by rw [strLen]; exact hl, by simpa using ec, ?_⟩)) hs
    exact h.now R rfl
  | tup ds =>
    cases dy <;> first | exact h.no | skip
    obtain ⟨a, vs, e, h1, h2⟩ := rx
    exact seq ds _ rfl ⟨a, vs, e, .inr h1, h2⟩ h
  | lst ds =>
    cases dy <;> first | exact h.no | skip
    obtain ⟨a, vs, e, h1, h2⟩ := rx
    exact seq ds _ rfl ⟨a, vs, e, .inl h1.sq, h2⟩ h
  | fz ds =>
    cases dy <;> first | exact h.no | skip
    obtain ⟨a, vs, e, h1, h2⟩ := rx
    exact seq ds _ rfl ⟨a, vs, e, .inl h1.sq, h2⟩ h
  | ref n =>
    simp only [idxD] at h
    split at h
    · rename_i kvs eg
      obtain ⟨k, ek, h⟩ := h.ofBind
      obtain ⟨d, ed, h⟩ := h.ofMap
      obtain ⟨a, us, rfl, _, _, ha, hr⟩ := dct_at R rx eg
      cases (show v = Value.ref a from rv)
      obtain ⟨z, ez, rz⟩ := (dlook_at hr k).1 d ed
      have g : DGet H a y (some z) := by rw [keyD_kV ek ry, ← ez]; exact DGet.k ha
      have hu1 : X.A.units + 1 < cLine := Nat.lt_of_le_of_lt (by omega) hu
      exact tail_any (dict_typeIs I g) PySem.F.slot_dict_getitem.lookup (d_getItem hu1 I g ru fun w' s' I' rw' => ⟨z, H, I', rw', h.now R rz⟩) hs
    · rename_i ds k eg
      obtain ⟨a, vs, rfl, _, _, h1, h2⟩ := cell_at R rx eg
      exact seq ds k rfl ⟨a, vs, rfl, .inl (.of h1), h2⟩ h
    · exact h.no
  | non => exact h.no
  | bl _ => exact h.no
  | int _ => exact h.no

/-! ### slices -/
def cutN {α : Type} (xs : List α) (lo hi : Option Int) : List α := (xs.drop (HT.sIx xs.length 0 lo)).take (HT.sIx xs.length xs.length hi - HT.sIx xs.length 0 lo)
def slD (m : Bool) (x : D) (lo hi : Option Int) (G : Hs) : Rs := match x with
  | .str cs => if cs.length ≤ sizeLine then some (.str (cutN cs lo hi), G) else none
  | .tup ds => some (.tup (cutN ds lo hi), G)
  | x => (roOf G x).bind fun ds => if m then some (.ref G.length, G ++ [.lst (cutN ds lo hi)]) else some (.lst (cutN ds lo hi), G)
def rSl (K : PySem.W.Frag) (T : List Addr) (g : D → Option Int → Option Int → Hs → Rs) : V → Option Int → Option Int → Hp → VK → Prop := fun x lo hi H Q =>
  ∃ ι F G dx, Rel K T ⟨ι, F, H⟩ G ∧ RV K ⟨ι, F, H⟩ dx x ∧ Lift K T ⟨ι, F, H⟩ (g dx lo hi G) Q
theorem cutN_whole {α : Type} (xs : List α) (lo hi : Option Int) (h : HT.sIx xs.length 0 lo = 0 ∧ HT.sIx xs.length xs.length hi = xs.length) : cutN xs lo hi = xs := by
  unfold cutN
  rw [h.1, h.2, List.drop_zero, Nat.sub_zero, List.take_length]
theorem RVs.cut {w : Wd} {ds : List D} {vs : List V} (r : RVs K w ds vs) (lo hi : Option Int) : RVs K w (cutN ds lo hi) (cutV vs lo hi) := by
  unfold cutN cutV
  rw [r.len]
  exact (r.drop _).take _
theorem sl_D (m : Bool) : SlR X (rSl X.K T (slD m)) := by
  intro pins s σ H x v vl vu lo hi sl Q I rx hs pl pu h
  obtain ⟨ι, F, G, dx, R, rd, h⟩ := h
  have lst : (∃ ds, roOf G dx = some ds ∧ Lift X.K T ⟨ι, F, H⟩ (if m then some (.ref G.length, G ++ [.lst (cutN ds lo hi)]) else some (.lst (cutN ds lo hi), G)) Q) →
      ∃ Ty id, typeLookup (.type Ty) "__getitem__" = pure (some (.builtin id)) ∧ s.TypeIs v Ty ∧ wpAny (model X.prog X.w) X.A (getItem v (.ref sl)) (EP X pins σ Q) X.xe s := by
    intro ⟨ds, e, hh⟩
    obtain ⟨a, vs, rfl, h1, h2⟩ := roOf_at R rd e
    refine sl_list pins s σ H _ v vl vu lo hi sl Q I rx hs pl pu ⟨a, vs, rfl, h1, ?_⟩
    cases m with
    | false => exact hh.newL R (h2.cut lo hi)
    | true => exact hh.newC R (h2.cut lo hi)
  cases dx with
  | str cs =>
    obtain ⟨hl, h⟩ := h.ite
    refine sl_str pins s σ H x v vl vu lo hi sl Q I rx hs pl pu ⟨⟨cs.toArray⟩, rd, by rw [strLen]; exact hl, ?_⟩
    have e : cutS ⟨cs.toArray⟩ lo hi = ⟨(cutN cs lo hi).toArray⟩ := by
      unfold cutS cutN
      rw [strLen]
    rw [e]
    exact h.now R rfl
  | tup ds =>
    obtain ⟨a, vs, rfl, h1, h2⟩ := rd
    refine sl_tupA pins s σ H _ v vl vu lo hi sl Q I rx hs pl pu ⟨a, vs, rfl, h1, fun z => ?_, fun z => ?_⟩
    · rw [← h2.len] at z
      have h : Lift X.K T ⟨ι, F, H⟩ (some (.tup (cutN ds lo hi), G)) Q := h
      rw [cutN_whole ds lo hi z] at h
      exact h.now R ⟨a, vs, rfl, h1, h2⟩
    · exact Lift.newT R h (h2.cut lo hi)
  | lst ds => exact lst h.ofBind
  | fz ds => exact lst h.ofBind
  | ref n => exact lst h.ofBind
  | non => exact lst h.ofBind
  | bl _ => exact lst h.ofBind
  | int _ => exact lst h.ofBind

/-! ### x[::-1] -/
def revD (m : Bool) (x : D) (G : Hs) : Rs := match x with
  | .str cs => if cs.length ≤ sizeLine then some (.str cs.reverse, G) else none
  | .tup ds => some (.tup ds.reverse, G)
  | x => (roOf G x).bind fun ds => if m then some (.ref G.length, G ++ [.lst ds.reverse]) else some (.lst ds.reverse, G)

/-- the slice object at sl is [::-1] -/
def RvR (X : Cx) (r : V → Hp → VK → Prop) : Prop :=
  ∀ (pins : List (Addr × Obj)) (s : Shared) (σ : L2.St) (H : Hp) (x : V) (v : Value) (t : Tok) (sl : Addr) (Q : VK), Inv X pins σ H s → RelV x v → s.heap.IsSliceOf sl .none .none (.int (-1) t) → r x H Q →
    ∃ T id, typeLookup (.type T) "__getitem__" = pure (some (.builtin id)) ∧ s.TypeIs v T ∧ wpAny (model X.prog X.w) X.A (getItem v (.ref sl)) (EP X pins σ Q) X.xe s
theorem pe_rev {e : Expr} {te : TE} {r : V → Hp → VK → Prop} {j : Nat} {p1 p2 p3 pos : Pos} (hr : RvR X r) (he : PE X e te) :
    PE X (.Subscript e (.Slice none none (some (.UnaryOp .USub (.Constant (.int 1) j p1) p2)) p3) pos) (tUn r te) := by
  refine ⟨fun pins s σ H Q I h => ?_⟩
  refine Subscript_ (thn (he.run pins s σ H _ I h) fun v s1 ⟨x, H1, I1, rx1, q1⟩ => ?_)
  refine wpAny_Slice ?_
  rw [evalPart_none]
  refine wpAny_pure ?_
  refine wpAny_pure ?_
  rw [evalPart_some]
  have hst : PE X (.UnaryOp .USub (.Constant (.int 1) j p1) p2) (tUn (rU fun i => .int (-i)) (tC (.int 1))) := pe_un un_neg pe_int
  refine thn (hst.run pins s1 σ H1 (fun v H2 => v = .int (-1) ∧ r x H2 Q) I1 ⟨1, rfl, rfl, q1⟩) fun u s2 ⟨y, H2, I2, r2, e2, q2⟩ => ?_
  subst e2
  obtain ⟨t, rfl⟩ := r2
  have I3 : Inv X pins σ H2 { s2 with heap := s2.heap.push { cls := .type "slice", data := .fields #[.none, .none, .int (-1) t] } } := I2.kept (t' := s2.toks) fun b ob q => Heap.get?_push_of_some _ q
  obtain ⟨Ty, id, hT, ht, hg⟩ := hr pins _ σ H2 x v t s2.heap.objs.size Q I3 rx1 (Heap.IsSliceOf.new ..) q2
  exact tail_any (ops := [v, .ref s2.heap.objs.size]) ht hT hg (by with_unfolding_all rfl)

theorem rev_str_ix (n : Nat) : Builtin.Str.strSliceIndices none none (-1) n = (List.range n).map fun k => n - 1 - k := by
  unfold Builtin.Str.strSliceIndices
  have h : ¬ ((-1 : Int) > 0) := by decide
  simp only [h, if_false]
  exact PySem.W.krv_sliceRange n
theorem rev_pick {α : Type} (xs : Array α) : ((List.range xs.size).map fun k => xs.size - 1 - k).filterMap (xs[·]?) = xs.toList.reverse := by
  rw [PySem.W.krv_range, List.filterMap_reverse, PySem.W.krv_all]
theorem rev_applied {prog : Program} {w : World} {A : Around} {E : Value → Shared → Prop} {s : Shared} {sl : Addr} {t : Tok} {n : Nat} {Q : Int × Int × Nat → Shared → Prop} (hs : s.heap.IsSliceOf sl .none .none (.int (-1) t))
    (h : Q ((n : Int) - 1, -1, n) s) : wpAny (model prog w) A (Builtin.Slice.sliceApplied (.ref sl) (pure (n : Int))) Q E s := by
  obtain ⟨os, hos, hcs, hds⟩ := id hs
  unfold Builtin.Slice.sliceApplied Builtin.Slice.sliceFields
  refine wpAny_bind (wpAny_bind (wpAny_field hos hds (x := .none) rfl (wpAny_bind (wpAny_field hos hds (x := .none) rfl (wpAny_bind (wpAny_field hos hds (x := .int (-1) t) rfl (wpAny_pure ?_)))))))
  refine wpAny_bind (slicePart_int ?_)
  show wpAny _ _ (if ((-1 : Int) == 0) = true then _ else _) _ _ s
  rw [if_neg (by decide)]
  refine wpAny_bind (slicePart_none (wpAny_bind (slicePart_none (wpAny_bind (wpAny_pure ?_)))))
  show wpAny _ _ (match Builtin.Slice.sliceAdjust none none (-1) (n : Int) with | (lo, hi) => pure (lo, (-1 : Int), Builtin.Slice.slicePlaces lo hi (-1))) _ _ s
  have e1 : Builtin.Slice.sliceAdjust none none (-1) (n : Int) = ((n : Int) - 1, -1) := rfl
  rw [e1]
  have e2 : Builtin.Slice.slicePlaces ((n : Int) - 1) (-1) (-1) = n := by
    unfold Builtin.Slice.slicePlaces
    have h : ¬ ((-1 : Int) > 0) := by decide
    simp only [h, if_false]
    split
    · simp only [Int.neg_neg, Int.ediv_one]
      omega
    · omega
  show wpAny _ _ (pure ((n : Int) - 1, (-1 : Int), Builtin.Slice.slicePlaces ((n : Int) - 1) (-1) (-1))) _ _ s
  rw [e2]
  exact wpAny_pure h

theorem rev_tup {prog : Program} {w : World} {A : Around} {E : Value → Shared → Prop} {s : Shared} {a sl : Addr} {its : Array Value} {t : Tok} {Q : Value → Shared → Prop} (ht : IsTup s.heap a its) (hs : s.heap.IsSliceOf sl .none .none (.int (-1) t))
    (h : Q (.ref s.heap.objs.size) { s with heap := s.heap.push { cls := .type "tuple", data := .seq its.toList.reverse.toArray } }) (hz : its.size ≤ sizeLine) : wpAny (model prog w) A (getItem (.ref a) (.ref sl)) Q E s := by
  have hTs : s.TypeIs (.ref sl) "slice" := let ⟨os, hos, hcs, _⟩ := hs; ⟨os, hos, hcs⟩
  have hsz : sizeOk (.seq its.toList.reverse.toArray) := by
    show its.toList.reverse.toArray.size ≤ sizeLine
    simpa using hz
  have epick : ((List.range its.size).filterMap fun (k : Nat) => its[((its.size : Int) - 1 + (k : Int) * (-1)).toNat]?) = its.toList.reverse := by
    rw [← rev_pick its, List.filterMap_map]
    have e : (fun (k : Nat) => its[((its.size : Int) - 1 + (k : Int) * (-1)).toNat]?) = ((its[·]?) ∘ fun k => its.size - 1 - k) := by
      funext k
      show its[((its.size : Int) - 1 + (k : Int) * (-1)).toNat]? = its[its.size - 1 - k]?
      congr 1
      omega
    rw [e]
  unfold getItem
  try with_reducible refine wpAny_holding ?_
  first | refine wpAny_bind (wpAny_pure ?_) | skip
  refine wpAny_bind (wpAny_sequenceKey ht.typeIs (by decide) (wpAny_bind (wpAny_callSpecial?_slot (name := Str.ofString "__getitem__") ht.typeIs slot_tuple_getitem
    (wpAny_call_entry slot_tuple_getitem ht.typeIs entry_tuple_getitem ?_ (args_tuple_getitem _ _)))))
  show wpAny _ _ (Builtin.Tuple.tupleItemsOf (.ref a) >>= _) _ _ s
  refine wpAny_bind (tupleItemsOf_ ht (wpAny_bind (wpAny_typeOf hTs ?_)))
  rw [if_pos (by decide)]
  refine wpAny_bind (rev_applied hs ?_)
  have hno : ¬ ((((its.size : Int) - 1 == 0) && ((-1 : Int) == 1) && (its.size == its.size)) = true) := by
    intro q
    rw [Bool.and_eq_true, Bool.and_eq_true] at q
    exact absurd q.1.2 (by decide)
  show wpAny _ _ (if (((its.size : Int) - 1 == 0) && ((-1 : Int) == 1) && (its.size == its.size)) = true then _ else _) _ _ s
  rw [if_neg hno, epick]
  first
    | exact wpAny_bind (m := Builtin.Tuple.tupleExact _) (wpAny_newObj_type (wpAny_pure ⟨_, rfl, wpAny_pure h⟩) hsz)
    | exact wpAny_bind (m := Builtin.Tuple.tupleExact _) (wpAny_newObj_type (wpAny_bind (wpAny_pure (wpAny_pure ⟨_, rfl, wpAny_pure h⟩))) hsz)
    | exact wpAny_bind (wpAny_bind (m := Builtin.Tuple.tupleExact _) (wpAny_newObj_type (wpAny_pure (wpAny_pure ⟨_, rfl, wpAny_pure h⟩)) hsz))
    | exact wpAny_bind (wpAny_bind (m := Builtin.Tuple.tupleExact _) (wpAny_newObj_type (wpAny_pure ⟨_, rfl, wpAny_pure h⟩) hsz))
theorem rv_D (m : Bool) : RvR X (r1 X.K T (revD m)) := by
  intro pins s σ H x v t sl Q I rx hs h
  obtain ⟨ι, F, G, dx, R, rd, h⟩ := h
  have lst : (∃ ds, roOf G dx = some ds ∧ Lift X.K T ⟨ι, F, H⟩ (if m then some (.ref G.length, G ++ [.lst ds.reverse]) else some (.lst ds.reverse, G)) Q) →
      ∃ Ty id, typeLookup (.type Ty) "__getitem__" = pure (some (.builtin id)) ∧ s.TypeIs v Ty ∧ wpAny (model X.prog X.w) X.A (getItem v (.ref sl)) (EP X pins σ Q) X.xe s := by
    intro ⟨ds, e, hh⟩
    obtain ⟨a, vs, rfl, h1, h2⟩ := roOf_at R rd e
    cases rx
    obtain ⟨its, r, pl, hz⟩ := I.list h1
    refine ⟨"list", _, slot_list_getitem.lookup, pl.isList.typeIs, ?_⟩
    refine wpAny_getItem_list_slice pl.isList hs .none .none (.int _ _) (by simp) ?_ (by rw [List.size_toArray]; have := r.length; omega)
    rw [PySem.W.krv_pick]
    have fin : ∀ p, H p = none → Q (.ref p) (upd H p (.lst vs.reverse)) := by
      cases m with
      | false => exact hh.newL R h2.reverse
      | true => exact hh.newC R h2.reverse
    refine ⟨.ref s.heap.objs.size, _, I.laid (t' := s.toks) (o := .lst vs.reverse) (fun b ob q => Heap.get?_push_of_some _ q) (Nat.le_refl _) ?_, rfl, fin _ (I.hok.fresh (Nat.le_refl _))⟩
    exact ⟨by rw [List.length_reverse]; exact hz, its.reverse, 0, r.reverse, by simpa using Heap.get?_push_size s.heap (o := { cls := .type "list", data := .seq its.reverse.toArray }) rfl⟩
  cases dx with
  | str cs =>
    obtain ⟨hl, h⟩ := h.ite
    have ex : x = V.str ⟨cs.toArray⟩ := rd
    subst ex
    obtain ⟨tk, rfl⟩ := rx
    obtain ⟨os, hos, hcs, hds⟩ := hs
    refine ⟨"str", _, PySem.F.slot_str_getitem.lookup, typeIs_str _ _ _, ?_⟩
    refine wpAny_getItem_str_slice (l := none) (u := none) (st := some (-1, t)) ⟨os, hos, hcs, hds⟩ rfl ?_
    show Made.post (if ((-1 : Int) == 1 && (Builtin.Str.strSliceIndices none none (-1) (⟨cs.toArray⟩ : Str).length).length == (⟨cs.toArray⟩ : Str).length) = true then Made.val (.str ⟨cs.toArray⟩ tk)
      else Made.str ⟨((Builtin.Str.strSliceIndices none none (-1) (⟨cs.toArray⟩ : Str).length).filterMap ((⟨cs.toArray⟩ : Str).cps[·]?)).toArray⟩) (EP X pins σ Q) s
    rw [if_neg (by intro q; rw [Bool.and_eq_true] at q; exact absurd q.1 (by decide)), rev_str_ix]
    have ep : ((List.range (⟨cs.toArray⟩ : Str).length).map fun k => (⟨cs.toArray⟩ : Str).length - 1 - k).filterMap ((⟨cs.toArray⟩ : Str).cps[·]?) = cs.reverse := by
      have q := rev_pick cs.toArray
      simpa [Str.length] using q
    rw [ep]
    refine ⟨?_, .str _, H, I.tok _, ⟨_, rfl⟩, h.now R rfl⟩
    rw [strLen, List.length_reverse]; exact hl
  | tup ds =>
    obtain ⟨a, vs, rfl, h1, h2⟩ := rd
    cases rx
    obtain ⟨its, r, pt, hz⟩ := I.tuple h1
    refine ⟨"tuple", _, slot_tuple_getitem.lookup, pt.typeIs, ?_⟩
    refine rev_tup pt hs ?_ (by rw [List.size_toArray, ← r.length]; exact hz)
    refine ⟨.ref s.heap.objs.size, _, I.laid (t' := s.toks) (o := .tup vs.reverse) (fun b ob q => Heap.get?_push_of_some _ q) (Nat.le_refl _) ?_, rfl, Lift.newT R h h2.reverse _ (I.hok.fresh (Nat.le_refl _))⟩
    exact ⟨by rw [List.length_reverse]; exact hz, _, by simpa using r.reverse, by simpa using IsTup.new s.heap _⟩
  | lst ds => exact lst h.ofBind
  | fz ds => exact lst h.ofBind
  | ref n => exact lst h.ofBind
  | non => exact lst h.ofBind
  | bl _ => exact lst h.ofBind
  | int _ => exact lst h.ofBind
end
end Mp
set_option Elab.async false
set_option linter.all false
set_option autoImplicit false
set_option maxRecDepth 100000
set_option maxHeartbeats 1000000
/-! Mp, part 5: built-in functions and methods on data -/
namespace Mp
open PySem PySem.Spec L2
open PyProof.Rows hiding St

variable {K : PySem.W.Frag} {T : List Addr}

theorem RVs.one {w : Wd} {d : D} {vs : List V} (h : RVs K w [d] vs) : ∃ v, vs = [v] ∧ RV K w d v := by
  obtain ⟨v, r, rfl, h1, h2⟩ := h
  cases h2
  exact ⟨v, rfl, h1⟩
theorem RVs.two {w : Wd} {d e : D} {vs : List V} (h : RVs K w [d, e] vs) : ∃ v u, vs = [v, u] ∧ RV K w d v ∧ RV K w e u := by
  obtain ⟨v, r, rfl, h1, h2⟩ := h
  obtain ⟨u, rfl, h3⟩ := h2.one
  exact ⟨v, u, rfl, h1, h3⟩
theorem RVs.nil' {w : Wd} {vs : List V} (h : RVs K w [] vs) : vs = [] := h
theorem rn_nil {w : Wd} {ds : List D} (h : RVs K w ds []) : ds = [] := by
  cases ds with
  | nil => rfl
  | cons d r => obtain ⟨_, _, e, _⟩ := h; cases e

def intsD : List D → Option (List Int)
  | [] => some []
  | .int i :: r => (intsD r).map (i :: ·)
  | _ :: _ => none
def strsD : List D → Option (List (List Nat))
  | [] => some []
  | .str i :: r => (strsD r).map (i :: ·)
  | _ :: _ => none
theorem intsD_at {w : Wd} : ∀ {ds : List D} {vs : List V} {ns : List Int}, RVs K w ds vs → intsD ds = some ns → vs = ns.map V.int
  | [], _, _, r, e => by cases r; cases e; rfl
  | .int i :: t, _, _, r, e => by
    obtain ⟨v, u, rfl, h1, h2⟩ := r
    simp only [intsD, Option.map_eq_some_iff] at e
    obtain ⟨m, e1, rfl⟩ := e
    rw [intsD_at h2 e1, show v = V.int i from h1]; rfl
  | .non :: _, _, _, _, e => by cases e
  | .bl _ :: _, _, _, _, e => by cases e
  | .str _ :: _, _, _, _, e => by cases e
  | .tup _ :: _, _, _, _, e => by cases e
  | .lst _ :: _, _, _, _, e => by cases e
  | .fz _ :: _, _, _, _, e => by cases e
  | .ref _ :: _, _, _, _, e => by cases e
def mkS (cs : List Nat) : Str := ⟨cs.toArray⟩
theorem strsD_at {w : Wd} : ∀ {ds : List D} {vs : List V} {ns : List (List Nat)}, RVs K w ds vs → strsD ds = some ns → vs = (ns.map mkS).map V.str
  | [], _, _, r, e => by cases r; cases e; rfl
  | .str i :: t, _, _, r, e => by
    obtain ⟨v, u, rfl, h1, h2⟩ := r
    simp only [strsD, Option.map_eq_some_iff] at e
    obtain ⟨m, e1, rfl⟩ := e
    rw [strsD_at h2 e1, show v = V.str ⟨i.toArray⟩ from h1]; rfl
  | .non :: _, _, _, _, e => by cases e
  | .bl _ :: _, _, _, _, e => by cases e
  | .int _ :: _, _, _, _, e => by cases e
  | .tup _ :: _, _, _, _, e => by cases e
  | .lst _ :: _, _, _, _, e => by cases e
  | .fz _ :: _, _, _, _, e => by cases e
  | .ref _ :: _, _, _, _, e => by cases e

/-! ### functions -/
def one (f : D → Hs → Rs) : List D → Hs → Rs
  | [d], G => f d G
  | _, _ => none
def two (f : D → D → Hs → Rs) : List D → Hs → Rs
  | [d, e], G => f d e G
  | _, _ => none
def lenD (d : D) (G : Hs) : Rs := match d with
  | .str cs => if cs.length ≤ sizeLine then some (.int cs.length, G) else none
  | d => (seqOf G d).bind fun ds => some (.int ds.length, G)
def absD (d : D) (G : Hs) : Rs := match d with
  | .int i => some (.int (if i < 0 then -i else i), G)
  | _ => none
def min2D (d e : D) (G : Hs) : Rs := match d, e with
  | .int i, .int j => some (.int (if j < i then j else i), G)
  | _, _ => none
def max2D (d e : D) (G : Hs) : Rs := match d, e with
  | .int i, .int j => some (.int (if j > i then j else i), G)
  | _, _ => none
def minL (d : D) (G : Hs) : Rs := (roOf G d).bind fun ds => (intsD ds).bind fun ns => (ns.min?).bind fun m => some (.int m, G)
def maxL (d : D) (G : Hs) : Rs := (roOf G d).bind fun ds => (intsD ds).bind fun ns => (ns.max?).bind fun m => some (.int m, G)
def intD (d : D) (G : Hs) : Rs := match d with
  | .int i => some (.int i, G)
  | .bl b => some (.int (if b then 1 else 0), G)
  | _ => none
def sumD (d : D) (G : Hs) : Rs := (roOf G d).bind fun ds => (intsD ds).bind fun ns => some (.int ns.sum, G)
def newD (m : Bool) (ds : List D) (G : Hs) : Rs := if m then some (.ref G.length, G ++ [.lst ds]) else some (.lst ds, G)
def listD (m : Bool) (d : D) (G : Hs) : Rs := (seqOf G d).bind fun ds => newD m ds G
def tupD (d : D) (G : Hs) : Rs := (seqOf G d).bind fun ds => some (.tup ds, G)
def tyD (G : Hs) : D → Option String
  | .non => some "NoneType"
  | .bl _ => some "bool"
  | .int _ => some "int"
  | .str _ => some "str"
  | .tup _ => some "tuple"
  | .lst _ => some "list"
  | .fz _ => some "list"
  | .ref n => match G[n]? with
    | some (.lst _) => some "list"
    | some (.dct _) => some "dict"
    | _ => none
inductive Ty where
  | bool | int | str | tuple | list | dict
  deriving DecidableEq
def Ty.nm : Ty → String
  | .bool => "bool" | .int => "int" | .str => "str" | .tuple => "tuple" | .list => "list" | .dict => "dict"
def isiD (c : Ty) (d : D) (G : Hs) : Rs := (tyD G d).bind fun t => some (.bl (t == c.nm || (t == "bool" && c.nm == "int")), G)
def pairD : D → Option (Key × D)
  | .tup [k, x] => (keyD k).map fun k => (k, x)
  | _ => none
def pairsD : List D → Option (List (Key × D))
  | [] => some []
  | d :: r => (pairD d).bind fun p => (pairsD r).map (p :: ·)
def dictD0 (d : D) (G : Hs) : Rs := (roOf G d).bind fun ds => (pairsD ds).bind fun ps => some (.ref G.length, G ++ [.dct ps])

section
variable {X : Cx}
theorem rn_one {g : D → Hs → Rs} {xs : List V} {H : Hp} {Q : VK} (h : rn K T (one g) xs H Q) : ∃ ι F G d v, xs = [v] ∧ Rel K T ⟨ι, F, H⟩ G ∧ RV K ⟨ι, F, H⟩ d v ∧ Lift K T ⟨ι, F, H⟩ (g d G) Q := by
  obtain ⟨ι, F, G, ds, R, r, h⟩ := h
  match ds, r, h with
  | [], _, h => exact h.no
  | _ :: _ :: _, _, h => exact h.no
  | [d], r, h =>
    obtain ⟨v, e, r1⟩ := r.one
    exact ⟨ι, F, G, d, v, e, R, r1, h⟩
theorem rn_two {g : D → D → Hs → Rs} {xs : List V} {H : Hp} {Q : VK} (h : rn K T (two g) xs H Q) : ∃ ι F G d e v u, xs = [v, u] ∧ Rel K T ⟨ι, F, H⟩ G ∧ RV K ⟨ι, F, H⟩ d v ∧ RV K ⟨ι, F, H⟩ e u ∧ Lift K T ⟨ι, F, H⟩ (g d e G) Q := by
  obtain ⟨ι, F, G, ds, R, r, h⟩ := h
  match ds, r, h with
  | [], _, h => exact h.no
  | [_], _, h => exact h.no
  | _ :: _ :: _ :: _, _, h => exact h.no
  | [d, e], r, h =>
    obtain ⟨v, u, e1, r1, r2⟩ := r.two
    exact ⟨ι, F, G, d, e, v, u, e1, R, r1, r2, h⟩
theorem Lift.newM {w : Wd} {G : Hs} {m : Bool} {ds : List D} {vs : List V} {Q : V → Hp → Prop} (R : Rel K T w G) (h : Lift K T w (newD m ds G) Q) (r : RVs K w ds vs) : ∀ p, w.H p = none → Q (.ref p) (upd w.H p (.lst vs)) := by
  cases m with
  | false => exact h.newL R r
  | true => exact h.newC R r
theorem call_lenD : CallR X (.builtin "len") (rn X.K T (one lenD)) := by
  intro pins s σ H xs us Q I rs h0
  obtain ⟨ι, F, G, d, v, rfl, R, r, h⟩ := rn_one h0
  by_cases c : ∃ cs, d = .str cs
  · obtain ⟨cs, rfl⟩ := c
    obtain ⟨hl, h⟩ := h.ite
    have ev : v = V.str ⟨cs.toArray⟩ := r
    subst ev
    exact call_len pins s σ H _ us Q I rs ⟨_, cs.length, rfl, ⟨by rw [strLen]; exact hl, by rw [strLen]⟩, h.now R rfl⟩
  · have h' : Lift X.K T ⟨ι, F, H⟩ ((seqOf G d).bind fun ds => some (.int ds.length, G)) Q := by
      cases d <;> first | exact h | exact absurd ⟨_, rfl⟩ c
    obtain ⟨ds, e, h'⟩ := h'.ofBind
    obtain ⟨a, vs, rfl, h1, h2⟩ := seqOf_at R r e
    refine call_len pins s σ H _ us Q I rs ⟨_, ds.length, rfl, ?_, h'.now R rfl⟩
    rcases h1 with h1 | h1
    · exact .inl ⟨vs, h1, h2.len⟩
    · exact .inr ⟨vs, h1, h2.len⟩
theorem call_absD : CallR X (.builtin "abs") (rn X.K T (one absD)) := by
  intro pins s σ H xs us Q I rs h0
  obtain ⟨ι, F, G, d, v, rfl, R, r, h⟩ := rn_one h0
  cases d <;> first | exact h.no | skip
  exact call_abs pins s σ H _ us Q I rs ⟨_, by rw [rv_int r], h.now R rfl⟩
theorem call_min2D (hc : X.calm = true) : CallR X (.builtin "min") (rn X.K T (two min2D)) := by
  intro pins s σ H xs us Q I rs h0
  obtain ⟨ι, F, G, d, e, v, u, rfl, R, r, r', h⟩ := rn_two h0
  cases d <;> first | exact h.no | skip
  cases e <;> first | exact h.no | skip
  exact call_min2 hc pins s σ H _ us Q I rs ⟨_, _, by rw [rv_int r, rv_int r'], h.now R rfl⟩
theorem call_max2D (hc : X.calm = true) : CallR X (.builtin "max") (rn X.K T (two max2D)) := by
  intro pins s σ H xs us Q I rs h0
  obtain ⟨ι, F, G, d, e, v, u, rfl, R, r, r', h⟩ := rn_two h0
  cases d <;> first | exact h.no | skip
  cases e <;> first | exact h.no | skip
  exact call_max2 hc pins s σ H _ us Q I rs ⟨_, _, by rw [rv_int r, rv_int r'], h.now R rfl⟩
theorem call_intD : CallR X (.type "int") (rn X.K T (one intD)) := by
  intro pins s σ H xs us Q I rs h0
  obtain ⟨ι, F, G, d, v, rfl, R, r, h⟩ := rn_one h0
  cases d <;> first | exact h.no | skip
  · exact call_int1 pins s σ H _ us Q I rs (.inr ⟨_, by rw [rv_bl r], h.now R rfl⟩)
  · exact call_int1 pins s σ H _ us Q I rs (.inl ⟨_, by rw [rv_int r], h.now R rfl⟩)
theorem ints_at {w : Wd} {G : Hs} (R : Rel K T w G) {d : D} {v : V} (r : RV K w d v) {ds : List D} {ns : List Int} (e : roOf G d = some ds) (e2 : intsD ds = some ns) : ∃ a, v = .ref a ∧ SqL K w.H a (ns.map V.int) := by
  obtain ⟨a, vs, e1, h1, h2⟩ := roOf_at R r e
  rw [intsD_at h2 e2] at h1
  exact ⟨a, e1, h1⟩
theorem call_sumD (hc : X.calm = true) : CallR X (.builtin "sum") (rn X.K T (one sumD)) := by
  intro pins s σ H xs us Q I rs h0
  obtain ⟨ι, F, G, d, v, rfl, R, r, h⟩ := rn_one h0
  obtain ⟨ds, e, h⟩ := h.ofBind
  obtain ⟨ns, e2, h⟩ := h.ofBind
  obtain ⟨a, rfl, hq⟩ := ints_at R r e e2
  exact cr_sum hc pins s σ H _ us Q I rs ⟨a, ns, rfl, hq, h.now R rfl⟩
theorem max_of {ns : List Int} {m m' : Int} (e : ns.max? = some m) (h1 : m' ∈ ns) (h2 : ∀ y, y ∈ ns → y ≤ m') : m' = m := by
  have hm := List.max?_mem e
  have := h2 m hm
  have h3 := (List.max?_le_iff e (x := m)).mp (Int.le_refl _) m' h1
  omega
theorem min_of {ns : List Int} {m m' : Int} (e : ns.min? = some m) (h1 : m' ∈ ns) (h2 : ∀ y, y ∈ ns → m' ≤ y) : m' = m := by
  have hm := List.min?_mem e
  have := h2 m hm
  have h3 := (List.le_min?_iff e (x := m)).mp (Int.le_refl _) m' h1
  omega
theorem call_maxL (hc : X.calm = true) : CallR X (.builtin "max") (rn X.K T (one maxL)) := by
  intro pins s σ H xs us Q I rs h0
  obtain ⟨ι, F, G, d, v, rfl, R, r, h⟩ := rn_one h0
  obtain ⟨ds, e, h⟩ := h.ofBind
  obtain ⟨ns, e2, h⟩ := h.ofBind
  obtain ⟨m, e3, h⟩ := h.ofBind
  obtain ⟨a, rfl, hq⟩ := ints_at R r e e2
  refine cr_max hc pins s σ H _ us Q I rs ⟨a, ns, rfl, hq, ?_, fun m' h1 h2 => ?_⟩
  · cases ns with
    | nil => cases e3
    | cons _ _ => simp
  · rw [max_of e3 h1 h2]; exact h.now R rfl
theorem call_minL (hc : X.calm = true) : CallR X (.builtin "min") (rn X.K T (one minL)) := by
  intro pins s σ H xs us Q I rs h0
  obtain ⟨ι, F, G, d, v, rfl, R, r, h⟩ := rn_one h0
  obtain ⟨ds, e, h⟩ := h.ofBind
  obtain ⟨ns, e2, h⟩ := h.ofBind
  obtain ⟨m, e3, h⟩ := h.ofBind
  obtain ⟨a, rfl, hq⟩ := ints_at R r e e2
  refine cr_min hc pins s σ H _ us Q I rs ⟨a, ns, rfl, hq, ?_, fun m' h1 h2 => ?_⟩
  · cases ns with
    | nil => cases e3
    | cons _ _ => simp
  · rw [min_of e3 h1 h2]; exact h.now R rfl
theorem call_listD (m : Bool) : CallR X (.type "list") (rn X.K T (one (listD m))) := by
  intro pins s σ H xs us Q I rs h0
  obtain ⟨ι, F, G, d, v, rfl, R, r, h⟩ := rn_one h0
  obtain ⟨ds, e, h⟩ := h.ofBind
  obtain ⟨a, vs, rfl, h1, h2⟩ := seqOf_at R r e
  exact call_list_of pins s σ H _ us Q I rs ⟨a, vs, rfl, h1, h.newM R h2⟩
theorem call_tupD : CallR X (.type "tuple") (rn X.K T (one tupD)) := by
  intro pins s σ H xs us Q I rs h0
  obtain ⟨ι, F, G, d, v, rfl, R, r, h⟩ := rn_one h0
  obtain ⟨ds, e, h⟩ := h.ofBind
  obtain ⟨a, vs, rfl, h1, h2⟩ := seqOf_at R r e
  rcases h1 with h1 | h1
  · exact call_tuple_of pins s σ H _ us Q I rs ⟨a, vs, rfl, .inl ⟨h1, h.newT R h2⟩⟩
  · refine call_tuple_of pins s σ H _ us Q I rs ⟨a, vs, rfl, .inr ⟨h1, h.now R ⟨a, vs, rfl, h1, h2⟩⟩⟩

/-! ### isinstance -/
theorem tyD_at {w : Wd} {G : Hs} (R : Rel K T w G) {d : D} {v : V} (r : RV K w d v) {t : String} (e : tyD G d = some t) : TyX K w.H v (.type t) := by
  cases d with
  | non => cases e; rw [show v = V.non from r]; exact .base .non
  | bl b => cases e; rw [rv_bl r]; exact .base (.bl b)
  | int b => cases e; rw [rv_int r]; exact .base (.int b)
  | str b => cases e; rw [rv_str r]; exact .base (.str _)
  | tup ds =>
    cases e
    obtain ⟨a, vs, rfl, h1, h2⟩ := r
    rcases h1 with (h1 | ⟨o, h1⟩) | ⟨o, its, n, h1, h3, _⟩
    · exact .base (.tup h1)
    · exact .fTuple h1
    · exact .kTuple h1 h3
  | lst ds =>
    cases e
    obtain ⟨a, vs, rfl, h1, h2⟩ := r
    exact .base (.lst h1.2)
  | fz ds =>
    cases e
    obtain ⟨a, vs, rfl, h1, h2⟩ := r
    rcases h1 with ⟨o, h1⟩ | ⟨o, its, n, h1, h3, _⟩
    · exact .base (.frz h1)
    · exact .kList h1 h3
  | ref n =>
    simp only [tyD] at e
    split at e
    · rename_i ds eg
      cases e
      obtain ⟨a, vs, rfl, _, _, h1, _⟩ := cell_at R r eg
      exact .base (.lst h1)
    · rename_i ds eg
      cases e
      obtain ⟨a, vs, rfl, _, _, h1, _⟩ := dct_at R r eg
      exact .base (.dK h1)
    · cases e
theorem tyD_names {G : Hs} {d : D} {t : String} (e : tyD G d = some t) : t = "NoneType" ∨ t = "bool" ∨ t = "int" ∨ t = "str" ∨ t = "tuple" ∨ t = "list" ∨ t = "dict" := by
  cases d <;> simp only [tyD] at e <;> first | (cases e; simp; done) | skip
  split at e <;> first | (cases e; simp; done) | (cases e)
theorem kit_names (c : Ty) {t : String} (e : t = "NoneType" ∨ t = "bool" ∨ t = "int" ∨ t = "str" ∨ t = "tuple" ∨ t = "list" ∨ t = "dict") :
    PySem.W.kitOne K (.type t) (.type c.nm) = some (t == c.nm || (t == "bool" && c.nm == "int")) := by
  cases c <;> rcases e with rfl | rfl | rfl | rfl | rfl | rfl | rfl <;> first | rfl | decide +kernel
end
end Mp
set_option Elab.async false
set_option linter.all false
set_option autoImplicit false
set_option maxRecDepth 100000
set_option maxHeartbeats 1000000
/-! Mp, part 5b: dicts, methods, stores -/
namespace Mp
open PySem PySem.Spec L2
open PyProof.Rows hiding St

variable {K : PySem.W.Frag} {T : List Addr}

def dput (kvs : List (Key × D)) (k : Key) (d : D) : List (Key × D) :=
  if (kvs.any fun kv => decide (kv.1 = k)) = true then kvs.map (fun kv => if kv.1 = k then (kv.1, d) else kv) else kvs ++ [(k, d)]
def dmerge (kvs more : List (Key × D)) : List (Key × D) := more.foldl (fun acc kv => dput acc kv.1 kv.2) kvs
def dictD (d : D) (G : Hs) : Rs := (roOf G d).bind fun ds => (pairsD ds).bind fun ps => some (.ref G.length, G ++ [.dct (dmerge [] ps)])

theorem RKs.put {w : Wd} {kvs : List (Key × D)} {us : List (Key × V)} (r : RKs K w kvs us) (k : Key) {d : D} {v : V} (h : RV K w d v) : RKs K w (dput kvs k d) (putK us k v) := by
  have e : (kvs.any fun kv => decide (kv.1 = k)) = (us.any fun kv => decide (kv.1 = k)) := by
    unfold RKs at r
    induction r with
    | nil => rfl
    | @cons p q ps qs hq t ih => simp only [List.any_cons, ih, hq.1]
  unfold dput putK
  rw [← e]
  split
  · rename_i hany
    clear e hany
    unfold RKs at r ⊢
    induction r with
    | nil => exact .nil
    | @cons p q ps qs hq t ih =>
      refine .cons ?_ ih
      show (if p.1 = k then (p.1, d) else p).1 = (if q.1 = k then (q.1, v) else q).1 ∧ RV K w (if p.1 = k then (p.1, d) else p).2 (if q.1 = k then (q.1, v) else q).2
      by_cases c : p.1 = k
      · rw [if_pos c, if_pos (by rw [← hq.1]; exact c)]
        exact ⟨hq.1, h⟩
      · rw [if_neg c, if_neg (by rw [← hq.1]; exact c)]
        exact hq
  · exact Paired.snoc r ⟨rfl, h⟩
theorem RKs.merge {w : Wd} {more : List (Key × D)} {ms : List (Key × V)} (r : RKs K w more ms) : ∀ {kvs : List (Key × D)} {us : List (Key × V)}, RKs K w kvs us → RKs K w (dmerge kvs more) (mergeK us ms) := by
  unfold RKs at r
  induction r with
  | nil => intro _ _ q; exact q
  | @cons p q ps qs h t ih =>
    intro kvs us q0
    have z := q0.put p.1 h.2
    rw [h.1] at z
    have := ih z
    show RKs K w (dmerge (dput kvs p.1 p.2) ps) (mergeK (putK us q.1 q.2) qs)
    rw [h.1]
    exact this
/-- a list of pairs, as the layer reads it -/
theorem pairsD_at {w : Wd} : ∀ {ds : List D} {vs : List V} {ps : List (Key × D)}, RVs K w ds vs → pairsD ds = some ps →
    ∃ (as : List Addr) (us : List (Key × V)), vs = as.map V.ref ∧ Paired (fun p kv => SqT K w.H p [kV kv.1, kv.2]) as us ∧ RKs K w ps us
  | [], _, _, r, e => by
    cases r; cases e
    exact ⟨[], [], rfl, .nil, .nil⟩
  | d :: t, _, _, r, e => by
    obtain ⟨v, u, rfl, h1, h2⟩ := r
    simp only [pairsD] at e
    cases e1 : pairD d with
    | none => rw [e1] at e; cases e
    | some p =>
      rw [e1] at e
      simp only [Option.bind_some, Option.map_eq_some_iff] at e
      obtain ⟨m, e2, rfl⟩ := e
      obtain ⟨as, us, rfl, h3, h4⟩ := pairsD_at h2 e2
      have : ∃ k x kd, d = .tup [k, x] ∧ keyD k = some kd ∧ p = (kd, x) := by
        match d, e1 with
        | .tup [k, x], e1 =>
          simp only [pairD, Option.map_eq_some_iff] at e1
          obtain ⟨kd, e3, rfl⟩ := e1
          exact ⟨k, x, kd, rfl, e3, rfl⟩
      obtain ⟨k, x, kd, rfl, ek, rfl⟩ := this
      obtain ⟨a, ws, rfl, h5, h6⟩ := h1
      obtain ⟨v1, v2, rfl, h7, h8⟩ := h6.two
      rw [keyD_kV ek h7] at h5
      exact ⟨a :: as, (kd, v2) :: us, rfl, .cons h5 h3, .cons ⟨rfl, h8⟩ h4⟩

section
variable {X : Cx}
theorem call_dictD (hc : X.calm = true) : CallR X (.type "dict") (rn X.K T (one dictD)) := by
  intro pins s σ H xs us Q I rs h0
  obtain ⟨ι, F, G, d, v, rfl, R, r, h⟩ := rn_one h0
  obtain ⟨ds, e, h⟩ := h.ofBind
  obtain ⟨ps, e2, h⟩ := h.ofBind
  obtain ⟨a, vs, rfl, h1, h2⟩ := roOf_at R r e
  obtain ⟨as, kvs, rfl, h3, h4⟩ := pairsD_at h2 e2
  refine call_dictP hc pins s σ H _ us Q I rs ⟨a, as, kvs, rfl, h1, h3, fun p hp => ?_⟩
  have x : Ex2 X.K ⟨ι, F, H⟩ ⟨ι ++ [p], F, upd H p (.dK (mergeK [] kvs))⟩ := Ex2.cell hp
  refine h.to x (R.newCell hp fun nf => ⟨nf, _, upd_same, (h4.merge (kvs := []) (us := []) .nil).ext x.toExt⟩) ⟨p, rfl, ?_⟩
  show (ι ++ [p])[G.length]? = some p
  rw [← R.len, List.getElem?_append_right (Nat.le_refl _), Nat.sub_self]; rfl

/-! ### methods -/
theorem Lift.wr {w : Wd} {G : Hs} {n : Nat} {a : Addr} {o u : HO} {c : Cell} {d : D} {v : V} {Q : V → Hp → Prop} (R : Rel K T w G) (h : Lift K T w (some (d, G.set n c)) Q) (ha : w.ι[n]? = some a) (hF : ¬ w.F a) (hu : w.H a = some u) (hw : Wr u)
    (hc : CellOk K ⟨w.ι, w.F, upd w.H a o⟩ a c) (r : RV K w d v) : Q v (upd w.H a o) :=
  h.to (Ex2.write (List.mem_of_getElem? ha) hF hu hw) (R.write ha hF hu hw hc) (RV.ext (Ext.write hF hu hw) _ _ r)
def appendM (o : D) (xs : List D) (G : Hs) : Rs := match o, xs with
  | .ref n, [x] => match G[n]? with
    | some (.lst ds) => if ds.length < sizeLine then some (.non, G.set n (.lst (ds ++ [x]))) else none
    | _ => none
  | _, _ => none
def extendM (o : D) (xs : List D) (G : Hs) : Rs := match o, xs with
  | .ref n, [x] => match G[n]? with
    | some (.lst ds) => (listOf G x).bind fun es => if ds.length + es.length ≤ sizeLine then some (.non, G.set n (.lst (ds ++ es))) else none
    | _ => none
  | _, _ => none
def popM (o : D) (xs : List D) (G : Hs) : Rs := match o, xs with
  | .ref n, [] => match G[n]? with
    | some (.lst ds) => (ds[ds.length - 1]?).bind fun y => some (y, G.set n (.lst ds.dropLast))
    | _ => none
  | .ref n, [.int i] => match G[n]? with
    | some (.lst ds) => if -(2 ^ 63) ≤ i ∧ i < 2 ^ 63 then (seqIndex? i ds.length).bind fun k => (ds[k]?).bind fun y => some (y, G.set n (.lst (ds.eraseIdx k))) else none
    | _ => none
  | _, _ => none
def indexM (o : D) (xs : List D) (G : Hs) : Rs := match xs with
  | [x] => (listOf G o).bind fun ds => if okC x ∧ okC (.lst ds) then (ds.findIdx? fun z => eqD z x).bind fun j => some (.int (j : Nat), G) else none
  | _ => none
def joinM (o : D) (xs : List D) (G : Hs) : Rs := match o, xs with
  | .str [], [x] => (seqOf G x).bind fun ds => (strsD ds).bind fun ts => if (ts.map (·.length)).sum ≤ 16777216 then some (.str ts.flatten, G) else none
  | _, _ => none
theorem CellOk.lst' {ι : List Addr} {F : Addr → Prop} {H : Hp} {a : Addr} {o : HO} {ds : List D} {vs : List V} (hF : ¬ F a) (hu : H a = some o) (hw : Wr o) (r : RVs K ⟨ι, F, H⟩ ds vs) :
    CellOk K ⟨ι, F, upd H a (.lst vs)⟩ a (.lst ds) := ⟨hF, vs, upd_same, r.ext (Ext.write (w := ⟨ι, F, H⟩) hF hu hw)⟩
theorem mt_appendD : MtR X "list.append" (rm X.K T appendM) := by
  intro pins s σ H x xs v us Q I rx rs h0
  obtain ⟨ι, F, G, d, ds, R, rd, rds, h⟩ := h0
  unfold appendM at h
  split at h
  · rename_i n y
    split at h
    · rename_i zs eg
      obtain ⟨hl, h⟩ := h.ite
      obtain ⟨yv, rfl, ry⟩ := rds.one
      obtain ⟨a, vs, rfl, ea, nf, h1, h2⟩ := cell_at R rd eg
      refine mt_append pins s σ H _ _ v us Q I rx rs ⟨a, vs, yv, rfl, rfl, h1, by rw [← h2.len]; exact hl, ?_⟩
      exact h.wr R ea nf h1 trivial (CellOk.lst' nf h1 trivial (h2.append ⟨yv, [], rfl, ry, rfl⟩)) rfl
    · exact h.no
  · exact h.no
theorem mt_extendD : MtR X "list.extend" (rm X.K T extendM) := by
  intro pins s σ H x xs v us Q I rx rs h0
  obtain ⟨ι, F, G, d, ds, R, rd, rds, h⟩ := h0
  unfold extendM at h
  split at h
  · rename_i n y
    split at h
    · rename_i zs eg
      obtain ⟨es, ee, h⟩ := h.ofBind
      obtain ⟨hl, h⟩ := h.ite
      obtain ⟨yv, rfl, ry⟩ := rds.one
      obtain ⟨a, vs, rfl, ea, nf, h1, h2⟩ := cell_at R rd eg
      obtain ⟨b, ws, rfl, h3, h4⟩ := listOf_at R ry ee
      refine mt_extend pins s σ H _ _ v us Q I rx rs ⟨a, b, vs, ws, rfl, rfl, h1, h3, by rw [← h2.len, ← h4.len]; exact hl, ?_⟩
      exact h.wr R ea nf h1 trivial (CellOk.lst' nf h1 trivial (h2.append h4)) rfl
    · exact h.no
  · exact h.no
theorem mt_popD : MtR X "list.pop" (rm X.K T popM) := by
  intro pins s σ H x xs v us Q I rx rs h0
  obtain ⟨ι, F, G, d, ds, R, rd, rds, h⟩ := h0
  unfold popM at h
  split at h
  · rename_i n
    split at h
    · rename_i zs eg
      obtain ⟨y, ey, h⟩ := h.ofBind
      cases rds
      obtain ⟨a, vs, rfl, ea, nf, h1, h2⟩ := cell_at R rd eg
      obtain ⟨yv, e2, ry⟩ := h2.get ey
      refine mt_pop pins s σ H _ _ v us Q I rx rs ⟨a, vs, yv, rfl, rfl, h1, by rw [← h2.len]; exact e2, ?_⟩
      exact h.wr R ea nf h1 trivial (CellOk.lst' nf h1 trivial h2.dropLast) ry
    · exact h.no
  · rename_i n i
    split at h
    · rename_i zs eg
      obtain ⟨hi, h⟩ := h.ite
      obtain ⟨k, ek, h⟩ := h.ofBind
      obtain ⟨y, ey, h⟩ := h.ofBind
      obtain ⟨yv, rfl, ry⟩ := rds.one
      obtain ⟨a, vs, rfl, ea, nf, h1, h2⟩ := cell_at R rd eg
      obtain ⟨uv, e2, ru⟩ := h2.get ey
      refine mt_popAt pins s σ H _ _ v us Q I rx rs ⟨a, vs, i, k, uv, rfl, by rw [rv_int ry], h1, hi.1, hi.2, by rw [← h2.len]; exact ek, e2, ?_⟩
      exact h.wr R ea nf h1 trivial (CellOk.lst' nf h1 trivial (h2.eraseIdx k)) ru
    · exact h.no
  · exact h.no
theorem toPs_get : ∀ (ds : List D) (j : Nat), (toPs ds)[j]? = (ds[j]?).map toP
  | [], _ => by simp [toPs]
  | d :: r, 0 => by simp [toPs]
  | d :: r, j + 1 => by simp [toPs, toPs_get r j]
theorem okDs_get : ∀ {ds : List D} {j : Nat} {d : D}, okDs ds = true → ds[j]? = some d → okD d = true
  | [], _, _, _, e => by simp at e
  | x :: r, 0, d, h, e => by
    simp only [okDs, Bool.and_eq_true] at h
    simp at e; subst e; exact h.1
  | x :: r, j + 1, d, h, e => by
    simp only [okDs, Bool.and_eq_true] at h
    exact okDs_get h.2 (by simpa using e)
theorem mt_indexM (hu : X.A.units + 65 < cLine) : MtR X "list.index" (rm X.K T indexM) := by
  intro pins s σ H x xs v us Q I rx rs h0
  obtain ⟨ι, F, G, d, ds, R, rd, rds, h⟩ := h0
  unfold indexM at h
  split at h
  · rename_i y
    obtain ⟨zs, ez, h⟩ := h.ofBind
    obtain ⟨⟨c1, c2⟩, h⟩ := h.ite
    obtain ⟨j, ej, h⟩ := h.ofBind
    obtain ⟨yv, rfl, ry⟩ := rds.one
    obtain ⟨a, vs, rfl, h1, h2⟩ := listOf_at R rd ez
    obtain ⟨o1, s1⟩ := okC_shaped c1
    obtain ⟨o2, s2⟩ := okC_shaped c2
    have o2' : okDs zs = true := by simpa only [okD] using o2
    obtain ⟨hj, pj, before⟩ := List.findIdx?_eq_some_iff_getElem.mp ej
    have ezj : zs[j]? = some zs[j] := List.getElem?_eq_getElem hj
    have s2' : SeqAt.shaped (.list (toPs zs)) = true := by simpa only [toP] using s2
    refine mt_indexD hu pins s σ H _ _ v us Q I rx rs ⟨a, yv, toP y, toPs zs, j, toP zs[j], rfl, rfl, .lst (.of h1) (dpDs zs vs o2' h2), dpD y yv o1 ry, s2', s1, by rw [toPs_get, ezj]; rfl,
      by rw [eqD_eqv _ _ (okDs_get o2' ezj) o1]; exact pj, fun m z' hm ez' => ?_, h.now R rfl⟩
    have hm' : m < zs.length := by omega
    have ezm : zs[m]? = some zs[m] := List.getElem?_eq_getElem hm'
    rw [toPs_get, ezm] at ez'
    cases ez'
    rw [eqD_eqv _ _ (okDs_get o2' ezm) o1]
    simpa using before m hm
  · exact h.no
theorem join_nil0 : ∀ ts : List (List Nat), Str.join (mkS []) (ts.map mkS) = mkS ts.flatten
  | [] => rfl
  | [t] => by
    show mkS t = mkS ([t].flatten)
    simp
  | t :: u :: r => by
    have ih := join_nil0 (u :: r)
    show (mkS t ++ mkS [] ++ Str.join (mkS []) ((u :: r).map mkS) : Str) = _
    rw [ih]
    unfold mkS
    rw [toArr, toArr]
    simp
theorem join_nil (ts : List (List Nat)) : Txt.join (mkS []) (ts.map mkS) = mkS ts.flatten := by
  show Builtin.Str.glued _ _ = _
  rw [StrLaws.glued_eq_join]
  exact join_nil0 ts
theorem mt_joinD : MtR X "str.join" (rm X.K T joinM) := by
  intro pins s σ H x xs v us Q I rx rs h0
  obtain ⟨ι, F, G, d, ds, R, rd, rds, h⟩ := h0
  unfold joinM at h
  split at h
  · rename_i y
    obtain ⟨zs, ez, h⟩ := h.ofBind
    obtain ⟨ts, et, h⟩ := h.ofBind
    obtain ⟨hl, h⟩ := h.ite
    obtain ⟨yv, rfl, ry⟩ := rds.one
    obtain ⟨a, vs, rfl, h1, h2⟩ := seqOf_at R ry ez
    have ev := strsD_at h2 et
    subst ev
    refine mt_join pins s σ H _ _ v us Q I rx rs ⟨mkS [], a, ts.map mkS, rd, rfl, h1, ?_, ?_⟩
    · rw [List.map_map]
      have e : ((fun x : Str => x.length) ∘ mkS) = fun x => x.length := by
        funext z
        exact strLen z
      rw [e]
      have e0 : (mkS []).length = 0 := rfl
      rw [e0, Nat.mul_zero, Nat.add_zero]
      exact hl
    · rw [join_nil]
      exact h.now R rfl
  · exact h.no
end
end Mp
set_option Elab.async false
set_option linter.all false
set_option autoImplicit false
set_option maxRecDepth 100000
set_option maxHeartbeats 1000000
/-! Mp: zip of two tuples, list(reversed(list)), list(range(a, b, c)) -/
namespace Mp
open PySem PySem.Spec L2
open PyProof.Rows hiding St

theorem vals_back : ∀ {xs : List V} {us : List Value} {i : Nat} {u : Value}, Vals xs us → us[i]? = some u → ∃ x, xs[i]? = some x ∧ RelV x u
  | _, _, _, _, .nil, e => by simp at e
  | _, _, 0, _, .cons r _, e => by simp at e; subst e; exact ⟨_, rfl, r⟩
  | _, _, i + 1, _, .cons _ t, e => by simpa using vals_back (i := i) t (by simpa using e)
/-- the tuples at a and b, pair by pair -/
def Izt (K : PySem.W.Frag) (a b : Addr) (n : Nat) : It :=
  ⟨fun i H => i < n ∧ ∃ (xs ys : List V), SqT K H a xs ∧ SqT K H b ys ∧ n ≤ xs.length ∧ n ≤ ys.length ∧ n = min xs.length ys.length,
    fun i H v H' => ∃ T x y, v = .ref T ∧ H T = none ∧ H' = upd H T (.tup [x, y]) ∧ (∀ xs, SqT K H a xs → xs[i]? = some x) ∧ ∀ ys, SqT K H b ys → ys[i]? = some y,
    fun i H => i = n ∧ ∃ (xs ys : List V), SqT K H a xs ∧ SqT K H b ys ∧ n = min xs.length ys.length⟩
abbrev ZtSt (z TI TO i1 i2 a b : Addr) (i : Nat) (h : Heap) : Prop := IsZip h z TI TO .none ∧ IsTupOf2 h TI (.ref i1) (.ref i2) ∧ (∃ x y, IsTupOf2 h TO x y) ∧ h.IsTupleIter i1 a i ∧ h.IsTupleIter i2 b i
theorem turn_zipT {P : Program} {w : World} {K : PySem.W.Frag} {elts : List Expr} {kk : Nat} {tpos : Pos} {a b z TI TO i1 i2 : Addr} {n : Nat} (S : ZipSep2 z TI TO i1 i2 [i1, a] [i2, b]) :
    Turn P w K (.Tuple elts kk tpos) (Izt K a b n) [z, TI, TO, i1, i2] z (ZtSt z TI TO i1 i2 a b) where
  mem := by simp
  obj := fun i h ⟨hz, hTI, ⟨x, y, hTO⟩, ⟨o1, e1, _, d1⟩, ⟨o2, e2, _, d2⟩⟩ c hc => by
    simp only [List.mem_cons, List.not_mem_nil, or_false] at hc
    rcases hc with rfl | rfl | rfl | rfl | rfl
    · exact ⟨_, hz, fun v q => nomatch q⟩
    · exact ⟨_, hTI, fun v q => nomatch q⟩
    · exact ⟨_, hTO, fun v q => nomatch q⟩
    · exact ⟨o1, e1, fun v q => by rw [d1] at q; cases q⟩
    · exact ⟨o2, e2, fun v q => by rw [d2] at q; cases q⟩
  keep := fun i h h' ⟨hz, hTI, ⟨x, y, hTO⟩, h1, h2⟩ k =>
    ⟨k z (by simp) _ hz, k TI (by simp) _ hTI, ⟨x, y, k TO (by simp) _ hTO⟩, h1.at fun o q => k i1 (by simp) o q, h2.at fun o q => k i2 (by simp) o q⟩
  item := by
    intro X hP hw hK hc i pins s σ H E I hf st hg
    subst hP hw hK
    obtain ⟨hi, xs, ys, hqx, hqy, hnx, hny, hn⟩ := hg
    obtain ⟨its, rv, p, _⟩ := I.tuple hqx
    obtain ⟨its2, rv2, p2, _⟩ := I.tuple hqy
    have l1 := rv.length
    have l2 := rv2.length
    have hh : X.A.in1.handled = none := I.ok.hd hc
    obtain ⟨hz, hTI, hTO, h1, h2⟩ := st
    have na : a ≠ i1 := fun q => by
      obtain ⟨o1, e1, c1, d1⟩ := h1
      obtain ⟨oo, e3, c3, _⟩ := p
      rw [q, e1] at e3; cases e3
      rw [c1] at c3
      injection c3 with c3
      exact absurd c3 (by decide)
    have nb : b ≠ i2 := fun q => by
      have e : H i2 = none := (hf i2 (by simp)).1
      obtain ⟨o1, e1, c1, d1⟩ := h2
      obtain ⟨oo, e3, c3, _⟩ := p2
      rw [q, e1] at e3; cases e3
      rw [c1] at c3
      injection c3 with c3
      exact absurd c3 (by decide)
    have W := GoesN.zip2 (prog := X.prog) (w := X.w) (A := X.A) (elts := elts) (x1 := kk) (pos := tpos) S (Draws.tuple hh i1 a na its.toArray) (Draws.tuple hh i2 b nb its2.toArray)
    have en : min its.toArray.size its2.toArray.size = n := by rw [List.size_toArray, List.size_toArray, ← l1, ← l2]; exact hn.symm
    have hlt : ∀ c ∈ [z, TI, TO, i1, i2], c < s.heap.objs.size := fun c hcm => by
      simp only [List.mem_cons, List.not_mem_nil, or_false] at hcm
      obtain ⟨_, _, hTO⟩ := hTO
      obtain ⟨_, e1, _⟩ := h1
      obtain ⟨_, e2, _⟩ := h2
      rcases hcm with rfl | rfl | rfl | rfl | rfl
      · exact Heap.lt_size hz
      · exact Heap.lt_size hTI
      · exact Heap.lt_size hTO
      · exact Heap.lt_size e1
      · exact Heap.lt_size e2
    refine wpAny_mono (W.goes i s (fun u s2 => ∃ x H', Inv X pins σ H' s2 ∧ RelV x u ∧ (Izt X.K a b n).yld i H x H' ∧ ZtSt z TI TO i1 i2 a b (i + 1) s2.heap ∧ ∀ b ∈ [z, TI, TO, i1, i2], H' b = none) E (by rw [en]; exact hi)
      ⟨hz, hTI, hTO, ⟨h1, p⟩, ⟨h2, p2⟩⟩ fun v h' tk hY st' hk _ => ?_) (fun r s1 hr => ?_) fun _ _ q => q
    · obtain ⟨T, x, y, rfl, hT, hx, hy, hTup⟩ := hY
      obtain ⟨hz', hTI', hTO', ⟨h1', _⟩, h2', _⟩ := st'
      obtain ⟨xv, ex, rx⟩ := vals_back rv (by simpa using hx)
      obtain ⟨yv, ey, ry⟩ := vals_back rv2 (by simpa using hy)
      have new : ObjOk X.prog X.w (upd H T (.tup [xv, yv])) h' T (.tup [xv, yv]) := ⟨by show 2 ≤ sizeLine; decide, [x, y], .cons rx (.cons ry .nil), hTup⟩
      have I1 : Inv X pins σ (upd H T (.tup [xv, yv])) { s with heap := h', toks := tk } :=
        I.turnedNew (ch := [z, TI, TO, i1, i2]) (fun c o hb q => hk c o (fun q' => hb (by simp only [List.mem_cons, List.not_mem_nil, or_false] at q' ⊢; rcases q' with q' | q' | q' | q' <;> simp [q'])) q) hf hT new
      refine ⟨.ref T, _, I1, rfl, ⟨T, xv, yv, rfl, I.hok.fresh hT, rfl, fun l hl => by rw [I.tuple_inj hl hqx]; exact ex, fun l hl => by rw [I.tuple_inj hl hqy]; exact ey⟩, ⟨hz', hTI', hTO', h1', h2'⟩, fun c hcm => ?_⟩
      rw [upd_ne (Nat.ne_of_lt (Nat.lt_of_lt_of_le (hlt c hcm) hT))]
      exact (hf c hcm).1
    · obtain ⟨v, e, q⟩ := hr
      exact ⟨v, e, q⟩
  done := by
    intro X hP hw hK hc i pins s σ H E I hf st hg
    subst hP hw hK
    obtain ⟨rfl, xs, ys, hqx, hqy, hn⟩ := hg
    obtain ⟨its, rv, p, _⟩ := I.tuple hqx
    obtain ⟨its2, rv2, p2, _⟩ := I.tuple hqy
    have l1 := rv.length
    have l2 := rv2.length
    have hh : X.A.in1.handled = none := I.ok.hd hc
    obtain ⟨hz, hTI, hTO, h1, h2⟩ := st
    have na : a ≠ i1 := fun q => by
      obtain ⟨o1, e1, c1, d1⟩ := h1
      obtain ⟨oo, e3, c3, _⟩ := p
      rw [q, e1] at e3; cases e3
      rw [c1] at c3
      injection c3 with c3
      exact absurd c3 (by decide)
    have nb : b ≠ i2 := fun q => by
      obtain ⟨o1, e1, c1, d1⟩ := h2
      obtain ⟨oo, e3, c3, _⟩ := p2
      rw [q, e1] at e3; cases e3
      rw [c1] at c3
      injection c3 with c3
      exact absurd c3 (by decide)
    have W := GoesN.zip2 (prog := X.prog) (w := X.w) (A := X.A) (elts := elts) (x1 := kk) (pos := tpos) S (Draws.tuple hh i1 a na its.toArray) (Draws.tuple hh i2 b nb its2.toArray)
    have en : min its.toArray.size its2.toArray.size = i := by rw [List.size_toArray, List.size_toArray, ← l1, ← l2]; exact hn.symm
    refine W.stops s (fun s1 => Inv X pins σ H s1) E (by rw [en]; exact ⟨hz, hTI, hTO, ⟨h1, p⟩, ⟨h2, p2⟩⟩) fun h' tk hk _ => ?_
    exact I.turnedL (ch := [z, TI, TO, i1, i2]) (fun c o hb q => hk c o (fun q' => hb (by simp only [List.mem_cons, List.not_mem_nil, or_false] at q' ⊢; rcases q' with q' | q' | q' | q' <;> simp [q'])) q) hf
  self := fun A i s Q E st h => wpAny_pyIter_zip st.1 h
def iZipT (K : PySem.W.Frag) (ta : TA) : TI := fun σ H R => ta σ H fun vs H1 => ∃ a b xs ys, vs = [.ref a, .ref b] ∧ SqT K H1 a xs ∧ SqT K H1 b ys ∧ R (Izt K a b (min xs.length ys.length)) H1
theorem pi_zipT {X : Cx} {e e2 : Expr} {ta : TA} {p pos tpos : Pos} {elts : List Expr} {kk : Nat} (hg : Gl X "zip") (hm : X.mg "zip" = none) (ha : PA X [e, e2] ta)
    (hs : starEach [e, e2] X.env = (false, eval e X.env) :: starEach [e2] X.env := by rfl) (hpl : (backTo pos (starEach [e2] X.env)).any (·.1) = false := by rfl) :
    PI X (.Tuple elts kk tpos) (.Call (.Name "zip" p) [e, e2] [] pos) (iZipT X.K ta) := by
  refine ⟨fun pins s σ H R I h => ?_⟩
  refine Call_ (ld_blt I hg hm PyProof.Rows.boot_zip (PyProof.Rows.callWith_type1 (thn (ha.run pos pins s σ H _ I h) fun us s1 ⟨vs, H1, I1, r1, q1⟩ => ?_) hs hpl))
  obtain ⟨a, b, xs, ys, ex, hqx, hqy, q⟩ := q1
  subst ex
  cases r1 with
  | cons r rr =>
    cases rr with
    | cons r' rr =>
      cases rr
      cases r
      cases r'
      obtain ⟨its, rv, p1, _⟩ := I1.tuple hqx
      obtain ⟨its2, rv2, p2, _⟩ := I1.tuple hqy
      have la : a < s1.heap.objs.size := by obtain ⟨_, e, _⟩ := id p1; exact Heap.lt_size e
      have lb : b < s1.heap.objs.size := by obtain ⟨_, e, _⟩ := id p2; exact Heap.lt_size e
      refine zip_begins2 (begins_tuple a its.toArray) (begins_tuple b its2.toArray) p1 p2 fun h' hz hTI hTO h1 h2 hsz hk => wpAny_pyIter_zip hz ?_
      have I2 : Inv X pins σ H1 { s1 with heap := h' } := I1.kept (t' := s1.toks) hk
      have S := zip_sep2 (N := s1.heap.objs.size) (fp1 := [a]) (fp2 := [b]) (fun c hc => by rw [List.mem_singleton.mp hc]; exact la) (fun c hc => by rw [List.mem_singleton.mp hc]; exact lb)
      refine ⟨s1.heap.objs.size + 4, [s1.heap.objs.size + 4, s1.heap.objs.size + 2, s1.heap.objs.size + 3, s1.heap.objs.size, s1.heap.objs.size + 1], _, _, H1, rfl, I2, turn_zipT S, ⟨hz, hTI, ⟨_, _, hTO⟩, ⟨_, h1, rfl, rfl⟩, ⟨_, h2, rfl, rfl⟩⟩, fun c hcm => ?_, q⟩
      have hle : s1.heap.objs.size ≤ c := by
        simp only [List.mem_cons, List.not_mem_nil, or_false] at hcm
        rcases hcm with z | z | z | z | z <;> rw [z] <;> first | exact Nat.le_add_right _ _ | exact Nat.le_refl _
      exact I1.fpOk hle (I1.hok.fresh hle)
end Mp
set_option Elab.async false
set_option linter.all false
set_option autoImplicit false
set_option maxRecDepth 100000
set_option maxHeartbeats 1000000
/-! Mp: list(reversed(list)), list(range(a, b, c)) -/
namespace Mp
open PySem PySem.Spec L2
open PyProof.Rows hiding St
open RT (nolen_lri hint_lri)

section
variable {prog : Program} {w : World} {A : Around} {E : Value → Shared → Prop} {s : Shared}
theorem init_rev {R : Result → Shared → Prop} {it l S : Addr} {items : Array Value} (hh : A.handled = none) (hit : s.heap.IsRevIter it l ((items.size : Int) - 1)) (hl : s.heap.IsList l items) (hne : l ≠ it) (hn : items.size ≤ sizeLine)
    (hS : s.heap.get? S = some { cls := .type "list", data := .seq #[] })
    (hR : ∀ h' tk acc' c', (∀ b o, b ≠ S → b ≠ it → s.heap.get? b = some o → h'.get? b = some o) → h'.get? S = some { cls := .type "list", dict := none, data := .seq acc' c', slots := #[] } →
      ItemsOf (fun i v => items[items.size - 1 - i]? = some v) acc' items.size → R (.ok (.ret .none)) { s with heap := h', toks := tk }) (hSl : S ≠ l) :
    wpAny (model prog w) A.in1 (Builtin.«list.__init__» ⟨[.ref S, .ref it], []⟩)
      (fun fin s' => match fin with | .done f => R (.ok f) s' | .again c' => c'.quiet = true ∧ codeAny (model prog w) A c' R s') (fun e s' => R (.error e) s') s := by
  have W := (Walks.listRev (prog := prog) (w := w) (A := A.in1) hh it l hne items).toS
  have hTi : s.TypeIs (.ref it) "list_reverseiterator" := hit.typeIs
  have hSi : S ≠ it := fun e => by
    obtain ⟨oi, hoi, hci, _⟩ := id hit
    rw [e, hoi] at hS; cases hS; injection hci with hci; exact absurd hci (by decide)
  have hSf : S ∉ [it, l] := by simp only [List.mem_cons, List.not_mem_nil, or_false, not_or]; exact ⟨hSi, hSl⟩
  show wpAny _ _ (do let old ← Builtin.List.listItems (.ref S); Builtin.List.listUpdate (.ref S) (fun _ => #[]); letGo old.toList.reverse; Builtin.List.listExtendWith (.ref S) (.ref it) .none) _ _ s
  refine wpAny_bind ?_
  unfold Builtin.List.listItems
  refine wpAny_bind (wpAny_seqItems hS rfl (wpAny_pure ?_))
  show wpAny _ _ (updateSeq S (fun _ => #[]) >>= fun _ => letGo (#[] : Array Value).toList.reverse >>= fun _ => Builtin.List.listExtendWith (.ref S) (.ref it) .none) _ _ s
  refine wpAny_bind (wpAny_updateSeq hS rfl ?_)
  have hS₂ := Heap.get?_update_self (Obj.mapSeq (fun _ => (#[] : Array Value))) hS rfl
  have oth : ∀ b o, b ≠ S → s.heap.get? b = some o → (s.heap.update S (Obj.mapSeq (fun _ => (#[] : Array Value)))).get? b = some o :=
    fun b o hb e => (Heap.get?_update_other _ _ (Ne.symm hb)).trans e
  refine wpAny_bind (wpAny_letGo ?_)
  generalize hs2 : ({ s with heap := s.heap.update S (Obj.mapSeq (fun _ => (#[] : Array Value))) } : Shared) = s2
  have e2 : s2.heap = s.heap.update S (Obj.mapSeq (fun _ => (#[] : Array Value))) := by rw [← hs2]
  have hit2 : s2.heap.IsRevIter it l ((items.size : Int) - 1) := hit.at fun o e => by rw [e2]; exact oth it o (Ne.symm hSi) e
  have hl2 : s2.heap.IsList l items := hl.at fun o e => by rw [e2]; exact oth l o (Ne.symm hSl) e
  have hT : s2.TypeIs (.ref it) "list_reverseiterator" := hit2.typeIs
  unfold Builtin.List.listExtendWith
  have h1 : Builtin.List.listSameRef (.ref S) (.ref it) = false := by simp [Builtin.List.listSameRef, hSi]
  refine wpAny_bind (wpAny_typeOf hT ?_)
  rw [if_neg (by rw [h1]; decide)]
  refine wpAny_bind (wpAny_pyIter_revIter hit2 ?_)
  refine wpAny_bind (wpAny_holding ?_)
  unfold Builtin.List.listLengthHint
  refine wpAny_bind (wpAny_specialOf hT nolen_lri ?_)
  show wpAny _ A.in1 (specialOf (Value.ref it) (Str.ofString "__length_hint__") >>= _) _ _ _
  refine wpAny_bind (wpAny_specialOf hT hint_lri ?_)
  generalize hid : ("list_reverseiterator.__length_hint__" : String) = id0
  wp_delta
  rw [show splitId id0 = some ("list_reverseiterator", "__length_hint__") from by subst hid; decide +kernel]
  subst hid
  refine wpAny_bind (wpAny_isInstance (b := true) hT (by rw [isSubtype_type]; kernel_rfl) ?_)
  refine wpAny_pure ?_
  rw [if_neg (by decide)]
  have e0 : ((items.size : Nat) : Int) - 1 - ((0 : Nat) : Int) = (items.size : Int) - 1 := by omega
  refine wpAny_pure ⟨plainId_quiet F.plain_extend_loop _, codeAny_extend_loopS W hn S hSf .none items.size 0 s2 #[] _ rfl (Nat.zero_le _) ⟨Nat.zero_le _, by rw [e0]; exact hit2, hl2⟩ (by rw [e2]; exact hS₂) (ItemsOf.nil _) fun s' acc' c' hm hS' hacc => ?_⟩
  have e3 : s' = { s with heap := s'.heap, toks := s'.toks } := by
    rw [Moved.eq_with hm, ← hs2]
  rw [e3]
  refine hR s'.heap s'.toks acc' c' (fun b o hb hb2 e => hm.heap b o (fun hmem => ?_) (by rw [e2]; exact oth b o hb e)) hS' hacc
  rcases List.mem_cons.mp hmem with e' | hmem
  · exact hb e'
  · exact hb2 (List.mem_singleton.mp hmem)
theorem call_list_revI {it l : Addr} {items : Array Value} {Q : Value → Shared → Prop} (hh : A.handled = none) (hit : s.heap.IsRevIter it l ((items.size : Int) - 1)) (hl : s.heap.IsList l items) (hne : l ≠ it) (hn : items.size ≤ sizeLine)
    (hQ : ∀ h' tk acc' c', (∀ b o, b ≠ it → s.heap.get? b = some o → h'.get? b = some o) → h'.get? s.heap.objs.size = some { cls := .type "list", dict := none, data := .seq acc' c', slots := #[] } →
      ItemsOf (fun i v => items[items.size - 1 - i]? = some v) acc' items.size → Q (.ref s.heap.objs.size) { s with heap := h', toks := tk }) :
    wpAny (model prog w) A (call (.type "list") [.ref it]) Q E s := by
  refine callType_codes (Q₁ := fun obj s₁ => obj = .ref s.heap.objs.size ∧ s₁ = { s with heap := s.heap.push { cls := .type "list", data := .seq #[] } }) F.called_list (F.typeCall_list_1 _) F.entry_list_init
    (code_list_new _ ⟨rfl, rfl⟩) fun obj s₁ h₁ => ?_
  obtain ⟨rfl, rfl⟩ := h₁
  have hS : (s.heap.push { cls := .type "list", data := .seq #[] }).get? s.heap.objs.size = some { cls := .type "list", data := .seq #[] } := Heap.get?_push_size _ rfl
  have lt : l < s.heap.objs.size := by obtain ⟨_, e, _⟩ := id hl; exact Heap.lt_size e
  refine ⟨⟨_, hS, rfl⟩, F.args_list_init_2 _ _, init_rev (A := A.in1) (s := { s with heap := s.heap.push { cls := .type "list", data := .seq #[] } }) hh (hit.at fun o e => Heap.get?_push_of_some _ e) (hl.push _) hne hn hS (fun h' tk acc' c' hk hS' hacc => ?_) (Nat.ne_of_gt lt)⟩
  exact ⟨rfl, hQ h' tk acc' c' (fun b o hb e => hk b o (Nat.ne_of_lt (Heap.lt_size e)) hb (Heap.get?_push_of_some _ e)) hS' hacc⟩
end
def tLstRev (K : PySem.W.Frag) (te : TE) : TE := fun σ H Q => te σ H fun v H1 => ∃ (a : Addr) (xs : List V), v = .ref a ∧ SqL K H1 a xs ∧ ∀ q, H1 q = none → Q (.ref q) (upd H1 q (.lst xs.reverse))
section
variable {X : Cx}
theorem pe_lstRev {e : Expr} {te : TE} {p p2 pos pos2 : Pos} (hc : X.calm = true) (hg : Gl X "list") (hm : X.mg "list" = none) (hg2 : Gl X "reversed") (hm2 : X.mg "reversed" = none) (he : PE X e te)
    (hs : starEach [e] X.env = (false, eval e X.env) :: starEach [] X.env := by rfl)
    (hs2 : starEach [.Call (.Name "reversed" p2) [e] [] pos2] X.env = (false, eval (.Call (.Name "reversed" p2) [e] [] pos2) X.env) :: starEach [] X.env := by rfl) :
    PE X (.Call (.Name "list" p) [.Call (.Name "reversed" p2) [e] [] pos2] [] pos) (tLstRev X.K te) := by
  refine ⟨fun pins s σ H Q I h => ?_⟩
  refine Call_ (ld_blt I hg hm boot_list (PyProof.Rows.callWith_type1 (args_cons (Call_ (ld_blt I hg2 hm2 PyProof.Rows.boot_reversed (PyProof.Rows.callWith_type1 (args_cons (thn (he.run pins s σ H _ I h) fun u s1 ⟨v, H1, I1, r1, q1⟩ => args_nil ?_) hs) hs rfl))) hs2) hs2 rfl))
  obtain ⟨a, xs, ev, hq, q⟩ := q1
  subst ev
  obtain rfl : u = Value.ref a := r1
  obtain ⟨its, rv, p', hz⟩ := I1.list hq
  refine call_reversed_list p'.isList (args_nil ?_)
  have I2 : Inv X pins σ H1 { s1 with heap := s1.heap.push (revObj a ((its.toArray.size : Int) - 1)) } := I1.kept (t' := s1.toks) fun b o e => Heap.get?_push_of_some _ e
  have hl := p'.isList
  have hne : a ≠ s1.heap.objs.size := by obtain ⟨ol, hol, _⟩ := id hl; exact Nat.ne_of_lt (Heap.lt_size hol)
  have hn : its.toArray.size ≤ sizeLine := by rw [List.size_toArray, ← rv.length]; exact hz
  generalize hs2 : ({ s1 with heap := s1.heap.push (revObj a ((its.toArray.size : Int) - 1)) } : Shared) = s2 at I2
  have e2 : s2.heap = s1.heap.push (revObj a ((its.toArray.size : Int) - 1)) := by rw [← hs2]
  have hsz : s2.heap.objs.size = s1.heap.objs.size + 1 := by rw [e2, Heap.size_push]
  show wpAny _ _ (call (.type "list") [.ref s1.heap.objs.size]) _ _ s2
  have hit : s2.heap.IsRevIter s1.heap.objs.size a ((its.toArray.size : Int) - 1) := by rw [e2]; exact ⟨_, Heap.get?_push_size _ rfl, rfl, rfl⟩
  obtain ⟨f0, f1, f2, f3, f4, f5⟩ := I1.fpOk (H' := H1) (b := s1.heap.objs.size) (Nat.le_refl _) (I1.hok.fresh (Nat.le_refl _))
  refine call_list_revI (I1.ok.hd hc) hit (by rw [e2]; exact hl.push _) hne hn fun h' tk acc c' hk e' hi => ?_
  have kk : ∀ b o, b ≠ s1.heap.objs.size → s2.heap.get? b = some o → h'.get? b = some o := fun b o hb e => hk b o hb e
  have I3 : Inv X pins σ H1 { s2 with heap := h', toks := tk } := I2.turned (t' := tk) kk f0 f1 f3 f4 f5
  have hfr : H1 s2.heap.objs.size = none := I2.hok.fresh (Nat.le_refl _)
  refine ⟨.ref s2.heap.objs.size, upd H1 s2.heap.objs.size (.lst xs.reverse), ?_, rfl, q _ hfr⟩
  refine I2.turnedNew (t' := tk) (ch := [s1.heap.objs.size]) (fun b o hb e => kk b o (fun z => hb (by simp [z])) e) (fun b hb => ?_) (Nat.le_refl _) ?_
  · rw [List.mem_singleton.mp hb]
    exact ⟨f0, f1, f2, f3, f4, f5⟩
  · refine ⟨by rw [List.length_reverse]; exact hz, acc.toList, c', RT.vals_rev rv hi, ?_⟩
    rw [Array.toArray_toList]
    exact e'
/-- the ints lo, lo + c, .. -/
def rcV (lo c : Int) (n : Nat) : List V := (List.range n).map fun i => V.int (lo + (i : Nat) * c)
def tLstRg3 (ta : TA) : TE := fun σ H Q => ta σ H fun vs H1 => ∃ (i j c : Int) (n : Nat), vs = [.int i, .int j, .int c] ∧ RgC i j c n ∧ n ≤ 2 ^ 24 ∧ ∀ q, H1 q = none → Q (.ref q) (upd H1 q (.lst (rcV i c n)))
theorem pe_listRg3 {a b c : Expr} {ta : TA} {p p2 pos pos2 : Pos} (hc : X.calm = true) (hg : Gl X "list") (hm : X.mg "list" = none) (hg2 : Gl X "range") (hm2 : X.mg "range" = none) (ha : PA X [a, b, c] ta)
    (hs : starEach [a, b, c] X.env = (false, eval a X.env) :: starEach [b, c] X.env := by rfl) (hpl : (backTo pos2 (starEach [b, c] X.env)).any (·.1) = false := by rfl)
    (hs2 : starEach [.Call (.Name "range" p2) [a, b, c] [] pos2] X.env = (false, eval (.Call (.Name "range" p2) [a, b, c] [] pos2) X.env) :: starEach [] X.env := by rfl) :
    PE X (.Call (.Name "list" p) [.Call (.Name "range" p2) [a, b, c] [] pos2] [] pos) (tLstRg3 ta) := by
  refine ⟨fun pins s σ H Q I h => ?_⟩
  refine Call_ (ld_blt I hg hm boot_list (PyProof.Rows.callWith_type1 (args_cons (Call_ (ld_blt I hg2 hm2 boot_range (PyProof.Rows.callWith_type1 (thn (ha.run pos2 pins s σ H _ I h) fun us s1 ⟨vs, H1, I1, r1, q1⟩ => ?_) hs hpl))) hs2) hs2 rfl))
  obtain ⟨i, j, k, n, e, ⟨c0, c1, c2, c3⟩, hn, q⟩ := q1
  subst e
  cases r1 with
  | cons r rr =>
    cases rr with
    | cons r' rr =>
      cases rr with
      | cons r'' rr =>
        cases rr
        obtain ⟨t, rfl⟩ := r
        obtain ⟨t', rfl⟩ := r'
        obtain ⟨t'', rfl⟩ := r''
        refine call_range_3 c0 (args_nil ?_) (.inl (PyProof.noPylong_small c1))
        have I2 : Inv X pins σ H1 { s1 with heap := s1.heap.push { cls := .type "range", data := .fields #[.int i t, .int j t', .int k t''] } } := I1.kept (t' := s1.toks) fun b o e => Heap.get?_push_of_some _ e
        refine call_list_range (n := n) (I1.ok.hd hc) (IsRange.new ..) c2 c3 hn fun h' tk acc c' hk e' hi => ?_
        generalize hs3 : ({ s1 with heap := s1.heap.push { cls := .type "range", data := .fields #[.int i t, .int j t', .int k t''] } } : Shared) = s3 at *
        refine ⟨.ref s3.heap.objs.size, upd H1 s3.heap.objs.size (.lst (rcV i k n)), I2.laid hk (Nat.le_refl _) ?_, rfl, q _ (I2.hok.fresh (Nat.le_refl _))⟩
        refine ⟨by unfold rcV; rw [List.length_map, List.length_range, sizeLine_eq]; omega, acc.toList, c', ?_, by rw [Array.toArray_toList]; exact e'⟩
        unfold rcV
        have en : acc.toList.length = n := by rw [Array.length_toList]; exact hi.1
        rw [← en]
        refine vals_of_get acc.toList _ fun j u hj => ?_
        obtain ⟨t, rfl⟩ := hi.2 j u (by rw [← hj, Array.getElem?_toList])
        exact ⟨t, rfl⟩
end
end Mp
set_option Elab.async false
set_option linter.all false
set_option autoImplicit false
set_option maxRecDepth 100000
set_option maxHeartbeats 1000000
/-! Mp, part 6: expressions read by plain functions -/
namespace Mp
open PySem PySem.Spec L2
open PyProof.Rows hiding St

variable {K : PySem.W.Frag} {T : List Addr}

def bnd {α : Type} (r : Option (α × Hs)) {β : Type} (k : α → Hs → Option β) : Option β := r.bind fun p => k p.1 p.2
theorem Lift.bnd {w : Wd} {r : Rs} {k : D → Hs → Rs} {Q : V → Hp → Prop} (h : Lift K T w (Mp.bnd r k) Q) :
    ∃ d G1, r = some (d, G1) ∧ ∀ w' v, Ex2 K w w' → Rel K T w' G1 → RV K w' d v → Lift K T w' (k d G1) Q := by
  cases r with
  | none => exact h.no
  | some p => exact ⟨p.1, p.2, rfl, fun w' v x _ _ => Lift.from x h⟩
abbrev Fn := Env' → Hs → Rs
/-- PE is the weaker, the stronger its reading -/
theorem _root_.L2.PE.imp {X : Cx} {e : Expr} {t t' : TE} (h : PE X e t) (m : ∀ σ H Q, t' σ H Q → t σ H Q) : PE X e t' := ⟨fun pins s σ H Q I q => h.run pins s σ H Q I (m σ H Q q)⟩
theorem _root_.L2.PT.imp {X : Cx} {e : Expr} {t t' : TT} (h : PT X e t) (m : ∀ σ H Q, t' σ H Q → t σ H Q) : PT X e t' := ⟨fun pins s σ H Q I q => h.run pins s σ H Q I (m σ H Q q)⟩
theorem _root_.L2.PA.imp {X : Cx} {e : List Expr} {t t' : TA} (h : PA X e t) (m : ∀ σ H Q, t' σ H Q → t σ H Q) : PA X e t' := ⟨fun pos pins s σ H Q I q => h.run pos pins s σ H Q I (m σ H Q q)⟩
theorem _root_.L2.PS.imp {X : Cx} {e : Stmt} {t t' : TS} (h : PS X e t) (m : ∀ D σ H, t' D σ H → t D σ H) : PS X e t' := ⟨fun pins s σ H D I q => h.run pins s σ H D I (m D σ H q)⟩
theorem _root_.L2.PSs.imp {X : Cx} {e : List Stmt} {t t' : TS} (h : PSs X e t) (m : ∀ D σ H, t' D σ H → t D σ H) : PSs X e t' := ⟨fun pins s σ H D I q => h.run pins s σ H D I (m D σ H q)⟩

/-- argument lists: the plain value is the tuple of them -/
def LiftL (K : PySem.W.Frag) (T : List Addr) (w : Wd) (r : Rs) (Q : List V → Hp → Prop) : Prop :=
  ∃ ds G', r = some (.tup ds, G') ∧ ∀ w' vs, Ex2 K w w' → Rel K T w' G' → RVs K w' ds vs → Q vs w'.H
def LA (K : PySem.W.Frag) (T : List Addr) (f : Fn) : TA := fun σ H Q =>
  ∃ ι F ς G, Rel K T ⟨ι, F, H⟩ G ∧ RS K ⟨ι, F, H⟩ ς σ ∧ LiftL K T ⟨ι, F, H⟩ (f ς G) Q
/-- tests -/
def LiftB (K : PySem.W.Frag) (T : List Addr) (w : Wd) (r : Option (Bool × Hs)) (Q : Bool → Hp → Prop) : Prop :=
  ∃ b G', r = some (b, G') ∧ ∀ w', Ex2 K w w' → Rel K T w' G' → Q b w'.H
def LT (K : PySem.W.Frag) (T : List Addr) (f : Env' → Hs → Option (Bool × Hs)) : TT := fun σ H Q =>
  ∃ ι F ς G, Rel K T ⟨ι, F, H⟩ G ∧ RS K ⟨ι, F, H⟩ ς σ ∧ LiftB K T ⟨ι, F, H⟩ (f ς G) Q

section
variable {X : Cx} {a b c : Expr} {es : List Expr} {f g h3 : Fn} {pos : Pos}

/-! names and constants -/
theorem le_v {i : Nat} {x : Str} (hN : X.N[i]? = some x) (hv : Vis X.env.scope x) (hd : (x == ("__debug__" : Str)) = false) (hcd : (x == ("__classdict__" : Str)) = false) :
    PE X (.Name x pos) (LE X.K T fun ς G => (ς[i]?).bind fun o => o.bind fun d => some (d, G)) := by
  refine (pe_var hN hv hd hcd).imp fun σ H Q ⟨ι, F, ς, G, R, S, h⟩ => ?_
  obtain ⟨o, e1, h⟩ := h.ofBind
  obtain ⟨d, e2, h⟩ := h.ofBind
  subst e2
  obtain ⟨v, e3, r⟩ := S.at_ i d e1
  exact ⟨v, e3, h.now R r⟩
/-- a constant's plain value -/
inductive CV : D → V → Prop where
  | non : CV .non .non
  | bl (b : Bool) : CV (.bl b) (.bl b)
  | int (i : Int) : CV (.int i) (.int i)
  | str (cs : List Nat) : CV (.str cs) (.str ⟨cs.toArray⟩)
theorem CV.rv {w : Wd} {d : D} {v : V} (h : CV d v) : RV K w d v := by cases h <;> rfl
theorem le_c {e : Expr} {d : D} {v : V} (he : PE X e (tC v)) (c : CV d v) : PE X e (LE X.K T fun _ G => some (d, G)) :=
  he.imp fun σ H Q ⟨ι, F, ς, G, R, S, h⟩ => h.now R c.rv

/-! operations -/
theorem le_2 {o : D → D → Hs → Rs} {e : Expr} (he : PE X e (tOp (r2 X.K T o) (LE X.K T f) (LE X.K T g))) :
    PE X e (LE X.K T fun ς G => bnd (f ς G) fun x G1 => bnd (g ς G1) fun y G2 => o x y G2) := by
  refine he.imp fun σ H Q ⟨ι, F, ς, G, R, S, h⟩ => ?_
  obtain ⟨x, G1, e1, h⟩ := h.bnd
  refine ⟨ι, F, ς, G, R, S, x, G1, e1, fun w1 xv x1 R1 r1 => ?_⟩
  obtain ⟨y, G2, e2, h2⟩ := (h w1 xv x1 R1 r1).bnd
  refine ⟨w1.ι, w1.F, ς, G1, R1, S.ext x1.toExt, y, G2, e2, fun w2 yv x2 R2 r2' => ?_⟩
  exact ⟨w2.ι, w2.F, G2, x, y, R2, RV.ext x2.toExt _ _ r1, r2', h2 w2 yv x2 R2 r2'⟩
theorem le_1 {o : D → Hs → Rs} {e : Expr} (he : PE X e (tUn (r1 X.K T o) (LE X.K T f))) : PE X e (LE X.K T fun ς G => bnd (f ς G) o) := by
  refine he.imp fun σ H Q ⟨ι, F, ς, G, R, S, h⟩ => ?_
  obtain ⟨x, G1, e1, h⟩ := h.bnd
  refine ⟨ι, F, ς, G, R, S, x, G1, e1, fun w1 xv x1 R1 r1 => ?_⟩
  exact ⟨w1.ι, w1.F, G1, x, R1, r1, h w1 xv x1 R1 r1⟩
theorem le_bin (o : Bop) (ha : PE X a (LE X.K T f)) (hb : PE X b (LE X.K T g)) : PE X (.BinOp a o.py b pos) (LE X.K T fun ς G => bnd (f ς G) fun x G1 => bnd (g ς G1) fun y G2 => binD o x y G2) :=
  le_2 (pe_op (op_bin o) ha hb)
theorem le_catM (ha : PE X a (LE X.K T f)) (hb : PE X b (LE X.K T g)) : PE X (.BinOp a .Add b pos) (LE X.K T fun ς G => bnd (f ς G) fun x G1 => bnd (g ς G1) fun y G2 => catM x y G2) :=
  le_2 (pe_op op_catM ha hb)
def negD (d : D) (G : Hs) : Rs := match d with | .int i => some (.int (-i), G) | _ => none
theorem le_neg (ha : PE X a (LE X.K T f)) : PE X (.UnaryOp .USub a pos) (LE X.K T fun ς G => bnd (f ς G) negD) := le_1 (pe_un un_negD ha)
theorem le_cmp (hu : X.A.units + 65 < cLine) (o : Cop) (ha : PE X a (LE X.K T f)) (hb : PE X b (LE X.K T g)) (hm : behindInMarks o.py b = false) :
    PE X (.Compare a [o.py] [b] pos) (LE X.K T fun ς G => bnd (f ς G) fun x G1 => bnd (g ς G1) fun y G2 => cmpD o x y G2) :=
  le_2 (pe_cmpR (op_cmp hu o) ha hb hm)
def chainD (f g h3 : Fn) (o o' : Cop) (ς : Env') (G : Hs) : Rs :=
  bnd (f ς G) fun x G1 => bnd (g ς G1) fun y G2 => (cmpB o x y G2).bind fun b => if b then bnd (h3 ς G2) fun z G3 => cmpD o' y z G3 else some (.bl false, G2)
theorem chain_in (hu : X.A.units + 65 < cLine) (o o' : Cop) {σ : L2.St} {H : Hp} {Q : VK} (h : LE X.K T (chainD f g h3 o o') σ H Q) : tChain (r2 X.K T (cmpD o)) (r2 X.K T (cmpD o')) (LE X.K T f) (LE X.K T g) (LE X.K T h3) σ H Q := by
  obtain ⟨ι, F, ς, G, R, S, h⟩ := h
  obtain ⟨x, G1, e1, h⟩ := h.bnd
  refine ⟨ι, F, ς, G, R, S, x, G1, e1, fun w1 xv x1 R1 r1 => ?_⟩
  obtain ⟨y, G2, e2, h2⟩ := (h w1 xv x1 R1 r1).bnd
  refine ⟨w1.ι, w1.F, ς, G1, R1, S.ext x1.toExt, y, G2, e2, fun w2 yv x2 R2 r2' => ?_⟩
  obtain ⟨b, eb, h3'⟩ := (h2 w2 yv x2 R2 r2').ofBind
  refine ⟨w2.ι, w2.F, G2, x, y, R2, RV.ext x2.toExt _ _ r1, r2', .bl b, G2, by unfold cmpD; rw [eb]; rfl, fun w3 v x3 R3 rv => ?_⟩
  refine ⟨b, rv, ?_⟩
  cases b with
  | false => exact h3'.to x3 R3 rfl
  | true =>
    have h3'' : Lift X.K T w2 (bnd (h3 ς G2) fun z G3 => cmpD o' y z G3) Q := h3'
    obtain ⟨z, G3, e3, h4⟩ := h3''.bnd
    refine ⟨w3.ι, w3.F, ς, G2, R3, (S.ext x1.toExt).ext (x2.toExt.trans x3.toExt), z, G3, e3, fun w4 zv x4 R4 rz => ?_⟩
    exact ⟨w4.ι, w4.F, G3, y, z, R4, RV.ext (x3.toExt.trans x4.toExt) _ _ r2', rz, h4 w4 zv (x3.trans x4) R4 rz⟩
theorem le_chain (hu : X.A.units + 65 < cLine) (o o' : Cop) (ha : PE X a (LE X.K T f)) (hb : PE X b (LE X.K T g)) (hc : PE X c (LE X.K T h3)) (hm : lastMarks [o.py, o'.py] [b, c] = false) :
    PE X (.Compare a [o.py, o'.py] [b, c] pos) (LE X.K T (chainD f g h3 o o')) :=
  (pe_chain (op_cmp hu o) (op_cmp hu o') ha hb hc hm).imp fun σ H Q h => chain_in hu o o' h

/-! a value as a test -/
def blB (r : Rs) : Option (Bool × Hs) := bnd r fun d G => match d with | .bl b => some (b, G) | _ => none
theorem bnd_eq {α β : Type} {r : Option (α × Hs)} {k : α → Hs → Option β} {b : β} (h : bnd r k = some b) : ∃ x G, r = some (x, G) ∧ k x G = some b := by
  cases r with
  | none => cases h
  | some p => exact ⟨p.1, p.2, rfl, h⟩
theorem blB_eq {r : Rs} {b : Bool} {G : Hs} (h : blB r = some (b, G)) : r = some (.bl b, G) := by
  unfold blB bnd at h
  cases r with
  | none => cases h
  | some p =>
    obtain ⟨d, G1⟩ := p
    cases d <;> first | (cases h; done) | (cases h; rfl)
theorem lt_blB {e : Expr} (he : PT X e (tTest (LE X.K T f))) : PT X e (LT X.K T fun ς G => blB (f ς G)) := by
  refine he.imp fun σ H Q ⟨ι, F, ς, G, R, S, b, G', e, h⟩ => ?_
  exact ⟨ι, F, ς, G, R, S, _, _, blB_eq e, fun w' v x R' r => ⟨_, r, h w' x R'⟩⟩
theorem tTest_of {t : TE} {t' : TE} {σ : L2.St} {H : Hp} {Q : Bool → Hp → Prop} (m : ∀ σ H Q, t' σ H Q → t σ H Q) (h : tTest t' σ H Q) : tTest t σ H Q := m _ _ _ h
theorem lt_cmp (hu : X.A.units + 65 < cLine) (o : Cop) (ha : PE X a (LE X.K T f)) (hb : PE X b (LE X.K T g)) (hm : behindInMarks o.py b = false) :
    PT X (.Compare a [o.py] [b] pos) (LT X.K T fun ς G => blB (bnd (f ς G) fun x G1 => bnd (g ς G1) fun y G2 => cmpD o x y G2)) := by
  refine lt_blB (f := fun ς G => bnd (f ς G) fun x G1 => bnd (g ς G1) fun y G2 => cmpD o x y G2) ((pt_cmpR (op_cmp (T := T) hu o) ha hb hm).imp fun σ H Q h => ?_)
  obtain ⟨ι, F, ς, G, R, S, h⟩ := h
  obtain ⟨x, G1, e1, h⟩ := h.bnd
  refine ⟨ι, F, ς, G, R, S, x, G1, e1, fun w1 xv x1 R1 r1 => ?_⟩
  obtain ⟨y, G2, e2, h2⟩ := (h w1 xv x1 R1 r1).bnd
  refine ⟨w1.ι, w1.F, ς, G1, R1, S.ext x1.toExt, y, G2, e2, fun w2 yv x2 R2 r2' => ?_⟩
  exact ⟨w2.ι, w2.F, G2, x, y, R2, RV.ext x2.toExt _ _ r1, r2', h2 w2 yv x2 R2 r2'⟩
theorem lt_chain (hu : X.A.units + 65 < cLine) (o o' : Cop) (ha : PE X a (LE X.K T f)) (hb : PE X b (LE X.K T g)) (hc : PE X c (LE X.K T h3)) (hm : lastMarks [o.py, o'.py] [b, c] = false) :
    PT X (.Compare a [o.py, o'.py] [b, c] pos) (LT X.K T fun ς G => blB (chainD f g h3 o o' ς G)) :=
  lt_blB (f := chainD f g h3 o o') ((pt_chain (op_cmp (T := T) hu o) (op_cmp (T := T) hu o') ha hb hc hm).imp fun σ H Q h => chain_in hu o o' h)
/-- the truth of a plain value -/
def truD (d : D) (G : Hs) : Option (Bool × Hs) := match d with
  | .non => some (false, G)
  | .bl b => some (b, G)
  | .int i => some (i != 0, G)
  | .str cs => if cs.length ≤ sizeLine then some ((cs.length : Int) != 0, G) else none
  | d => (seqOf G d).bind fun ds => some (!ds.isEmpty, G)
theorem RVs.empty {w : Wd} {ds : List D} {vs : List V} (h : RVs K w ds vs) : ds.isEmpty = vs.isEmpty := by
  have := h.len
  cases ds <;> cases vs <;> simp_all
theorem truD_at {w : Wd} {G : Hs} (R : Rel K T w G) {d : D} {v : V} (r : RV K w d v) {b : Bool} {G' : Hs} (e : truD d G = some (b, G')) : TruV K v w.H b ∧ G' = G := by
  have seq : (seqOf G d).bind (fun ds => some (!ds.isEmpty, G)) = some (b, G') → TruV K v w.H b ∧ G' = G := by
    intro e
    cases es : seqOf G d with
    | none => rw [es] at e; cases e
    | some ds =>
      rw [es] at e; cases e
      obtain ⟨a, vs, rfl, h1, h2⟩ := seqOf_at R r es
      refine ⟨?_, rfl⟩
      rcases h1 with h1 | h1
      · exact .inl ⟨vs, h1, by rw [h2.empty]⟩
      · exact .inr (.inl ⟨vs, h1, by rw [h2.empty]⟩)
  cases d with
  | non => cases e; rw [show v = V.non from r]; exact ⟨rfl, rfl⟩
  | bl _ => cases e; rw [rv_bl r]; exact ⟨rfl, rfl⟩
  | int _ => cases e; rw [rv_int r]; exact ⟨rfl, rfl⟩
  | str cs =>
    simp only [truD] at e
    split at e
    · rename_i hl
      cases e; rw [rv_str r]
      exact ⟨⟨by rw [strLen]; exact hl, by rw [strLen]⟩, rfl⟩
    · cases e
  | tup _ => exact seq e
  | lst _ => exact seq e
  | fz _ => exact seq e
  | ref _ => exact seq e
theorem lt_val (ha : PE X a (LE X.K T f)) (he : ∀ whole, isTrue a X.env whole = (do let v ← whole; standAt a.pos; holding [v] (truthy v))) : PT X a (LT X.K T fun ς G => bnd (f ς G) truD) := by
  refine (pt_truth ha he).imp fun σ H Q ⟨ι, F, ς, G, R, S, b, G', e, h⟩ => ?_
  obtain ⟨d, G1, ef, e⟩ := bnd_eq e
  refine ⟨ι, F, ς, G, R, S, d, G1, ef, fun w' v x R' r => ?_⟩
  obtain ⟨t, eG⟩ := truD_at R' r e
  subst eG
  exact ⟨b, t, h w' x R'⟩

/-! and, or, not, if -/
abbrev FB := Env' → Hs → Option (Bool × Hs)
variable {p q : FB}
theorem LiftB.bnd {w : Wd} {r : Option (Bool × Hs)} {k : Bool → Hs → Option (Bool × Hs)} {Q : Bool → Hp → Prop} (h : LiftB K T w (Mp.bnd r k) Q) :
    ∃ b G1, r = some (b, G1) ∧ ∀ w', Ex2 K w w' → Rel K T w' G1 → LiftB K T w' (k b G1) Q := by
  cases r with
  | none => obtain ⟨_, _, e, _⟩ := h; cases e
  | some p => exact ⟨p.1, p.2, rfl, fun w' x _ => let ⟨b, G', e, q⟩ := h; ⟨b, G', e, fun w'' y => q w'' (x.trans y)⟩⟩
theorem LiftB.now {w : Wd} {G : Hs} {b : Bool} {Q : Bool → Hp → Prop} (R : Rel K T w G) (h : LiftB K T w (some (b, G)) Q) : Q b w.H := by
  obtain ⟨b', G', e, q⟩ := h
  cases e
  exact q w Ex2.refl R
theorem lt_not (ha : PT X a (LT X.K T p)) : PT X (.UnaryOp .Not a pos) (LT X.K T fun ς G => bnd (p ς G) fun b G1 => some (!b, G1)) := by
  refine (pt_not ha).imp fun σ H Q ⟨ι, F, ς, G, R, S, h⟩ => ?_
  obtain ⟨b, G1, e, h⟩ := h.bnd
  exact ⟨ι, F, ς, G, R, S, b, G1, e, fun w' x R' => (h w' x R').now R'⟩
theorem lw_and {rest : List Expr} (ha : PT X a (LT X.K T p)) (hb : PW X (.BoolOp .And (b :: rest) pos) (LT X.K T q)) :
    PW X (.BoolOp .And (a :: b :: rest) pos) (LT X.K T fun ς G => bnd (p ς G) fun b G1 => if b then q ς G1 else some (false, G1)) := by
  refine ⟨fun wh pins s σ H Q I h => (pw_and ha hb).run wh pins s σ H Q I ?_⟩
  obtain ⟨ι, F, ς, G, R, S, h⟩ := h
  obtain ⟨c, G1, e, h⟩ := h.bnd
  refine ⟨ι, F, ς, G, R, S, c, G1, e, fun w' x R' => ?_⟩
  have h' := h w' x R'
  cases c with
  | false => exact h'.now R'
  | true => exact ⟨w'.ι, w'.F, ς, G1, R', S.ext x.toExt, h'⟩
theorem lw_or {rest : List Expr} (ha : PT X a (LT X.K T p)) (hb : PW X (.BoolOp .Or (b :: rest) pos) (LT X.K T q)) :
    PW X (.BoolOp .Or (a :: b :: rest) pos) (LT X.K T fun ς G => bnd (p ς G) fun b G1 => if b then some (true, G1) else q ς G1) := by
  refine ⟨fun wh pins s σ H Q I h => (pw_or ha hb).run wh pins s σ H Q I ?_⟩
  obtain ⟨ι, F, ς, G, R, S, h⟩ := h
  obtain ⟨c, G1, e, h⟩ := h.bnd
  refine ⟨ι, F, ς, G, R, S, c, G1, e, fun w' x R' => ?_⟩
  have h' := h w' x R'
  cases c with
  | true => exact h'.now R'
  | false => exact ⟨w'.ι, w'.F, ς, G1, R', S.ext x.toExt, h'⟩
/-- .. as values -/
def andD (f g : Fn) (ς : Env') (G : Hs) : Rs := bnd (blB (f ς G)) fun b G1 => if b then g ς G1 else some (.bl false, G1)
def orD (f g : Fn) (ς : Env') (G : Hs) : Rs := bnd (blB (f ς G)) fun b G1 => if b then some (.bl true, G1) else g ς G1
theorem Lift.bndB {w : Wd} {r : Option (Bool × Hs)} {k : Bool → Hs → Rs} {Q : V → Hp → Prop} (h : Lift K T w (Mp.bnd r k) Q) :
    ∃ b G1, r = some (b, G1) ∧ ∀ w', Ex2 K w w' → Rel K T w' G1 → Lift K T w' (k b G1) Q := by
  cases r with
  | none => exact h.no
  | some p => exact ⟨p.1, p.2, rfl, fun w' x _ => Lift.from x h⟩
theorem le_and {rest : List Expr} (ha : PE X a (LE X.K T f)) (hb : PE X (.BoolOp .And (b :: rest) pos) (LE X.K T g)) : PE X (.BoolOp .And (a :: b :: rest) pos) (LE X.K T (andD f g)) := by
  refine (pe_and ha hb).imp fun σ H Q ⟨ι, F, ς, G, R, S, h⟩ => ?_
  obtain ⟨c, G1, e, h⟩ := Lift.bndB h
  refine ⟨ι, F, ς, G, R, S, .bl c, G1, blB_eq e, fun w' v x R' r => ⟨c, r, ?_⟩⟩
  have h' := h w' x R'
  cases c with
  | false => exact h'.now R' rfl
  | true => exact ⟨w'.ι, w'.F, ς, G1, R', S.ext x.toExt, h'⟩
theorem le_or {rest : List Expr} (ha : PE X a (LE X.K T f)) (hb : PE X (.BoolOp .Or (b :: rest) pos) (LE X.K T g)) : PE X (.BoolOp .Or (a :: b :: rest) pos) (LE X.K T (orD f g)) := by
  refine (pe_or ha hb).imp fun σ H Q ⟨ι, F, ς, G, R, S, h⟩ => ?_
  obtain ⟨c, G1, e, h⟩ := Lift.bndB h
  refine ⟨ι, F, ς, G, R, S, .bl c, G1, blB_eq e, fun w' v x R' r => ⟨c, r, ?_⟩⟩
  have h' := h w' x R'
  cases c with
  | true => exact h'.now R' rfl
  | false => exact ⟨w'.ι, w'.F, ς, G1, R', S.ext x.toExt, h'⟩
def notD (f : Fn) (ς : Env') (G : Hs) : Rs := bnd (blB (f ς G)) fun b G1 => some (.bl (!b), G1)
theorem le_not (ha : PE X a (LE X.K T f)) : PE X (.UnaryOp .Not a pos) (LE X.K T (notD f)) := by
  refine (pe_not ha).imp fun σ H Q ⟨ι, F, ς, G, R, S, h⟩ => ?_
  obtain ⟨c, G1, e, h⟩ := Lift.bndB h
  exact ⟨ι, F, ς, G, R, S, .bl c, G1, blB_eq e, fun w' v x R' r => ⟨c, r, (h w' x R').now R' rfl⟩⟩
theorem le_ite (hc : PT X c (LT X.K T p)) (ha : PE X a (LE X.K T f)) (hb : PE X b (LE X.K T g)) : PE X (.IfExp c a b pos) (LE X.K T fun ς G => bnd (p ς G) fun t G1 => if t then f ς G1 else g ς G1) := by
  refine (pe_ifExp hc ha hb).imp fun σ H Q ⟨ι, F, ς, G, R, S, h⟩ => ?_
  obtain ⟨t, G1, e, h⟩ := Lift.bndB h
  refine ⟨ι, F, ς, G, R, S, t, G1, e, fun w' x R' => ?_⟩
  have h' := h w' x R'
  cases t with
  | true => exact ⟨w'.ι, w'.F, ς, G1, R', S.ext x.toExt, h'⟩
  | false => exact ⟨w'.ι, w'.F, ς, G1, R', S.ext x.toExt, h'⟩

/-! argument lists, displays -/
theorem la_nil : PA X [] (LA X.K T fun _ G => some (.tup [], G)) := by
  refine pa_nil.imp fun σ H Q ⟨ι, F, ς, G, R, S, ds, G', e, h⟩ => ?_
  cases e
  exact h ⟨ι, F, H⟩ [] Ex2.refl R rfl
def consD (f g : Fn) (ς : Env') (G : Hs) : Rs := bnd (f ς G) fun x G1 => bnd (g ς G1) fun xs G2 => match xs with | .tup r => some (.tup (x :: r), G2) | _ => none
theorem la_cons (ha : PE X a (LE X.K T f)) (hr : PA X es (LA X.K T g)) (hs : starEach (a :: es) X.env = (false, eval a X.env) :: starEach es X.env) : PA X (a :: es) (LA X.K T (consD f g)) := by
  refine (pa_cons ha hr hs).imp fun σ H Q ⟨ι, F, ς, G, R, S, ds, G', e, h⟩ => ?_
  obtain ⟨x, G1, e1, e⟩ := bnd_eq e
  obtain ⟨xs, G2, e2, e⟩ := bnd_eq e
  cases xs <;> first | (cases e; done) | skip
  cases e
  refine ⟨ι, F, ς, G, R, S, x, G1, e1, fun w1 v x1 R1 r1 => ?_⟩
  refine ⟨w1.ι, w1.F, ς, G1, R1, S.ext x1.toExt, _, _, e2, fun w2 vs x2 R2 r2' => ?_⟩
  exact h w2 (v :: vs) (x1.trans x2) R2 ⟨v, vs, rfl, RV.ext x2.toExt _ _ r1, r2'⟩
theorem LiftL.bnd {w : Wd} {r : Rs} {k : List D → Hs → Rs} {Q : V → Hp → Prop} (h : Lift K T w (Mp.bnd r fun xs G1 => match xs with | .tup ds => k ds G1 | _ => none) Q) :
    ∃ ds G1, r = some (.tup ds, G1) ∧ ∀ w', Ex2 K w w' → Lift K T w' (k ds G1) Q := by
  cases r with
  | none => exact h.no
  | some p =>
    obtain ⟨d, G1⟩ := p
    cases d <;> first | exact h.no | skip
    exact ⟨_, G1, rfl, fun w' x => Lift.from x h⟩
/-- a function of the argument list -/
def argD (f : Fn) (k : List D → Hs → Rs) (ς : Env') (G : Hs) : Rs := bnd (f ς G) fun xs G1 => match xs with | .tup ds => k ds G1 | _ => none
theorem le_args {e : Expr} {k : List D → Hs → Rs} (he : PE X e (tCB (rn X.K T k) (LA X.K T f))) : PE X e (LE X.K T (argD f k)) := by
  refine he.imp fun σ H Q ⟨ι, F, ς, G, R, S, h⟩ => ?_
  obtain ⟨ds, G1, e1, h⟩ := LiftL.bnd h
  exact ⟨ι, F, ς, G, R, S, ds, G1, e1, fun w' vs x R' r => ⟨w'.ι, w'.F, G1, ds, R', r, h w' x⟩⟩
def tupK (ds : List D) (G : Hs) : Rs := if ds.length ≤ sizeLine then some (.tup ds, G) else none
def lstK (m : Bool) (ds : List D) (G : Hs) : Rs := if ds.length ≤ sizeLine then newD m ds G else none
theorem le_tup {k1 : Nat} (ha : PA X es (LA X.K T f)) : PE X (.Tuple es k1 pos) (LE X.K T (argD f tupK)) := by
  refine (pe_tup ha).imp fun σ H Q ⟨ι, F, ς, G, R, S, h⟩ => ?_
  obtain ⟨ds, G1, e1, h⟩ := LiftL.bnd h
  refine ⟨ι, F, ς, G, R, S, ds, G1, e1, fun w' vs x R' r => ?_⟩
  obtain ⟨hl, h'⟩ := (h w' x).ite
  exact ⟨by rw [← r.len]; exact hl, h'.newT R' r⟩
theorem le_lst (m : Bool) (ha : PA X es (LA X.K T f)) : PE X (.List es pos) (LE X.K T (argD f (lstK m))) := by
  refine (pe_lst ha).imp fun σ H Q ⟨ι, F, ς, G, R, S, h⟩ => ?_
  obtain ⟨ds, G1, e1, h⟩ := LiftL.bnd h
  refine ⟨ι, F, ς, G, R, S, ds, G1, e1, fun w' vs x R' r => ?_⟩
  obtain ⟨hl, h'⟩ := (h w' x).ite
  exact ⟨by rw [← r.len]; exact hl, h'.newM R' r⟩

/-! subscripts, slices -/
theorem le_ix (hu : X.A.units + 65 < cLine) (ha : PE X a (LE X.K T f)) (hb : PE X b (LE X.K T g)) (hs : PlainIx b) : PE X (.Subscript a b pos) (LE X.K T fun ς G => bnd (f ς G) fun x G1 => bnd (g ς G1) fun y G2 => idxD x y G2) :=
  le_2 (pe_ix (ix_D hu) ha hb hs)
def partI (d : D) (G : Hs) : Option (Option Int × Hs) := match d with | .int i => some (some i, G) | _ => none
def partD (f : Option Fn) (ς : Env') (G : Hs) : Option (Option Int × Hs) := match f with
  | none => some (none, G)
  | some f => bnd (f ς G) partI
def LO (K : PySem.W.Frag) (T : List Addr) (f : Option Fn) : TO := fun σ H Q =>
  ∃ ι F ς G, Rel K T ⟨ι, F, H⟩ G ∧ RS K ⟨ι, F, H⟩ ς σ ∧ ∃ o G', partD f ς G = some (o, G') ∧ ∀ w', Ex2 K ⟨ι, F, H⟩ w' → Rel K T w' G' → Q o w'.H
theorem _root_.L2.PO.imp {e : Option Expr} {t t' : TO} (h : PO X e t) (m : ∀ σ H Q, t' σ H Q → t σ H Q) : PO X e t' := ⟨fun pins s σ H Q I q => h.run pins s σ H Q I (m σ H Q q)⟩
theorem lo_none : PO X none (LO X.K T none) := by
  refine PO.imp po_none fun σ H Q ⟨ι, F, ς, G, R, S, o, G', e, h⟩ => ?_
  cases e
  exact h ⟨ι, F, H⟩ Ex2.refl R
theorem lo_some (ha : PE X a (LE X.K T f)) : PO X (some a) (LO X.K T (some f)) := by
  refine PO.imp (po_some ha) fun σ H Q ⟨ι, F, ς, G, R, S, o, G', e, h⟩ => ?_
  have e0 : bnd (f ς G) partI = some (o, G') := e
  obtain ⟨d, G1, e1, e⟩ := bnd_eq e0
  cases d <;> first | (cases e; done) | skip
  cases e
  exact ⟨ι, F, ς, G, R, S, _, _, e1, fun w' v x R' r => ⟨_, r, h w' x R'⟩⟩
def slF (m : Bool) (f : Fn) (lo hi : Option Fn) (ς : Env') (G : Hs) : Rs := bnd (f ς G) fun x G1 => bnd (partD lo ς G1) fun l G2 => bnd (partD hi ς G2) fun u G3 => slD m x l u G3
theorem le_sl (m : Bool) {lo hi : Option Expr} {l u : Option Fn} {p2 : Pos} (ha : PE X a (LE X.K T f)) (hl : PO X lo (LO X.K T l)) (hh : PO X hi (LO X.K T u)) : PE X (.Subscript a (.Slice lo hi none p2) pos) (LE X.K T (slF m f l u)) := by
  refine (pe_slice (sl_D (T := T) m) ha hl hh).imp fun σ H Q ⟨ι, F, ς, G, R, S, h⟩ => ?_
  obtain ⟨x, G1, e1, h⟩ := h.bnd
  refine ⟨ι, F, ς, G, R, S, x, G1, e1, fun w1 xv x1 R1 r1 => ?_⟩
  have h1 := h w1 xv x1 R1 r1
  cases e2 : partD l ς G1 with
  | none => rw [e2] at h1; exact h1.no
  | some p2 =>
    obtain ⟨o, G2⟩ := p2
    rw [e2] at h1
    refine ⟨w1.ι, w1.F, ς, G1, R1, S.ext x1.toExt, o, G2, e2, fun w2 x2 R2 => ?_⟩
    have h2 : Lift X.K T w1 (bnd (partD u ς G2) fun u G3 => slD m x o u G3) Q := h1
    cases e3 : partD u ς G2 with
    | none => rw [e3] at h2; exact h2.no
    | some p3 =>
      obtain ⟨o', G3⟩ := p3
      rw [e3] at h2
      refine ⟨w2.ι, w2.F, ς, G2, R2, (S.ext x1.toExt).ext x2.toExt, o', G3, e3, fun w3 x3 R3 => ?_⟩
      have h3 : Lift X.K T w1 (slD m x o o' G3) Q := h2
      exact ⟨w3.ι, w3.F, G3, x, R3, RV.ext (x2.toExt.trans x3.toExt) _ _ r1, Lift.from (x2.trans x3) h3⟩
theorem le_rev (m : Bool) {j : Nat} {p1 p2 p3 : Pos} (ha : PE X a (LE X.K T f)) : PE X (.Subscript a (.Slice none none (some (.UnaryOp .USub (.Constant (.int 1) j p1) p2)) p3) pos) (LE X.K T fun ς G => bnd (f ς G) (revD m)) :=
  le_1 (pe_rev (rv_D m) ha)
end
end Mp
set_option Elab.async false
set_option linter.all false
set_option autoImplicit false
set_option maxRecDepth 100000
set_option maxHeartbeats 1000000
/-! Mp, generator expressions under all and any: the element may call -/
namespace GxM
open PySem PySem.Spec L2 GxR
open PyProof.Rows hiding St
open Sem (wp)

/-- where a generator expression's own frame runs -/
abbrev gcx (X : Cx) (A : Around) (s : Shared) (H : Hp) (ge : Env) (fp : List Addr) : Cx :=
  { X with A := A, s_0 := s, H_0 := H, env := ge, outer := X.stack, stack := ge :: X.stack, ex := fp, fn := fun _ => false, pn := [], xe := fun _ _ => False }

section
variable {X : Cx} {pins : List (Addr × Obj)} {σ : L2.St} {H : Hp} {s : Shared}

theorem gen_start {A : Around} {scope : Scope} {own : List (Str × Nat)} {fp : List Addr} {code : Value} {ge : Env} (I : Inv X pins σ H s) (ok : BlkOk X.N X.env.scope scope own)
    (hcell : ∀ y ∈ scope.names, y.2 ≠ .cell) (hN : X.N.Nodup) (hfp : ∀ b ∈ fp, FpOk X pins H b ∧ b < s.heap.objs.size)
    (hge : ge = genEnv scope (cloFrom X.env.cells scope.names []) s.heap.objs.size code builtinsNs X.env) (hA : A.frames = some (ge :: X.stack)) (hh : A.handled = none)
    {h5 : Heap} {g5 : Array GenState} {t5 : Nat} {m : Str → Option Value} (hk : ∀ b o, s.heap.get? b = some o → h5.get? b = some o) (hn : h5.Ns s.heap.objs.size m) (hg : AllBare g5)
    {a : Addr} {ga : Obj} (ha : h5.get? a = some ga) (hal : s.heap.objs.size < a) (hgd : ∀ v, ga.data ≠ .cell v) :
    Inv (gcx X A s H ge fp) [(a, ga)] (wipe σ (own.map (·.2))) H { s with heap := h5, gens := g5, toks := t5 } := by
  have eL : ge.locals = s.heap.objs.size := by rw [hge]; rfl
  have eC : ge.cells = cloFrom X.env.cells scope.names [] := by rw [hge]; rfl
  have eS : ge.scope = scope := by rw [hge]; rfl
  have eF : ge.frame = some ge.locals := by rw [hge]; rfl
  have hfree : ∀ y ∈ scope.names, y.2 = .free → ∃ c, X.env.cells.lookup y.1 = some c := fun y hy e =>
    (ok.free y hy e).elim (fun k => I.ok.has _ (.inl k)) fun k => I.ok.has _ (.inr k)
  -- a cell of the generator's frame is one of the def's
  have isC : ∀ y c, ge.cells.lookup y = some c → X.env.cells.lookup y = some c ∧ c < s.heap.objs.size := fun y c e => by
    rw [eC] at e
    rcases cloFrom_mem (PySem.mem_of_lookup e) with z | ⟨h1, h2⟩
    · cases z
    · obtain ⟨c', e'⟩ := hfree _ h1 rfl
      rw [e'] at h2
      have h2 : c = c' := h2
      subst h2
      obtain ⟨v, z⟩ := I.cell _ _ e'
      exact ⟨e', z.lt⟩
  have toC : ∀ y, scope.names.lookup y = some .free → ∃ c, ge.cells.lookup y = some c ∧ X.env.cells.lookup y = some c := fun y hl => by
    obtain ⟨c', e'⟩ := mem_lookup (cloFrom_has (cells := X.env.cells) (acc := []) (PySem.mem_of_lookup hl))
    rw [← eC] at e'
    exact ⟨c', e', (isC y c' e').1⟩
  have stIn : ∀ b ∈ frs X.stack, b < s.heap.objs.size := fun b hb => by
    obtain ⟨_, o, e, _⟩ := I.stack.mem hb
    exact Heap.lt_size e
  have okG : (gcx X A s H ge fp).Ok := by
    refine ⟨I.ok.mod, ?_, ?_, ?_, ?_, ?_, ?_, ?_, ?_, hA, .inr ⟨rfl, eF⟩, ?_, I.bs, Nat.le_trans I.ok.bsz I.sz, ?_, ?_, I.stack, I.stkFree⟩
    · show ge.scope.kind = _
      rw [eS]; exact ok.kind
    · show ge.globals = _
      rw [hge]; exact I.ok.glob
    · show ge.builtins = _
      rw [hge]; rfl
    · show s.heap.objs.size ≤ ge.locals
      rw [eL]; exact Nat.le_refl _
    · intro y z c e1 e2
      exact I.ok.inj y z c (isC y c e1).1 (isC z c e2).1
    · intro y hy
      have hy : ge.scope.names.lookup y = some .cell ∨ ge.scope.names.lookup y = some .free := hy
      rw [eS] at hy
      rcases hy with hy | hy
      · exact absurd rfl (hcell _ (PySem.mem_of_lookup hy))
      · obtain ⟨c, e, _⟩ := toC y hy
        exact ⟨c, e⟩
    · intro y c z
      cases z
    · intro _; exact hh
    · intro b hb
      refine ⟨?_, fun y c e z => ?_⟩
      · show b ≠ ge.locals
        rw [eL]; exact Nat.ne_of_lt (hfp b hb).2
      · exact (hfp b hb).1.2.2.2.2.1 y c (isC y c e).1 z
    · intro b o e hb
      rcases (hfp b hb).1.2.2.2.1 with z | z
      · exact I.ok.noex b o e z
      · exact absurd (Nat.lt_of_lt_of_le (Heap.lt_size e) (Nat.le_trans I.ok.bsz z)) (Nat.lt_irrefl _)
    · intro b hb z
      rcases List.mem_cons.mp (I.stkSub b z) with z | z
      · exact (hfp b hb).1.2.1 z
      · exact (hfp b hb).1.2.2.1 z
  refine ⟨okG, rfl, hg, Un.kept hk, ⟨m, ?_, ?_⟩, ?_, ?_, ?_, ?_, I.hok.kept hk, by rw [wipe_length]; exact I.len⟩
  · show h5.Ns ge.locals m
    rw [eL]; exact hn
  · intro i y av e1 e2 e3
    obtain ⟨e2, hne⟩ := wipe_some e2
    have e3 : Vis ge.scope y := e3
    rw [eS] at e3
    have noL : ¬ (scope.names.lookup y = some .local ∨ scope.names.lookup y = some .cell) := fun q => by
      have q' : ∃ k, scope.names.lookup y = some k ∧ (k = .local ∨ k = .cell) := q.elim (fun z => ⟨_, z, .inl rfl⟩) fun z => ⟨_, z, .inr rfl⟩
      obtain ⟨k, z, hz⟩ := q'
      rcases ok.own (y, k) (PySem.mem_of_lookup z) hz with e' | e'
      · obtain ⟨p, hp, hpy⟩ := List.mem_map.mp e'
        have z3 := ok.ix p hp
        rw [hpy] at z3
        exact hne (List.mem_map.mpr ⟨p, hp, nodup_ix hN z3 e1⟩)
      · exact e' (List.mem_of_getElem? e1)
    have hf : scope.names.lookup y = some .free := by
      rcases e3 with z | z | z
      · exact absurd (.inl z) noL
      · exact absurd (.inr z) noL
      · exact z
    obtain ⟨c, k1, k2⟩ := toC y hf
    obtain ⟨m0, hn0, hl0⟩ := I.loc
    have hvis : Vis X.env.scope y := (ok.free _ (PySem.mem_of_lookup hf) rfl).elim (fun k => .inr (.inl k)) fun k => .inr (.inr k)
    obtain ⟨u, r, q⟩ := hl0 i y av e1 e2 hvis
    refine ⟨u, r, .inr ⟨.inr (by show ge.scope.names.lookup y = _; rw [eS]; exact hf), c, k1, ?_⟩⟩
    rcases q with ⟨k, _⟩ | ⟨_, c', e', z⟩
    · have k : X.env.scope.names.lookup y = some .local := k
      rcases ok.free _ (PySem.mem_of_lookup hf) rfl with k' | k' <;> rw [show X.env.scope.names.lookup y = _ from k'] at k <;> cases k
    · rw [k2] at e'; cases e'
      exact z.keeps hk
  · intro y c e
    obtain ⟨v, z⟩ := I.cell y c (isC y c e).1
    exact ⟨v, z.keeps hk⟩
  · show H ge.locals = none
    rw [eL]; exact I.hok.fresh (Nat.le_refl _)
  · intro y c e
    exact I.freeC y c (isC y c e).1
  · intro p hp
    have hp : p ∈ [(a, ga)] := hp
    rw [List.mem_singleton.mp hp]
    refine ⟨ha, I.hok.fresh (Nat.le_of_lt hal), ?_, fun z => ?_, hgd⟩
    · show a ≠ ge.locals
      rw [eL]; exact Ne.symm (Nat.ne_of_lt hal)
    · exact Nat.lt_asymm hal (stIn a z)

/-- the loop's end; what a yield hands on -/
def GEnd (Xg : Cx) (pn : List (Addr × Obj)) (σg : L2.St) (Fin : Hp → Prop) : Nat → Shared → Shared → Prop := fun _ _ s => ∃ H', Inv Xg pn σg H' s ∧ Fin H'
def GYld (Xg : Cx) (pn : List (Addr × Obj)) (σg : L2.St) (sb : Bool) (Stp : Hp → Prop) : Protocol := fun _ _ v s kap =>
  ∃ b H', v = .bool b ∧ Inv Xg pn σg H' s ∧ (b = sb → Stp H') ∧ (b ≠ sb → ∀ s'' : Shared, s''.heap = s.heap → s''.os = s.os → AllBare s''.gens → kap (.send .none) s'')

theorem Inv.like {pn : List (Addr × Obj)} (I : Inv X pn σ H s) {s' : Shared} (h1 : s'.heap = s.heap) (h2 : s'.os = s.os) (h3 : AllBare s'.gens) : Inv X pn σ H s' :=
  ⟨I.ok, h2.trans I.os, h3, h1 ▸ I.base, h1 ▸ I.loc, h1 ▸ I.cell, I.free, I.freeC, h1 ▸ I.pin, h1 ▸ I.hok, I.len⟩

theorem seg_gen {A : Around} {elt tg iter : Expr} {scope : Scope} {pos : Pos} {it : Addr} {ge : Env} {fp : List Addr} {J : It} {tn : Nat → Heap → Prop} {g : TG} {te : TE} {vs : List Nat} {pn : List (Addr × Obj)} {sb : Bool} {Fin Stp : Hp → Prop} {W : Nat → Nat → Hp → Prop} {Xg : Cx}
    (hA : Xg.A = A.over (.compLoop (.GeneratorExp elt [⟨tg, iter, [], 0⟩] scope pos) 0 (.ref it) .none ge) []) (hE : Xg.env = ge) (hx : Xg.xe = fun _ _ => False) (hc : Xg.calm = true) (hex : Xg.ex = fp) (hpn : Xg.pn = [])
    (hco : ge.scope.isCoroutine = false)
    (Tn : Turn Xg.prog Xg.w Xg.K tg J fp it tn) (pg : PG Xg tg g) (pe : PE Xg elt te) (hfp : ∀ b ∈ fp, ∀ p ∈ pn, p.1 ≠ b)
    (turn : ∀ i m H, W i m H → (J.stop i H ∧ Fin H) ∨ (J.go i H ∧ ∃ Nx : Hp → Prop, (∀ H', Nx H' → ∃ m', m' < m ∧ W (i + 1) m' H') ∧ ∀ x H', J.yld i H x H' → g x (wipe σ vs) H' fun σ2 H2 => wipe σ2 vs = wipe σ vs ∧
      te σ2 H2 fun y H3 => ∃ b, y = .bl b ∧ if b = sb then Stp H3 else Nx H3)) :
    ∀ (m n i : Nat) (H : Hp) (s₀ s : Shared), m < n → W i m H → Inv Xg pn (wipe σ vs) H s → tn i s.heap → (∀ b ∈ fp, H b = none) →
      Seg (model Xg.prog Xg.w) A (fun n s₀ r s₁ => r = .ok .next ∧ GEnd Xg pn (wipe σ vs) Fin n s₀ s₁) (GYld Xg pn (wipe σ vs) sb Stp) n s₀
        (.compLoop (.GeneratorExp elt [⟨tg, iter, [], 0⟩] scope pos) 0 (.ref it) .none ge)
        ((model Xg.prog Xg.w).den (.compLoop (.GeneratorExp elt [⟨tg, iter, [], 0⟩] scope pos) 0 (.ref it) .none ge)) [] s := by
  have stat : ∀ {σ' : L2.St} {H' : Hp} {s' : Shared}, Inv Xg pn σ' H' s' → (∀ b ∈ fp, H' b = none) → ∀ b ∈ fp, FpOk Xg pn H' b := fun {σ' H' s'} I' hn b hb => by
    have hb' : b ∈ Xg.ex := by rw [hex]; exact hb
    refine ⟨hn b hb, (I'.ok.exf b hb').1, I'.ok.exfs b hb', .inl hb', fun x c e => (I'.ok.exf b hb').2 x c e, fun p hp => ?_⟩
    rw [hpn] at hp
    exact hfp b hb p hp
  intro m
  induction m using Nat.strongRecOn with
  | ind m ih =>
    intro n i H s₀ s hmn w0 I st0 n0
    show Seg _ A _ _ _ s₀ _ ((compTurn (.GeneratorExp elt [⟨tg, iter, [], 0⟩] scope pos) 0 (.ref it) .none ge).onRaise (leaving ge)) [] s
    rw [compTurn_gen, Sem.onRaise_eq_wrap]
    refine seg_bind_wrap (wpAny_standAt ?_)
    rcases turn i m H w0 with ⟨stop, fin⟩ | ⟨go, Nx, hNx, step⟩
    · refine seg_bind_wrap ?_
      rw [← hA]
      refine thnF (Tn.done Xg rfl rfl rfl hc i pn s _ H (fun _ _ => False) I (stat I n0) st0 stop) fun r s1 ⟨hr, I1⟩ => ?_
      subst hr
      exact seg_end (.ok .next) ⟨rfl, H, I1, fin⟩
    · refine seg_bind_wrap ?_
      rw [← hA]
      refine thnF (Tn.item Xg rfl rfl rfl hc i pn s _ H (fun _ _ => False) I (stat I n0) st0 go) fun r s1 ⟨u, hr, h1⟩ => ?_
      subst hr
      refine seg_bind_wrap ?_
      rw [← hA]
      refine thnF h1 fun _ s2 ⟨x, H2, I2, r2, y2, st2, n2⟩ => ?_
      have I2p := I2.pinned (stat I2 n2) (Tn.obj _ _ st2)
      refine seg_bind_wrap ?_
      rw [← hA]
      have hasg := pg.run _ s2 _ H2 x u _ I2p r2 (step x H2 y2)
      rw [hE, hx] at hasg
      refine thnF hasg fun _ s3 ⟨σ3, H3, I3, hw3, q3⟩ => ?_
      simp only [List.forIn_nil]
      refine seg_bind_wrap (wpAny_pure ?_)
      simp only [if_true]
      have hy : ∀ v, yieldOut ge v = yieldValue v := fun v => by simp only [yieldOut, hco, Bool.false_eq_true, if_false]
      simp only [hy]
      rw [Sem.bind_eq_wrap', Sem.bind_eq_wrap', Sem.wrap_wrap, Sem.wrap_wrap]
      refine seg_wrap ?_
      rw [← hA]
      have hel := pe.run _ s3 σ3 H3 _ I3 q3
      rw [hE, hx] at hel
      refine thnF hel fun z s4 ⟨yv, H4, I4, r4, b, hb, q4⟩ => ?_
      subst hb
      have r4 : z = .bool b := r4
      subst r4
      -- the iterator's records stand
      have pin' : ∀ c ∈ fp, ∀ o, s2.heap.get? c = some o → s4.heap.get? c = some o ∧ H4 c = none := fun c hc o e =>
        let q := I4.pin (c, o) (List.mem_append_right _ (List.mem_append_right _ (mem_pinsAt hc e)))
        ⟨q.1, q.2.1⟩
      have I5 : Inv Xg pn (wipe σ vs) H4 s4 := by
        have hl : (wipe σ vs).length = σ3.length := by rw [← hw3, wipe_length]
        refine (I4.unpinned (pins := pn)).weak hl fun j v e => ?_
        rw [← hw3] at e
        exact (wipe_some e).1
      obtain ⟨n', rfl⟩ : ∃ n', n = n' + 1 := ⟨n - 1, by omega⟩
      refine seg_at (seg_yield rfl rfl rfl ⟨b, H4, rfl, I5, fun eb => ?_, fun nb s'' e1 e2 e3 => ?_⟩)
      · rw [if_pos eb] at q4; exact q4
      · rw [if_neg nb] at q4
        obtain ⟨m', hm', w'⟩ := hNx H4 q4
        refine seg_again rfl (ih m' hm' n' (i + 1) H4 s'' s'' (by omega) w' (Inv.like I5 e1 e2 e3) ?_ fun c hc => ?_)
        · rw [e1]
          exact Tn.keep _ _ _ st2 fun c hc o e => (pin' c hc o e).1
        · obtain ⟨o, e, _⟩ := Tn.obj _ _ st2 c hc
          exact (pin' c hc o e).2

/-- the generator at a sleeps, ready for at most n more -/
def GSt (Xg : Cx) (A : Around) (pn : List (Addr × Obj)) (σg : L2.St) (sb : Bool) (Fin Stp : Hp → Prop) (a : Addr) (gi n : Nat) (s : Shared) : Prop :=
  s.heap.IsGen a gi ∧ s.heap.NoLimit ∧ AllBare s.gens ∧ ∃ gs, s.gens[gi]? = some gs ∧ ∀ s'' : Shared, s''.heap = s.heap → s''.os = s.os → AllBare s''.gens →
    gs.Goes (model Xg.prog Xg.w) A (fun n s₀ r s₁ => r = .ok .next ∧ GEnd Xg pn σg Fin n s₀ s₁) (GYld Xg pn σg sb Stp) n (.send .none) s''
theorem setGen_bare {s : Shared} {g : Nat} {x : GenState} (h : AllBare s.gens) (hx : x.bare = true) : AllBare (s.setGen g x).gens := by
  intro y hy
  have hy : y ∈ s.gens.setIfInBounds g x := hy
  rcases Array.mem_or_eq_of_mem_setIfInBounds hy with z | z
  · exact h y z
  · rw [z]; exact hx
/-- one turn of the consumer -/
theorem gen_next {Xg : Cx} {A : Around} {pn : List (Addr × Obj)} {σg : L2.St} {sb : Bool} {Fin Stp : Hp → Prop} {a : Addr} {gi n : Nat} {s : Shared} {ga : Obj} {E : Value → Shared → Prop} {Q : Option Value → Shared → Prop}
    (hh : A.handled = none) (hroom : A.depth < recursionLimit) (hpin : (a, ga) ∈ pn) (hga : ∀ h : Heap, h.get? a = some ga → h.IsGen a gi) (st : GSt Xg A.in1 pn σg sb Fin Stp a gi n s)
    (hfin : ∀ s' H', Inv Xg pn σg H' s' → Fin H' → Q none s') (hstp : ∀ s' H', Inv Xg pn σg H' s' → Stp H' → Q (some (.bool sb)) s')
    (hgo : ∀ s' m, m < n → GSt Xg A.in1 pn σg sb Fin Stp a gi m s' → Q (some (.bool (!sb))) s') :
    wpAny (model Xg.prog Xg.w) A (pyNext (.ref a)) Q E s := by
  obtain ⟨hg, hl, hb, gs, hgs, hrun⟩ := st
  have hlt : gi + 1 ≤ s.gens.size := (Array.getElem?_eq_some_iff.mp hgs).1
  refine GenW.wpAny_gsz hlt ?_
  refine wpAny_pyNext_genexpQ (P := GEnd Xg pn σg Fin) (Y := GYld Xg pn σg sb Stp) (n := n) hh hl hroom hg hgs (hrun _ rfl rfl (setGen_bare hb rfl)) (fun v s₁ gs' hbr hy => ?_) (fun s₁ hp h' hk => ?_)
  · obtain ⟨b, H', rfl, I, hst, hgo'⟩ := hy
    intro hsz
    rw [GenW.setGen_size] at hsz
    have I' : Inv Xg pn σg H' (s₁.setGen gi gs') := Inv.like I rfl rfl (setGen_bare I.bare hbr)
    by_cases e : b = sb
    · rw [e]; exact hstp _ H' I' (hst e)
    · have eb : b = !sb := by cases b <;> cases sb <;> simp_all
      rw [eb]
      cases n with
      | zero => exact (hgo' e s₁ rfl rfl I.bare).elim
      | succ m =>
        refine hgo _ m (Nat.lt_succ_self m) ⟨hga _ ?_, I'.nolimit, I'.bare, gs', ?_, fun s'' e1 e2 e3 => ?_⟩
        · exact (I'.pin (a, ga) (List.mem_append_right _ hpin)).1
        · show (s₁.gens.setIfInBounds gi gs')[gi]? = some gs'
          rw [Array.getElem?_setIfInBounds_self_of_lt hsz]
        · exact hgo' e s'' e1 e2 e3
  · obtain ⟨H', I, hf⟩ := hp
    intro _
    have I1 : Inv Xg pn σg H' (s₁.setGen gi .finished) := Inv.like I rfl rfl (setGen_bare I.bare rfl)
    exact hfin _ H' (I1.kept (t' := (s₁.setGen gi .finished).toks) hk) hf

theorem gen_all {Xg : Cx} {A : Around} {pn : List (Addr × Obj)} {σg : L2.St} {Fin Stp : Hp → Prop} {a : Addr} {gi : Nat} {ga : Obj} {R : Result → Shared → Prop}
    (hh : A.handled = none) (hroom : A.depth < recursionLimit) (hpin : (a, ga) ∈ pn) (hga : ∀ h : Heap, h.get? a = some ga → h.IsGen a gi)
    (hfin : ∀ s' H', Inv Xg pn σg H' s' → Fin H' → R (.ok (.ret (.bool true))) s') (hstp : ∀ s' H', Inv Xg pn σg H' s' → Stp H' → R (.ok (.ret (.bool false))) s') :
    ∀ (n : Nat) (s : Shared), GSt Xg A.in1.in1 pn σg false Fin Stp a gi n s → codeAny (model Xg.prog Xg.w) A (.builtin "all.loop" ⟨[.ref a], []⟩) R s := by
  intro n
  induction n using Nat.strongRecOn with
  | ind n ih =>
    intro s st
    refine codeAny_builtin F.entry_all_loop ?_
    rw [Around.under_plainId F.plain_all_loop _]
    refine wpAny_bind (m := pyNext (.ref a)) (gen_next (A := A.in1) hh hroom hpin hga st (fun s' H' I f => ?_) (fun s' H' I f => ?_) fun s' m hm st' => ?_)
    · exact wpAny_bind (wpAny_rule (wpAny_pure (hfin s' H' I f)))
    · refine wpAny_bind (wpAny_holding (wpAny_truthy_bool (wpAny_bind (wpAny_letGo ?_))))
      simp only [Bool.false_eq_true, if_false]
      exact wpAny_bind (wpAny_rule (wpAny_pure (hstp s' H' I f)))
    · refine wpAny_bind (wpAny_holding (wpAny_truthy_bool (wpAny_bind (wpAny_letGo ?_))))
      simp only [Bool.not_false, if_true]
      exact wpAny_pure ⟨plainId_quiet F.plain_all_loop _, ih m hm s' st'⟩
theorem gen_any {Xg : Cx} {A : Around} {pn : List (Addr × Obj)} {σg : L2.St} {Fin Stp : Hp → Prop} {a : Addr} {gi : Nat} {ga : Obj} {R : Result → Shared → Prop}
    (hh : A.handled = none) (hroom : A.depth < recursionLimit) (hpin : (a, ga) ∈ pn) (hga : ∀ h : Heap, h.get? a = some ga → h.IsGen a gi)
    (hfin : ∀ s' H', Inv Xg pn σg H' s' → Fin H' → R (.ok (.ret (.bool false))) s') (hstp : ∀ s' H', Inv Xg pn σg H' s' → Stp H' → R (.ok (.ret (.bool true))) s') :
    ∀ (n : Nat) (s : Shared), GSt Xg A.in1.in1 pn σg true Fin Stp a gi n s → codeAny (model Xg.prog Xg.w) A (.builtin "any.loop" ⟨[.ref a], []⟩) R s := by
  intro n
  induction n using Nat.strongRecOn with
  | ind n ih =>
    intro s st
    refine codeAny_builtin F.entry_any_loop ?_
    rw [Around.under_plainId F.plain_any_loop _]
    refine wpAny_bind (m := pyNext (.ref a)) (gen_next (A := A.in1) hh hroom hpin hga st (fun s' H' I f => ?_) (fun s' H' I f => ?_) fun s' m hm st' => ?_)
    · exact wpAny_bind (wpAny_rule (wpAny_pure (hfin s' H' I f)))
    · refine wpAny_bind (wpAny_holding (wpAny_truthy_bool (wpAny_bind (wpAny_letGo ?_))))
      simp only [if_true]
      exact wpAny_bind (wpAny_rule (wpAny_pure (hstp s' H' I f)))
    · refine wpAny_bind (wpAny_holding (wpAny_truthy_bool (wpAny_bind (wpAny_letGo ?_))))
      simp only [Bool.not_true, Bool.false_eq_true, if_false]
      exact wpAny_pure ⟨plainId_quiet F.plain_any_loop _, ih m hm s' st'⟩

theorem seg_go {A : Around} {R : GenEnd} {Y : Protocol} {n : Nat} {s₀ s : Shared} {prog : Program} {w : World} {elt tg iter : Expr} {scope : Scope} {pos : Pos} {it : Addr} {ge : Env}
    (hself : ∀ (A' : Around) (Q : Value → Shared → Prop) (E : Value → Shared → Prop), Q (.ref it) s → wpAny (model prog w) A' (pyIter (.ref it)) Q E s)
    (loop : Seg (model prog w) A R Y n s₀ (.compLoop (.GeneratorExp elt [⟨tg, iter, [], 0⟩] scope pos) 0 (.ref it) .none ge)
        ((model prog w).den (.compLoop (.GeneratorExp elt [⟨tg, iter, [], 0⟩] scope pos) 0 (.ref it) .none ge)) [] s) :
    Seg (model prog w) A R Y n s₀ (.compStart (.GeneratorExp elt [⟨tg, iter, [], 0⟩] scope pos) 0 (.ref it) .none ge)
        ((model prog w).den (.compStart (.GeneratorExp elt [⟨tg, iter, [], 0⟩] scope pos) 0 (.ref it) .none ge)) [] s := by
  show Seg _ A R Y n s₀ _ ((compStart (.GeneratorExp elt [⟨tg, iter, [], 0⟩] scope pos) 0 (.ref it) .none ge).onRaise (leaving ge)) [] s
  unfold compStart
  rw [Sem.onRaise_eq_wrap]
  show Seg _ A R Y n s₀ _ ((ask >>= _).wrap _ _ _ _) [] s
  refine seg_bind_wrap (wpAny_askSetting ?_)
  split
  · exact seg_again rfl loop
  · refine seg_bind_wrap (wpAny_rule ?_)
    show Seg _ A R Y n s₀ _ ((standAt iter.pos >>= _).wrap _ _ _ _) [] s
    refine seg_bind_wrap (wpAny_standAt ?_)
    exact seg_bind_wrap (hself _ _ _ (seg_again rfl loop))

/-- all(e for t in i), any(e for t in i): sb is the answer at which it stops -/
def tGen (sb : Bool) (P : Addr) (wi : TI) (g : TG) (te : TE) (vs : List Nat) : TE := fun σ H Q => wi σ H fun J H1 => TabG H1 P ∧ ∀ H2, Tabbed P H1 H2 →
  ∃ W : Nat → Nat → Hp → Prop, (∃ m, W 0 m H2) ∧ ∀ i m H, W i m H → (J.stop i H ∧ Q (.bl (!sb)) H) ∨ (J.go i H ∧ ∃ Nx : Hp → Prop, (∀ H', Nx H' → ∃ m', m' < m ∧ W (i + 1) m' H') ∧ ∀ x H', J.yld i H x H' → g x (wipe σ vs) H' fun σ2 H2 => wipe σ2 vs = wipe σ vs ∧
      te σ2 H2 fun y H3 => ∃ b, y = .bl b ∧ if b = sb then Q (.bl sb) H3 else Nx H3)

/-- what is asked of the generator expression's scope -/
structure GxS (scope : Scope) : Prop where
  co : scope.isCoroutine = false
  cell : ∀ y ∈ scope.names, y.2 ≠ .cell
  dot : scope.names.lookup (".0" : Str) = some NameKind.local

theorem over_gen {A : Around} {elt tg iter : Expr} {scope : Scope} {pos : Pos} {it : Addr} {ge : Env} : (A.over (.compLoop (.GeneratorExp elt [⟨tg, iter, [], 0⟩] scope pos) 0 (.ref it) .none ge) []).frames = pushEnvs [ge] A.frames := by
  first | rfl | simp [Around.over, pushEnvs, Code.envs, Code.env?, Code.isFrame, envsOf]
theorem Room.gen {k : Nat} {A : Around} {elt tg iter : Expr} {scope : Scope} {pos : Pos} {it : Addr} {ge : Env} (r : Room (k + 2) A) :
    Room k (A.in1.in1.over (.compLoop (.GeneratorExp elt [⟨tg, iter, [], 0⟩] scope pos) 0 (.ref it) .none ge) []) := by
  have r2 : Room k A.in1.in1 := (r.in1).in1
  have e1 : (A.in1.in1.over (.compLoop (.GeneratorExp elt [⟨tg, iter, [], 0⟩] scope pos) 0 (.ref it) .none ge) []).depth = A.in1.in1.depth + 1 := by rfl
  have e2 : (A.in1.in1.over (.compLoop (.GeneratorExp elt [⟨tg, iter, [], 0⟩] scope pos) 0 (.ref it) .none ge) []).units = A.in1.in1.units + 3 := by rfl
  have d0 : A.in1.in1.depth = A.depth := by rfl
  have u0 : A.in1.in1.units ≤ A.units + 8 := by
    show A.units + _ + _ ≤ _
    omega
  refine ⟨r2.hd, ?_, ?_⟩
  · have := r.dp; omega
  · have := r.un; omega

/-- the generator is made, asleep -/
theorem gen_made {c P : Addr} {elt tg iter : Expr} {gpos : Pos} {scope : Scope} {own : List (Str × Nat)} {wi : TI} {g : TG} {te : TE} {k : Nat} {sb : Bool} {pins : List (Addr × Obj)} {Q : VK} {Q' : Value → Shared → Prop}
    (hr : Room (k + 2) X.A) (TB : TabB X.base X.mg c P) (hcode : X.env.code = .ref c) (hN : X.N.Nodup) (hc : X.calm = true) (hi : PI X tg iter wi) (ok : BlkOk X.N X.env.scope scope own) (S : GxS scope)
    (hpg : ∀ (A : Around) (s : Shared) (H : Hp) (cl : List (Str × Addr)) (C : Addr) (code : Value) (fp : List Addr), PG (gcx X A s H (genEnv scope cl C code builtinsNs X.env) fp) tg g)
    (hpe : ∀ (A : Around) (s : Shared) (H : Hp) (cl : List (Str × Addr)) (C : Addr) (code : Value) (fp : List Addr), Room k A → PE (gcx X A s H (genEnv scope cl C code builtinsNs X.env) fp) elt te)
    (hs : ∀ v, genFold iter X.env v = pure v) (I : Inv X pins σ H s) (h : tGen sb P wi g te (own.map (·.2)) σ H Q)
    (hQ : ∀ (Xg : Cx) (a : Addr) (gi n : Nat) (ga : Obj) (σg : L2.St) (s5 : Shared) (Fin Stp : Hp → Prop), Xg.prog = X.prog → Xg.w = X.w → (∀ h : Heap, h.get? a = some ga → h.IsGen a gi) → s5.heap.IsGen a gi →
      GSt Xg X.A.in1.in1 [(a, ga)] σg sb Fin Stp a gi n s5 →
      (∀ s' H', Inv Xg [(a, ga)] σg H' s' → Fin H' → EP X pins σ Q (.bool (!sb)) s') → (∀ s' H', Inv Xg [(a, ga)] σg H' s' → Stp H' → EP X pins σ Q (.bool sb) s') → Q' (.ref a) s5) :
    wpAny (model X.prog X.w) X.A (eval (.GeneratorExp elt [⟨tg, iter, [], 0⟩] scope gpos) X.env) Q' X.xe s := by
  have hfree : ∀ y ∈ scope.names, y.2 = .free → ∃ c, X.env.cells.lookup y.1 = some c := fun y hy e =>
    (ok.free y hy e).elim (fun k => I.ok.has _ (.inl k)) fun k => I.ok.has _ (.inr k)
  refine wpAny_GeneratorExp_make S.co (closure_ok hfree) S.cell S.dot ok.kind (by have := hr.dp; omega) ?_ hs
  refine thn (hi.run pins s σ H _ I h) fun xv s1 hx => thn hx fun itv s2 hp => ?_
  obtain ⟨it, fp, tn, J, H2, rfl, I2, Tn, st2, f2, hT, hW⟩ := hp
  obtain ⟨ps, hP, ht⟩ := hT
  have hPs : s2.heap.get? P = some { cls := .none, data := .fields ps } := I2.hok P _ hP
  have cd : PySem.W.CodeHd s2.heap c P := TB.code.keeps fun b u e => I2.bk b u e
  refine ⟨I2.nolimit, ?_⟩
  -- behind the code object: the state s3, the table grown
  have cont : ∀ (code : Value) (h3 : Heap) (tk : Nat) (more : Array Value), Heap.ExtBut P s2.heap h3 → s2.heap.objs.size ≤ h3.objs.size → h3.get? P = some { cls := .none, data := .fields (ps ++ more) } → TriplesOk (ps ++ more).toList →
      wpAny (model X.prog X.w) X.A (builtinsFor X.env.globals X.env.builtins) (fun bi s₄ =>
        ∀ h', h'.Ns s₄.heap.objs.size (fun y => if y = ".0" then some (.ref it) else none) → Heap.SameBut s₄.heap.objs.size (s₄.heap.push { cls := .type "frame", data := .dict #[] }) h' →
          Q' (.ref h'.objs.size) { s₄ with
            gens := s₄.gens.push (.fresh (.compStart (.GeneratorExp elt [⟨tg, iter, [], 0⟩] scope gpos) 0 (.ref it) .none (genEnv scope (cloFrom X.env.cells scope.names []) s₄.heap.objs.size code bi X.env))),
            toks := s₄.toks + 1 + 1 + 1,
            heap := h'.push { cls := .type "generator", data := .fields #[.int s₄.gens.size 0, .str "<genexpr>" (s₄.toks + 1), .str (X.env.qual ++ "<genexpr>") (s₄.toks + 1 + 1)] } }) X.xe { s2 with heap := h3, toks := tk } := by
    intro code h3 tk more hx hsz hP3 ht3
    have keep3 : ∀ b u, b ≠ P → s2.heap.get? b = some u → h3.get? b = some u := fun b u hb e => hx b u hb e
    have I3 : Inv X pins σ (upd H2 P (.tbl (ps ++ more))) { s2 with heap := h3, toks := tk } := inv_tab (g' := s2.gens) (d' := s2.drawn) I2 hP keep3 hP3 I2.bare
    have tb3 : Tabbed P H2 (upd H2 P (.tbl (ps ++ more))) := ⟨⟨_, upd_same, ht3⟩, fun b hb => upd_ne hb⟩
    obtain ⟨bm, ob, e1, e2, e3, e4, e5, e6, e7, e8⟩ := TB.bm
    refine wpAny_builtinsFor (m := X.mg) (by rw [I2.ok.glob]; exact (I2.mod.glob.keeps I2.bk).extBut hx TB.gP) e1 e2 (keep3 _ _ e4 (I2.bk _ _ e5)) e6 e7 e8 ?_
    intro h' hn' hs'
    obtain ⟨W, ⟨m0, w0⟩, turn⟩ := hW _ tb3
    generalize hs3 : ({ s2 with heap := h3, toks := tk } : Shared) = s3 at I3 hs' hn' ⊢
    have eh : s3.heap = h3 := by rw [← hs3]
    have hsz' : h'.objs.size = s3.heap.objs.size + 1 := by rw [hs'.1, Heap.size_push]
    generalize hga : ({ cls := .type "generator", data := .fields #[.int s3.gens.size 0, .str "<genexpr>" (s3.toks + 1), .str (X.env.qual ++ "<genexpr>") (s3.toks + 1 + 1)] } : Obj) = ga
    have keep' : ∀ b o, s3.heap.get? b = some o → (h'.push ga).get? b = some o := fun b o e =>
      Heap.get?_push_of_some _ (hs'.extBut b o (Nat.ne_of_lt (Heap.lt_size e)) (Heap.get?_push_of_some _ e))
    have f3 : ∀ b ∈ fp, FpOk X pins (upd H2 P (.tbl (ps ++ more))) b ∧ b < s3.heap.objs.size := fun b hb => by
      obtain ⟨o, e, _⟩ := Tn.obj _ _ st2 b hb
      have nP : b ≠ P := fun z => by
        have q := (f2 b hb).1
        rw [z, hP] at q; cases q
      refine ⟨⟨?_, (f2 b hb).2⟩, ?_⟩
      · rw [upd_ne nP]; exact (f2 b hb).1
      · rw [eh]; exact Heap.lt_size (keep3 b o nP e)
    have st3 : tn 0 s3.heap := Tn.keep _ _ _ st2 fun b hb o e => by
      have nP : b ≠ P := fun z => by
        have q := (f2 b hb).1
        rw [z, hP] at q; cases q
      rw [eh]; exact keep3 b o nP e
    generalize hge : genEnv scope (cloFrom X.env.cells scope.names []) s3.heap.objs.size code builtinsNs X.env = ge
    generalize hH3 : upd H2 P (.tbl (ps ++ more)) = H3 at I3 f3 w0
    have hfr : (X.A.in1.in1.over (.compLoop (.GeneratorExp elt [⟨tg, iter, [], 0⟩] scope gpos) 0 (.ref it) .none ge) []).frames = some (ge :: X.stack) := by
      rw [over_gen]
      show pushEnvs [ge] X.A.frames = _
      rw [I2.ok.frames]; rfl
    have hga' : (h'.push ga).get? h'.objs.size = some ga := Heap.get?_push_size _ (by rw [← hga]; rfl)
    have hal : s3.heap.objs.size < h'.objs.size := by rw [hsz']; exact Nat.lt_succ_self _
    have hgd : ∀ v, ga.data ≠ .cell v := fun v z => by rw [← hga] at z; cases z
    have hbare : AllBare (s3.gens.push (.fresh (.compStart (.GeneratorExp elt [⟨tg, iter, [], 0⟩] scope gpos) 0 (.ref it) .none ge))) := I3.bare.push rfl
    have I5 := gen_start (A := X.A.in1.in1.over (.compLoop (.GeneratorExp elt [⟨tg, iter, [], 0⟩] scope gpos) 0 (.ref it) .none ge) []) I3 ok S.cell hN f3 hge.symm hfr (by exact I3.ok.hd hc) keep' (hn'.push _) hbare (t5 := s3.toks + 1 + 1 + 1) hga' hal hgd
    have isG : ∀ hh : Heap, hh.get? h'.objs.size = some ga → hh.IsGen h'.objs.size s3.gens.size := fun hh e => ⟨_, _, _, e, by rw [← hga], by rw [← hga], by rw [← hga]⟩
    generalize hXg : gcx X (X.A.in1.in1.over (.compLoop (.GeneratorExp elt [⟨tg, iter, [], 0⟩] scope gpos) 0 (.ref it) .none ge) []) s3 H3 ge fp = Xg at I5
    have backTo : ∀ s' H', Inv Xg [(h'.objs.size, ga)] (wipe σ (own.map (·.2))) H' s' → Inv X pins σ H' s' := fun s' H' J' => by
      subst hXg
      exact I3.call' (ch := fp) J'.os J'.base J'.hok J'.bare fun b hb => ⟨(f3 b hb).1.2.2.2.1, (f3 b hb).1.2.1, (f3 b hb).1.2.2.2.2.1, (f3 b hb).1.2.2.2.2.2⟩
    refine hQ Xg h'.objs.size s3.gens.size (m0 + 1) ga (wipe σ (own.map (·.2))) _ (fun H => Q (.bl (!sb)) H) (fun H => Q (.bl sb) H) (by rw [← hXg]) (by rw [← hXg]) isG (isG _ hga') ?_ (fun s' H' J' q => ⟨.bl (!sb), H', backTo s' H' J', rfl, q⟩) fun s' H' J' q => ⟨.bl sb, H', backTo s' H' J', rfl, q⟩
    refine ⟨isG _ hga', I5.nolimit, hbare, _, Array.getElem?_push_size .., fun s'' e1 e2 e3 => ⟨rfl, ?_⟩⟩
    have t5 : tn 0 s''.heap := by rw [e1]; exact Tn.keep _ _ _ st3 fun b _ o e => keep' b o e
    have hself : ∀ (A' : Around) (Q : Value → Shared → Prop) (E : Value → Shared → Prop), Q (.ref it) s'' → wpAny (model Xg.prog Xg.w) A' (pyIter (.ref it)) Q E s'' := by
      subst hXg
      exact fun A' Q E q => Tn.self A' 0 s'' Q E t5 q
    refine seg_go hself ?_
    · have hrg : Room k Xg.A := by rw [← hXg]; exact Room.gen hr
      have pg := hpg (X.A.in1.in1.over (.compLoop (.GeneratorExp elt [⟨tg, iter, [], 0⟩] scope gpos) 0 (.ref it) .none ge) []) s3 H3 (cloFrom X.env.cells scope.names []) s3.heap.objs.size code fp
      have pe := hpe (X.A.in1.in1.over (.compLoop (.GeneratorExp elt [⟨tg, iter, [], 0⟩] scope gpos) 0 (.ref it) .none ge) []) s3 H3 (cloFrom X.env.cells scope.names []) s3.heap.objs.size code fp (Room.gen hr)
      rw [hge, hXg] at pg pe
      have J5 : Inv Xg [(h'.objs.size, ga)] (wipe σ (own.map (·.2))) H3 s'' := Inv.like I5 e1 e2 e3
      have hco : ge.scope.isCoroutine = false := by rw [← hge]; exact S.co
      refine seg_gen (Xg := Xg) (W := W) (J := J) (tn := tn) (fp := fp) (g := g) (te := te) (by rw [← hXg]) (by rw [← hXg]) (by rw [← hXg]) (by rw [← hXg]; exact hc) (by rw [← hXg]) (by rw [← hXg]) hco (by rw [← hXg]; exact Tn) pg pe (fun b hb p hp => ?_) turn m0 (m0 + 1) 0 H3 s'' s'' (Nat.lt_succ_self _) w0 J5 ?_ fun b hb => (f3 b hb).1.1
      · rw [List.mem_singleton.mp hp]
        exact Ne.symm (Nat.ne_of_lt (Nat.lt_trans (f3 b hb).2 hal))
      · exact t5
  cases hf : codeAmong gpos ps.toList with
  | none =>
    refine wpAny_genexprCodeX hcode (cd.code hPs ht) (cd.tab hPs) hf fun c' h' tk hx hge hlt hco' _ htab' _ => ?_
    obtain ⟨o1, vs, f1, tf, fl, tg', inF, tx, tt, op, _, _, _, _, _, _, _, _, _, htr, _⟩ := hco'
    exact cont _ h' tk _ hx (Nat.le_trans hge (Nat.le_of_lt hlt)) htab'.2 htr
  | some cv =>
    refine wpAny_genexprCode_hit hcode (cd.code hPs ht) hf ?_
    exact cont cv s2.heap s2.toks #[] (Heap.ExtBut.refl _ _) (Nat.le_refl _) (by rw [Array.append_empty]; exact hPs) (by rw [Array.append_empty]; exact ht)

theorem pe_all {c P : Addr} {elt tg iter : Expr} {p pos gpos : Pos} {scope : Scope} {own : List (Str × Nat)} {wi : TI} {g : TG} {te : TE} {k : Nat}
    (hr : Room (k + 2) X.A) (hgl : Gl X "all") (hm : X.mg "all" = none) (hb : bootBuiltins "all" = some (.builtin "all")) (TB : TabB X.base X.mg c P) (hcode : X.env.code = .ref c) (hN : X.N.Nodup) (hc : X.calm = true)
    (hi : PI X tg iter wi) (ok : BlkOk X.N X.env.scope scope own) (S : GxS scope)
    (hpg : ∀ (A : Around) (s : Shared) (H : Hp) (cl : List (Str × Addr)) (C : Addr) (code : Value) (fp : List Addr), PG (gcx X A s H (genEnv scope cl C code builtinsNs X.env) fp) tg g)
    (hpe : ∀ (A : Around) (s : Shared) (H : Hp) (cl : List (Str × Addr)) (C : Addr) (code : Value) (fp : List Addr), Room k A → PE (gcx X A s H (genEnv scope cl C code builtinsNs X.env) fp) elt te)
    (hs : ∀ v, genFold iter X.env v = pure v)
    (he : starEach [.GeneratorExp elt [⟨tg, iter, [], 0⟩] scope gpos] X.env = (false, eval (.GeneratorExp elt [⟨tg, iter, [], 0⟩] scope gpos) X.env) :: starEach [] X.env := by rfl) :
    PE X (.Call (.Name "all" p) [.GeneratorExp elt [⟨tg, iter, [], 0⟩] scope gpos] [] pos) (tGen false P wi g te (own.map (·.2))) := by
  refine ⟨fun pins s σ H Q I h => ?_⟩
  refine wpAny_Call_Name_kw (ld_blt I hgl hm hb ?_)
  refine PyProof.Rows.callWith_builtin1 ?_ he (by rfl)
  rw [he]
  show wpAny _ _ (spliced ((false, eval (.GeneratorExp elt [⟨tg, iter, [], 0⟩] scope gpos) X.env) :: backTo pos (starEach [] X.env))) _ _ s
  refine Calls.spliced_cons (gen_made hr TB hcode hN hc hi ok S hpg hpe hs I h fun Xg a gi n ga σg s5 Fin Stp x1 x2 isG hgen st fin stp => ?_)
  refine Calls.spliced_nil ?_
  refine call_function_tree F.kind_all F.plain_all F.entry_all (F.args_all1 _) ?_
  unfold Builtin.«all»
  refine wpAny_bind (m := oneArg "all" _) (wpAny_pure ?_)
  refine wpAny_bind (wpAny_pyIter_gen hgen ?_)
  have hd : X.A.depth < recursionLimit := by have := hr.dp; omega
  refine wpAny_pure ⟨plainId_quiet F.plain_all_loop _, ?_⟩
  rw [← x1, ← x2]
  exact gen_all (A := X.A) hr.hd hd (List.mem_singleton.mpr rfl) isG (fun s' H' J f => fin s' H' J f) (fun s' H' J f => stp s' H' J f) n s5 st

theorem pe_any {c P : Addr} {elt tg iter : Expr} {p pos gpos : Pos} {scope : Scope} {own : List (Str × Nat)} {wi : TI} {g : TG} {te : TE} {k : Nat}
    (hr : Room (k + 2) X.A) (hgl : Gl X "any") (hm : X.mg "any" = none) (hb : bootBuiltins "any" = some (.builtin "any")) (TB : TabB X.base X.mg c P) (hcode : X.env.code = .ref c) (hN : X.N.Nodup) (hc : X.calm = true)
    (hi : PI X tg iter wi) (ok : BlkOk X.N X.env.scope scope own) (S : GxS scope)
    (hpg : ∀ (A : Around) (s : Shared) (H : Hp) (cl : List (Str × Addr)) (C : Addr) (code : Value) (fp : List Addr), PG (gcx X A s H (genEnv scope cl C code builtinsNs X.env) fp) tg g)
    (hpe : ∀ (A : Around) (s : Shared) (H : Hp) (cl : List (Str × Addr)) (C : Addr) (code : Value) (fp : List Addr), Room k A → PE (gcx X A s H (genEnv scope cl C code builtinsNs X.env) fp) elt te)
    (hs : ∀ v, genFold iter X.env v = pure v)
    (he : starEach [.GeneratorExp elt [⟨tg, iter, [], 0⟩] scope gpos] X.env = (false, eval (.GeneratorExp elt [⟨tg, iter, [], 0⟩] scope gpos) X.env) :: starEach [] X.env := by rfl) :
    PE X (.Call (.Name "any" p) [.GeneratorExp elt [⟨tg, iter, [], 0⟩] scope gpos] [] pos) (tGen true P wi g te (own.map (·.2))) := by
  refine ⟨fun pins s σ H Q I h => ?_⟩
  refine wpAny_Call_Name_kw (ld_blt I hgl hm hb ?_)
  refine PyProof.Rows.callWith_builtin1 ?_ he (by rfl)
  rw [he]
  show wpAny _ _ (spliced ((false, eval (.GeneratorExp elt [⟨tg, iter, [], 0⟩] scope gpos) X.env) :: backTo pos (starEach [] X.env))) _ _ s
  refine Calls.spliced_cons (gen_made hr TB hcode hN hc hi ok S hpg hpe hs I h fun Xg a gi n ga σg s5 Fin Stp x1 x2 isG hgen st fin stp => ?_)
  refine Calls.spliced_nil ?_
  refine call_function_tree F.kind_any F.plain_any F.entry_any (F.args_any1 _) ?_
  unfold Builtin.«any»
  refine wpAny_bind (m := oneArg "any" _) (wpAny_pure ?_)
  refine wpAny_bind (wpAny_pyIter_gen hgen ?_)
  have hd : X.A.depth < recursionLimit := by have := hr.dp; omega
  refine wpAny_pure ⟨plainId_quiet F.plain_any_loop _, ?_⟩
  rw [← x1, ← x2]
  exact gen_any (A := X.A) hr.hd hd (List.mem_singleton.mpr rfl) isG (fun s' H' J f => fin s' H' J f) (fun s' H' J f => stp s' H' J f) n s5 st
end
end GxM
set_option Elab.async false
set_option linter.all false
set_option autoImplicit false
set_option maxRecDepth 100000
set_option maxHeartbeats 1000000
/-! Mp, part 7: calls, iterables, comprehensions, generator expressions -/
namespace Mp
open PySem PySem.Spec L2
open PyProof.Rows hiding St

variable {K : PySem.W.Frag} {T : List Addr}

/-! what a text must look like, by its shape alone -/
def isStar : Expr → Bool
  | .Starred _ _ => true
  | _ => false
theorem star_1 {e : Expr} {es : List Expr} {env : Env} (h : isStar e = false) : starEach (e :: es) env = (false, eval e env) :: starEach es env := by
  cases e <;> first | rfl | (cases h)
theorem star_any : ∀ {es : List Expr} {env : Env} {pos : Pos}, es.all (fun e => !isStar e) = true → (backTo pos (starEach es env)).any (·.1) = false
  | [], _, _, _ => rfl
  | e :: es, env, pos, h => by
    simp only [List.all_cons, Bool.and_eq_true] at h
    rw [star_1 (by simpa using h.1)]
    show (false || (backTo pos (starEach es env)).any (·.1)) = false
    rw [Bool.false_or]
    exact star_any h.2
theorem star_all : ∀ {es : List Expr} {env : Env} {pos : Pos}, es.all (fun e => !isStar e) = true → (backTo pos (starEach es env)).all (fun x => !x.1) = true
  | [], _, _, _ => rfl
  | e :: es, env, pos, h => by
    simp only [List.all_cons, Bool.and_eq_true] at h
    rw [star_1 (by simpa using h.1)]
    show (true && (backTo pos (starEach es env)).all (fun x => !x.1)) = true
    rw [Bool.true_and]
    exact star_all h.2
def plainBase : Expr → Bool
  | .Call (.Name _ _) [] [] _ => false
  | _ => true
theorem base_ok {o : Expr} {name : Str} {env : Env} (h : plainBase o = true) : attributeBase o name env (eval o env) = eval o env := by
  unfold attributeBase
  split
  · cases h
  · rfl

section
variable {X : Cx} {a b c e : Expr} {es : List Expr} {f g h3 : Fn} {pos pos2 p p2 : Pos}

theorem le_callB {id : String} {x : Str} {k : List D → Hs → Rs} (hc : CallR X (.builtin id) (rn X.K T k)) (hg : Gl X x) (hm : X.mg x = none) (hv : bootBuiltins x = some (.builtin id)) (ha : PA X (e :: es) (LA X.K T f))
    (hs : (e :: es).all (fun e => !isStar e) = true) (hn : x ≠ "__name__") (hdb : (x == ("__debug__" : Str)) = false) : PE X (.Call (.Name x p) (e :: es) [] pos) (LE X.K T (argD f k)) := by
  have h1 := hs
  simp only [List.all_cons, Bool.and_eq_true] at h1
  exact le_args (pe_callB hc hg hm hv ha hn hdb (star_1 (by simpa using h1.1)) (star_any h1.2))
theorem le_callTy {id : String} {x : Str} {k : List D → Hs → Rs} (hc : CallR X (.type id) (rn X.K T k)) (hg : Gl X x) (hm : X.mg x = none) (hv : bootBuiltins x = some (.type id)) (ha : PA X (e :: es) (LA X.K T f))
    (hs : (e :: es).all (fun e => !isStar e) = true) (hn : x ≠ "__name__") (hdb : (x == ("__debug__" : Str)) = false) : PE X (.Call (.Name x p) (e :: es) [] pos) (LE X.K T (argD f k)) := by
  have h1 := hs
  simp only [List.all_cons, Bool.and_eq_true] at h1
  exact le_args (pe_callTy hc hg hm hv ha hn hdb (star_1 (by simpa using h1.1)) (star_any h1.2))
theorem le_isi (c : Ty) {x : Str} (hg : Gl X "isinstance") (hm : X.mg "isinstance" = none) (hb : bootBuiltins "isinstance" = some (.builtin "isinstance")) (hg2 : Gl X x) (hm2 : X.mg x = none) (hv : bootBuiltins x = some (.type c.nm)) (ha : PE X a (LE X.K T f))
    (hs : isStar a = false) (hn : x ≠ "__name__") (hdb : (x == ("__debug__" : Str)) = false) : PE X (.Call (.Name "isinstance" p) [a, .Name x p2] [] pos) (LE X.K T fun ς G => bnd (f ς G) (isiD c)) := by
  have hty : PE X (.Name x p2) (tC (.ty c.nm)) := pe_bltn hg2 hm2 hv rfl hn hdb
  refine (pe_callB call_isi hg hm hb (pa_cons ha (pa_cons hty pa_nil rfl) (star_1 hs)) (by decide) (by decide) (star_1 hs) (by rfl)).imp fun σ H Q ⟨ι, F, ς, G, R, S, h⟩ => ?_
  obtain ⟨d, G1, e1, h⟩ := h.bnd
  refine ⟨ι, F, ς, G, R, S, d, G1, e1, fun w' v x R' r => ?_⟩
  obtain ⟨t, et, h'⟩ := (h w' v x R' r).ofBind
  exact ⟨v, .ty c.nm, .type t, .type c.nm, _, rfl, .ty _, tyD_at R' r et, kit_names c (tyD_names et), h'.now R' rfl⟩

/-! methods -/
inductive MTy where
  | list | str | dict
def MTy.nm : MTy → String
  | .list => "list" | .str => "str" | .dict => "dict"
def hasTy (t : MTy) (d : D) (G : Hs) : Bool := match t with
  | .list => (roOf G d).isSome
  | .str => match d with | .str _ => true | _ => false
  | .dict => match d with | .ref n => (match G[n]? with | some (.dct _) => true | _ => false) | _ => false
theorem hasTy_at {w : Wd} {G : Hs} (R : Rel K T w G) {t : MTy} {d : D} {v : V} (r : RV K w d v) (e : hasTy t d G = true) : tyV K t.nm v w.H := by
  cases t with
  | list =>
    obtain ⟨ds, e⟩ := Option.isSome_iff_exists.mp e
    obtain ⟨a, vs, rfl, h1, _⟩ := roOf_at R r e
    exact .inl ⟨rfl, vs, h1⟩
  | str =>
    cases d <;> first | (cases e; done) | skip
    rw [rv_str r]; rfl
  | dict =>
    cases d <;> first | (cases e; done) | skip
    simp only [hasTy] at e
    split at e
    · rename_i n _ kvs eg
      obtain ⟨a, us, rfl, _, _, h1, _⟩ := dct_at R r eg
      exact .inr (.inr (.inl ⟨rfl, .inl ⟨us, h1⟩⟩))
    · cases e
def mthD (t : MTy) (f g : Fn) (k : D → List D → Hs → Rs) (ς : Env') (G : Hs) : Rs :=
  bnd (f ς G) fun o G1 => if hasTy t o G1 = true then bnd (g ς G1) fun xs G2 => match xs with | .tup ds => k o ds G2 | _ => none else none
theorem le_mth {t : MTy} {id : String} {name : Str} {k : D → List D → Hs → Rs} (pa : PlainAttrs t.nm) (slot : Slot t.nm name id) (hty : typeOf (.builtin id) = pure (.type "method_descriptor")) (hm : MtR X id (rm X.K T k))
    (ho : PE X a (LE X.K T f)) (ha : PA X (e :: es) (LA X.K T g)) (hb : plainBase a = true) (hs : (e :: es).all (fun e => !isStar e) = true) (hl : (e :: es).length < 30) (hline : (p.endLine == pos.line) = true) :
    PE X (.Call (.Attribute a name p) (e :: es) [] pos) (LE X.K T (mthD t f g k)) := by
  have h1 := hs
  simp only [List.all_cons, Bool.and_eq_true] at h1
  refine (pe_bm pa slot hty hm ho ha (base_ok hb) ?_ hline (star_1 (by simpa using h1.1)) (star_any h1.2)).imp fun σ H Q ⟨ι, F, ς, G, R, S, h⟩ => ?_
  · rw [star_all hs]
    show (true && true && decide ((e :: es).length + 0 + 0 < 30)) = true
    rw [decide_eq_true (by omega)]; rfl
  · obtain ⟨o, G1, e1, h⟩ := h.bnd
    refine ⟨ι, F, ς, G, R, S, o, G1, e1, fun w1 ov x1 R1 r1 => ?_⟩
    obtain ⟨ht, h'⟩ := (h w1 ov x1 R1 r1).ite
    refine ⟨hasTy_at R1 r1 ht, ?_⟩
    obtain ⟨ds, G2, e2, h''⟩ := LiftL.bnd h'
    exact ⟨w1.ι, w1.F, ς, G1, R1, S.ext x1.toExt, ds, G2, e2, fun w2 vs x2 R2 r2 => ⟨w2.ι, w2.F, G2, o, ds, R2, RV.ext x2.toExt _ _ r1, r2, h'' w2 x2⟩⟩
theorem le_mth0 {t : MTy} {id : String} {name : Str} {k : D → List D → Hs → Rs} (pa : PlainAttrs t.nm) (slot : Slot t.nm name id) (hty : typeOf (.builtin id) = pure (.type "method_descriptor")) (hm : MtR X id (rm X.K T k))
    (ho : PE X a (LE X.K T f)) (hb : plainBase a = true) (hline : (p.endLine == pos.line) = true) :
    PE X (.Call (.Attribute a name p) [] [] pos) (LE X.K T fun ς G => bnd (f ς G) fun o G1 => if hasTy t o G1 = true then k o [] G1 else none) := by
  refine (pe_bm0 pa slot hty hm ho (base_ok hb) hline).imp fun σ H Q ⟨ι, F, ς, G, R, S, h⟩ => ?_
  obtain ⟨o, G1, e1, h⟩ := h.bnd
  refine ⟨ι, F, ς, G, R, S, o, G1, e1, fun w1 ov x1 R1 r1 => ?_⟩
  obtain ⟨ht, h'⟩ := (h w1 ov x1 R1 r1).ite
  exact ⟨hasTy_at R1 r1 ht, w1.ι, w1.F, G1, o, [], R1, r1, rfl, h'⟩

/-! own functions -/
def spD (K : PySem.W.Frag) (T : List Addr) (n : Nat) (k : List D → Hs → Rs) : Sp := fun vs H Q _ =>
  vs.length = n ∧ ∃ ι F G ds, Rel K T ⟨ι, F, H⟩ G ∧ RVs K ⟨ι, F, H⟩ ds vs ∧ Lift K T ⟨ι, F, H⟩ (k ds G) Q
/-- a def that stands under the name x -/
structure Own (X : Cx) (T : List Addr) (kl : Nat) (x : Str) (n : Nat) (k : List D → Hs → Rs) : Prop where
  ex : ∃ (fa : Addr) (fd : FuncData) (ps : List Str), FnOk X.prog X.w X.K X.mg X.base CX0 kl fa fd ps (spD X.K T n k) ∧ X.mg x = some (.ref fa) ∧ PySem.W.keepIn X.K (.ref fa) = true ∧ Binds X.K fd ps []
theorem le_call {kl n : Nat} {x : Str} {k : List D → Hs → Rs} (ow : Own X T kl x n k) (hr : Room kl X.A) (hg : Gl X x) (ha : PA X (e :: es) (LA X.K T f)) (hs : (e :: es).all (fun e => !isStar e) = true) (hdb : (x == ("__debug__" : Str)) = false) :
    PE X (.Call (.Name x p) (e :: es) [] pos) (LE X.K T (argD f fun ds G => if ds.length = n then k ds G else none)) := by
  have h1 := hs
  simp only [List.all_cons, Bool.and_eq_true] at h1
  obtain ⟨fa, fd, ps, F, hm, hk, hb⟩ := ow.ex
  refine (pe_call F hr hg hm hk hb .nil pass0 ha hdb (star_1 (by simpa using h1.1)) (star_any h1.2)).imp fun σ H Q ⟨ι, F, ς, G, R, S, h⟩ => ?_
  obtain ⟨ds, G1, e1, h⟩ := LiftL.bnd h
  refine ⟨ι, F, ς, G, R, S, ds, G1, e1, fun w' vs x R' r => ?_⟩
  obtain ⟨hn, h'⟩ := (h w' x).ite
  rw [List.append_nil]
  exact ⟨by rw [← r.len]; exact hn, w'.ι, w'.F, G1, ds, R', r, h'⟩
theorem le_call0 {kl : Nat} {x : Str} {k : List D → Hs → Rs} (ow : Own X T kl x 0 k) (hr : Room kl X.A) (hg : Gl X x) (hdb : (x == ("__debug__" : Str)) = false) :
    PE X (.Call (.Name x p) [] [] pos) (LE X.K T fun _ G => k [] G) := by
  obtain ⟨fa, fd, ps, F, hm, hk, hb⟩ := ow.ex
  refine (pe_call0 F hr hg hm hk hb .nil pass0 hdb).imp fun σ H Q ⟨ι, F, ς, G, R, S, h⟩ => ?_
  exact ⟨rfl, ι, F, G, [], R, rfl, h⟩

/-! list(range(..)), list(reversed(..)) -/
def rgN (lo c : Int) (n : Nat) : List D := (List.range n).map fun i => .int (lo + (i : Nat) * c)
/-- the bounds of a range: start, step, how many -/
def rgA : List D → Option (Int × Int × Nat)
  | [.int j] => if -(2 ^ 62) ≤ j ∧ j < 2 ^ 62 then some (0, 1, j.toNat) else none
  | [.int i, .int j] => if -(2 ^ 62) ≤ i ∧ i < 2 ^ 62 ∧ -(2 ^ 62) ≤ j ∧ j < 2 ^ 62 then some (i, 1, (j - i).toNat) else none
  | [.int i, .int j, .int (-1)] => if -(2 ^ 62) ≤ i ∧ i < 2 ^ 62 ∧ -(2 ^ 62) ≤ j ∧ j < 2 ^ 62 then some (i, -1, (i - j).toNat) else none
  | _ => none
theorem ints_rvs {w : Wd} (g : Nat → Int) : ∀ n : List Nat, RVs K w (n.map fun i => D.int (g i)) (n.map fun i => V.int (g i))
  | [] => rfl
  | x :: r => ⟨_, _, rfl, rfl, ints_rvs g r⟩
theorem rgN_rvs {w : Wd} (lo c : Int) (n : Nat) : RVs K w (rgN lo c n) (rcV lo c n) := ints_rvs (fun i => lo + (i : Nat) * c) _
def lrgK (m : Bool) (ds : List D) (G : Hs) : Rs := (rgA ds).bind fun q => if q.2.2 ≤ 2 ^ 24 then newD m (rgN q.1 q.2.1 q.2.2) G else none
theorem rgV_rcV (i j : Int) : rgV i j = rcV i 1 (j - i).toNat := by
  unfold rgV rcV
  congr 1
  funext k
  rw [Int.mul_one]
theorem consE {f g : Fn} {ς : Env'} {G G' : Hs} {ds : List D} (h : consD f g ς G = some (.tup ds, G')) : ∃ x r G1, f ς G = some (x, G1) ∧ g ς G1 = some (.tup r, G') ∧ ds = x :: r := by
  obtain ⟨x, G1, e1, h⟩ := bnd_eq h
  obtain ⟨xs, G2, e2, h⟩ := bnd_eq h
  cases xs <;> first | (cases h; done) | skip
  cases h
  exact ⟨x, _, G1, e1, e2, rfl⟩
theorem le_lrg1 (m : Bool) (hc : X.calm = true) (hg : Gl X "list") (hm : X.mg "list" = none) (hg2 : Gl X "range") (hm2 : X.mg "range" = none) (ha : PE X a (LE X.K T f)) (hs : isStar a = false) :
    PE X (.Call (.Name "list" p) [.Call (.Name "range" p2) [a] [] pos2] [] pos) (LE X.K T (argD (consD f fun _ G => some (.tup [], G)) (lrgK m))) := by
  refine (pe_listRg hc hg hm (prg_1 hg2 hm2 ha (star_1 hs)) (by rfl)).imp fun σ H Q ⟨ι, F, ς, G, R, S, h⟩ => ?_
  obtain ⟨ds, G1, e1, h⟩ := LiftL.bnd h
  obtain ⟨x, r, G2, e2, e3, e4⟩ := consE e1
  cases e3
  subst e4
  refine ⟨ι, F, ς, G, R, S, x, G1, e2, fun w' v x' R' r => ?_⟩
  obtain ⟨q, eq, h'⟩ := (h w' x').ofBind
  obtain ⟨hl, h'⟩ := h'.ite
  cases x <;> first | (cases eq; done) | skip
  rename_i j
  simp only [rgA] at eq
  split at eq
  · rename_i hb
    cases eq
    refine ⟨j, r, ⟨by omega, by omega, hb.1, hb.2, by simpa using hl⟩, ?_⟩
    rw [rgV_rcV, Int.sub_zero]
    exact h'.newM R' (rgN_rvs 0 1 j.toNat)
  · cases eq
theorem le_lrg2 (m : Bool) (hc : X.calm = true) (hg : Gl X "list") (hm : X.mg "list" = none) (hg2 : Gl X "range") (hm2 : X.mg "range" = none) (ha : PE X a (LE X.K T f)) (hb : PE X b (LE X.K T g)) (hs : isStar a = false) (hs2 : isStar b = false) :
    PE X (.Call (.Name "list" p) [.Call (.Name "range" p2) [a, b] [] pos2] [] pos) (LE X.K T (argD (consD f (consD g fun _ G => some (.tup [], G))) (lrgK m))) := by
  refine (pe_listRg hc hg hm (prg_2 hg2 hm2 ha hb (star_1 hs) (star_1 hs2) (star_any (by simp [hs2]))) (by rfl)).imp fun σ H Q ⟨ι, F, ς, G, R, S, h⟩ => ?_
  obtain ⟨ds, G1, e1, h⟩ := LiftL.bnd h
  obtain ⟨x, r, G2, e2, e3, e4⟩ := consE e1
  obtain ⟨y, r2, G3, e5, e6, e7⟩ := consE e3
  cases e6
  subst e4 e7
  refine ⟨ι, F, ς, G, R, S, x, G2, e2, fun w1 v x1 R1 r1 => ?_⟩
  refine ⟨w1.ι, w1.F, ς, G2, R1, S.ext x1.toExt, y, G1, e5, fun w' u x' R' r => ?_⟩
  obtain ⟨q, eq, h'⟩ := (h w' (x1.trans x')).ofBind
  obtain ⟨hl, h'⟩ := h'.ite
  cases x <;> first | (cases eq; done) | skip
  cases y <;> first | (cases eq; done) | skip
  rename_i i j
  simp only [rgA] at eq
  split at eq
  · rename_i hb
    cases eq
    refine ⟨i, j, rv_int r1, rv_int r, ⟨hb.1, hb.2.1, hb.2.2.1, hb.2.2.2, hl⟩, ?_⟩
    rw [rgV_rcV]
    exact h'.newM R' (rgN_rvs i 1 _)
  · cases eq
theorem rga3 {x y z : D} {q : Int × Int × Nat} (e : rgA [x, y, z] = some q) : ∃ i j, x = .int i ∧ y = .int j ∧ z = .int (-1) ∧ (-(2 ^ 62) ≤ i ∧ i < 2 ^ 62 ∧ -(2 ^ 62) ≤ j ∧ j < 2 ^ 62) ∧ q = (i, -1, (i - j).toNat) := by
  unfold rgA at e
  split at e
  · rename_i h; cases h
  · rename_i h; cases h
  · rename_i i j h
    cases h
    split at e
    · rename_i hb; cases e; exact ⟨i, j, rfl, rfl, rfl, hb, rfl⟩
    · cases e
  · cases e
theorem le_lrg3 (m : Bool) (hc : X.calm = true) (hg : Gl X "list") (hm : X.mg "list" = none) (hg2 : Gl X "range") (hm2 : X.mg "range" = none) (ha : PA X [a, b, c] (LA X.K T f)) (hs : [a, b, c].all (fun e => !isStar e) = true) :
    PE X (.Call (.Name "list" p) [.Call (.Name "range" p2) [a, b, c] [] pos2] [] pos) (LE X.K T (argD f (fun ds G => if ds.length = 3 then lrgK m ds G else none))) := by
  have h1 := hs
  rw [List.all_cons, Bool.and_eq_true] at h1
  refine (pe_listRg3 hc hg hm hg2 hm2 ha (star_1 (by simpa using h1.1)) (star_any h1.2) (by rfl)).imp fun σ H Q ⟨ι, F, ς, G, R, S, h⟩ => ?_
  obtain ⟨ds, G1, e1, h⟩ := LiftL.bnd h
  refine ⟨ι, F, ς, G, R, S, ds, G1, e1, fun w' vs x' R' r => ?_⟩
  obtain ⟨h3, h'⟩ := (h w' x').ite
  match ds, h3, r, h' with
  | [x, y, z], _, r, h' =>
    obtain ⟨q, eq, h'⟩ := h'.ofBind
    obtain ⟨hl, h'⟩ := h'.ite
    obtain ⟨i, j, rfl, rfl, rfl, hb, rfl⟩ := rga3 eq
    obtain ⟨v1, t1, rfl, r1, r⟩ := r
    obtain ⟨v2, t2, rfl, r2, r⟩ := r
    obtain ⟨v3, rfl, r3⟩ := r.one
    rw [rv_int r1, rv_int r2, rv_int r3]
    exact ⟨i, j, -1, (i - j).toNat, rfl, RgC.neg hb.1 hb.2.1 hb.2.2.1 hb.2.2.2, hl, h'.newM R' (rgN_rvs i (-1) _)⟩
def lrevK (m : Bool) (d : D) (G : Hs) : Rs := (roOf G d).bind fun ds => newD m ds.reverse G
theorem le_lrev (m : Bool) (hc : X.calm = true) (hg : Gl X "list") (hm : X.mg "list" = none) (hg2 : Gl X "reversed") (hm2 : X.mg "reversed" = none) (ha : PE X a (LE X.K T f)) (hs : isStar a = false) :
    PE X (.Call (.Name "list" p) [.Call (.Name "reversed" p2) [a] [] pos2] [] pos) (LE X.K T fun ς G => bnd (f ς G) (lrevK m)) := by
  refine (pe_lstRev hc hg hm hg2 hm2 ha (star_1 hs) (by rfl)).imp fun σ H Q ⟨ι, F, ς, G, R, S, h⟩ => ?_
  obtain ⟨d, G1, e1, h⟩ := h.bnd
  refine ⟨ι, F, ς, G, R, S, d, G1, e1, fun w' v x' R' r => ?_⟩
  obtain ⟨ds, e, h'⟩ := (h w' v x' R' r).ofBind
  obtain ⟨a, vs, rfl, h1, h2⟩ := roOf_at R' r e
  exact ⟨a, vs, rfl, h1, h'.newM R' h2.reverse⟩
end
end Mp
set_option Elab.async false
set_option linter.all false
set_option autoImplicit false
set_option maxRecDepth 100000
set_option maxHeartbeats 1000000
/-! Mp, part 8: iterables, targets -/
namespace Mp
open PySem PySem.Spec L2
open PyProof.Rows hiding St

variable {K : PySem.W.Frag} {T : List Addr}

/-- an iterator that hands out the items ds, whatever lies between -/
def JOk (K : PySem.W.Frag) (T : List Addr) (w : Wd) (J : It) (ds : List D) : Prop :=
  ∀ w' G', Ex2 K w w' → Rel K T w' G' →
    (∀ (i : Nat) d, ds[i]? = some d → J.go i w'.H ∧ ∀ x H', J.yld i w'.H x H' → ∃ w'', w''.H = H' ∧ Ex2 K w' w'' ∧ Rel K T w'' G' ∧ RV K w'' d x) ∧ J.stop ds.length w'.H
def LiftI (K : PySem.W.Frag) (T : List Addr) (w : Wd) (r : Rs) (Q : It → Hp → Prop) : Prop :=
  ∃ ds G', r = some (.tup ds, G') ∧ ∀ w' J, Ex2 K w w' → Rel K T w' G' → JOk K T w' J ds → Q J w'.H
def LI (K : PySem.W.Frag) (T : List Addr) (f : Fn) : TI := fun σ H Q =>
  ∃ ι F ς G, Rel K T ⟨ι, F, H⟩ G ∧ RS K ⟨ι, F, H⟩ ς σ ∧ LiftI K T ⟨ι, F, H⟩ (f ς G) Q
theorem _root_.L2.PI.imp {X : Cx} {tg e : Expr} {t t' : TI} (h : PI X tg e t) (m : ∀ σ H Q, t' σ H Q → t σ H Q) : PI X tg e t' := ⟨fun pins s σ H Q I q => h.run pins s σ H Q I (m σ H Q q)⟩

/-! the iterators of the layer -/
theorem jok_lst {w : Wd} {a : Addr} {vs : List V} {ds : List D} (h : LOk w a vs) (r : RVs K w ds vs) : JOk K T w (Itl K a) ds := by
  intro w' G' x R'
  have h' : SqL K w'.H a vs := (x.toExt.lst a vs h).sq
  have r' := r.ext x.toExt
  refine ⟨fun i d e => ?_, vs, h', Nat.le_of_eq r.len.symm⟩
  obtain ⟨v, ev, rv⟩ := r'.get e
  refine ⟨⟨vs, v, h', ev⟩, fun y H' ⟨e1, e2⟩ => ?_⟩
  have ey := e2 vs h'
  rw [ev] at ey; cases ey
  exact ⟨w', e1.symm, Ex2.refl, R', rv⟩
theorem jok_fz {w : Wd} {a : Addr} {vs : List V} {ds : List D} (h : FOk K w.H a vs) (r : RVs K w ds vs) : JOk K T w (Itl K a) ds := by
  intro w' G' x R'
  have h' : SqL K w'.H a vs := (x.toExt.fz a vs h).sq
  have r' := r.ext x.toExt
  refine ⟨fun i d e => ?_, vs, h', Nat.le_of_eq r.len.symm⟩
  obtain ⟨v, ev, rv⟩ := r'.get e
  refine ⟨⟨vs, v, h', ev⟩, fun y H' ⟨e1, e2⟩ => ?_⟩
  have ey := e2 vs h'
  rw [ev] at ey; cases ey
  exact ⟨w', e1.symm, Ex2.refl, R', rv⟩
theorem jok_tup {w : Wd} {a : Addr} {vs : List V} {ds : List D} (h : SqT K w.H a vs) (r : RVs K w ds vs) : JOk K T w (Itt K a) ds := by
  intro w' G' x R'
  have h' : SqT K w'.H a vs := x.toExt.tup a vs h
  have r' := r.ext x.toExt
  refine ⟨fun i d e => ?_, vs, h', Nat.le_of_eq r.len.symm⟩
  obtain ⟨v, ev, rv⟩ := r'.get e
  refine ⟨⟨vs, v, h', ev⟩, fun y H' ⟨e1, e2⟩ => ?_⟩
  have ey := e2 vs h'
  rw [ev] at ey; cases ey
  exact ⟨w', e1.symm, Ex2.refl, R', rv⟩
theorem jok_rng {w : Wd} {lo : Int} {n : Nat} : JOk K T w (Itr lo n) (rgN lo 1 n) := by
  intro w' G' x R'
  have hl : (rgN lo 1 n).length = n := by unfold rgN; simp
  refine ⟨fun i d e => ?_, by show n ≤ _; rw [hl]; exact Nat.le_refl _⟩
  have hi : i < n := by rw [← hl]; exact (List.getElem?_eq_some_iff.mp e).1
  refine ⟨hi, fun y H' ⟨e1, e2⟩ => ⟨w', e1.symm, Ex2.refl, R', ?_⟩⟩
  unfold rgN at e
  rw [List.getElem?_map, List.getElem?_range hi] at e
  cases e
  rw [e2]
  show V.int (lo + (i : Nat)) = V.int (lo + (i : Nat) * 1)
  rw [Int.mul_one]
theorem jok_rgc {w : Wd} {lo c : Int} {n : Nat} : JOk K T w (Itc lo c n) (rgN lo c n) := by
  intro w' G' x R'
  have hl : (rgN lo c n).length = n := by unfold rgN; simp
  refine ⟨fun i d e => ?_, by show n ≤ _; rw [hl]; exact Nat.le_refl _⟩
  have hi : i < n := by rw [← hl]; exact (List.getElem?_eq_some_iff.mp e).1
  refine ⟨hi, fun y H' ⟨e1, e2⟩ => ⟨w', e1.symm, Ex2.refl, R', ?_⟩⟩
  unfold rgN at e
  rw [List.getElem?_map, List.getElem?_range hi] at e
  cases e
  rw [e2]; rfl
theorem jok_str {w : Wd} {cs : List Nat} : JOk K T w (Its ⟨cs.toArray⟩) (cs.map fun c => .str [c]) := by
  intro w' G' x R'
  refine ⟨fun i d e => ?_, by show (cs.toArray).size ≤ _; simp⟩
  rw [List.getElem?_map] at e
  cases ec : cs[i]? with
  | none => rw [ec] at e; cases e
  | some c =>
    rw [ec] at e; cases e
    have hi : i < cs.length := (List.getElem?_eq_some_iff.mp ec).1
    refine ⟨by show i < (cs.toArray).size; simpa using hi, fun y H' ⟨e1, c', e2, e3⟩ => ⟨w', e1.symm, Ex2.refl, R', ?_⟩⟩
    have e2 : cs.toArray[i]? = some c' := e2
    rw [List.getElem?_toArray, ec] at e2
    cases e2
    exact e3
theorem jok_zip {w : Wd} {a b : Addr} {vs us : List V} {ds es : List D} (h : SqT K w.H a vs) (r : RVs K w ds vs) (g : SqT K w.H b us) (q : RVs K w es us) :
    JOk K T w (Izt K a b (min vs.length us.length)) (List.zipWith (fun x y => .tup [x, y]) ds es) := by
  intro w' G' x R'
  have h' : SqT K w'.H a vs := x.toExt.tup a vs h
  have g' : SqT K w'.H b us := x.toExt.tup b us g
  have r' := r.ext x.toExt
  have q' := q.ext x.toExt
  have hl : (List.zipWith (fun x y => D.tup [x, y]) ds es).length = min vs.length us.length := by rw [List.length_zipWith, r.len, q.len]
  refine ⟨fun i d e => ?_, hl, vs, us, h', g', rfl⟩
  have hi : i < min vs.length us.length := by rw [← hl]; exact (List.getElem?_eq_some_iff.mp e).1
  refine ⟨⟨hi, vs, us, h', g', by omega, by omega, rfl⟩, fun y H' hy => ?_⟩
  obtain ⟨Tp, v, u, rfl, hT, rfl, e1, e2⟩ := hy
  rw [List.getElem?_zipWith] at e
  cases ex : ds[i]? with
  | none => rw [ex] at e; cases e
  | some dx =>
    cases ey : es[i]? with
    | none => rw [ex, ey] at e; cases e
    | some dy =>
      rw [ex, ey] at e; cases e
      obtain ⟨v', e3, rv⟩ := r'.get ex
      obtain ⟨u', e4, ru⟩ := q'.get ey
      rw [e1 vs h'] at e3; cases e3
      rw [e2 us g'] at e4; cases e4
      have x2 : Ex2 K w' ⟨w'.ι, w'.F, upd w'.H Tp (.tup [v, u])⟩ := Ex2.newTup hT
      refine ⟨⟨w'.ι, w'.F, upd w'.H Tp (.tup [v, u])⟩, rfl, x2, R'.newTup hT, Tp, [v, u], rfl, .of upd_same, v, [u], rfl, RV.ext x2.toExt _ _ rv, u, [], rfl, RV.ext x2.toExt _ _ ru, rfl⟩
theorem jok_enum {w : Wd} {a : Addr} {vs : List V} {ds : List D} (h : ∀ w', Ex2 K w w' → SqL K w'.H a vs) (r : RVs K w ds vs) :
    JOk K T w (Ite K a) (ds.zipIdx.map fun p => .tup [.int (p.2 : Nat), p.1]) := by
  intro w' G' x R'
  have h' := h w' x
  have r' := r.ext x.toExt
  refine ⟨fun i d e => ?_, vs, h', by rw [List.length_map, List.length_zipIdx]; exact Nat.le_of_eq r.len.symm⟩
  rw [List.getElem?_map, List.getElem?_zipIdx] at e
  cases ex : ds[i]? with
  | none => rw [ex] at e; cases e
  | some dx =>
    rw [ex] at e
    simp only [Option.map_some, Nat.zero_add] at e
    cases e
    obtain ⟨v', e3, rv⟩ := r'.get ex
    refine ⟨⟨vs, v', h', e3⟩, fun y H' hy => ?_⟩
    obtain ⟨Tp, v, rfl, hT, rfl, e1⟩ := hy
    rw [e1 vs h'] at e3; cases e3
    have x2 : Ex2 K w' ⟨w'.ι, w'.F, upd w'.H Tp (.tup [.int (i : Nat), v'])⟩ := Ex2.newTup hT
    exact ⟨⟨w'.ι, w'.F, upd w'.H Tp (.tup [.int (i : Nat), v'])⟩, rfl, x2, R'.newTup hT, Tp, [.int (i : Nat), v'], rfl, .of upd_same, .int (i : Nat), [v'], rfl, rfl, v', [], rfl, RV.ext x2.toExt _ _ rv, rfl⟩

/-! rules -/
def seqK (d : D) (G : Hs) : Rs := match d with
  | .tup ds => some (.tup ds, G)
  | .lst ds => some (.tup ds, G)
  | .fz ds => some (.tup ds, G)
  | .str cs => some (.tup (cs.map fun c => .str [c]), G)
  | _ => none
section
variable {X : Cx} {a b c e tg : Expr} {es : List Expr} {f g h3 : Fn} {pos p p2 : Pos}
theorem li_seq (ha : PE X a (LE X.K T f)) : PI X tg a (LI X.K T fun ς G => bnd (f ς G) seqK) := by
  refine ⟨fun pins s σ H Q I ⟨ι, F, ς, G, R, S, ds, G', e, h⟩ => ?_⟩
  obtain ⟨d, G1, e1, e⟩ := bnd_eq e
  cases d <;> first | (cases e; done) | skip
  · cases e
    exact (pi_str ha).run pins s σ H Q I ⟨ι, F, ς, G, R, S, _, _, e1, fun w' v x R' r => ⟨_, rv_str r, h w' _ x R' jok_str⟩⟩
  · cases e
    refine (pi_tup ha).run pins s σ H Q I ⟨ι, F, ς, G, R, S, _, _, e1, fun w' v x R' r => ?_⟩
    obtain ⟨a, vs, rfl, h1, h2⟩ := r
    exact ⟨a, rfl, ⟨vs, h1⟩, h w' _ x R' (jok_tup h1 h2)⟩
  · cases e
    refine (pi_list ha).run pins s σ H Q I ⟨ι, F, ς, G, R, S, _, _, e1, fun w' v x R' r => ?_⟩
    obtain ⟨a, vs, rfl, h1, h2⟩ := r
    exact ⟨a, rfl, ⟨vs, h1.sq⟩, h w' _ x R' (jok_lst h1 h2)⟩
  · cases e
    refine (pi_list ha).run pins s σ H Q I ⟨ι, F, ς, G, R, S, _, _, e1, fun w' v x R' r => ?_⟩
    obtain ⟨a, vs, rfl, h1, h2⟩ := r
    exact ⟨a, rfl, ⟨vs, h1.sq⟩, h w' _ x R' (jok_fz h1 h2)⟩
def rngK (ds : List D) (G : Hs) : Rs := (rgA ds).bind fun q => some (.tup (rgN q.1 q.2.1 q.2.2), G)
theorem argE {f : Fn} {k : List D → Hs → Rs} {ς : Env'} {G : Hs} {r : D × Hs} (h : argD f k ς G = some r) : ∃ ds G1, f ς G = some (.tup ds, G1) ∧ k ds G1 = some r := by
  obtain ⟨x, G1, e1, h⟩ := bnd_eq h
  cases x <;> first | (cases h; done) | skip
  exact ⟨_, G1, e1, h⟩
def arity (n : Nat) (k : List D → Hs → Rs) (ds : List D) (G : Hs) : Rs := if ds.length = n then k ds G else none
theorem arE {n : Nat} {k : List D → Hs → Rs} {ds : List D} {G : Hs} {r : D × Hs} (h : arity n k ds G = some r) : ds.length = n ∧ k ds G = some r := by
  unfold arity at h
  split at h
  · exact ⟨‹_›, h⟩
  · cases h
theorem rga1 {x : D} {q : Int × Int × Nat} (e : rgA [x] = some q) : ∃ i, x = .int i ∧ (-(2 ^ 62) ≤ i ∧ i < 2 ^ 62) ∧ q = (0, 1, i.toNat) := by
  unfold rgA at e
  split at e
  · rename_i i h
    cases h
    split at e
    · rename_i hb; cases e; exact ⟨i, rfl, hb, rfl⟩
    · cases e
  · rename_i h; cases h
  · rename_i h; cases h
  · cases e
theorem rga2 {x y : D} {q : Int × Int × Nat} (e : rgA [x, y] = some q) : ∃ i j, x = .int i ∧ y = .int j ∧ (-(2 ^ 62) ≤ i ∧ i < 2 ^ 62 ∧ -(2 ^ 62) ≤ j ∧ j < 2 ^ 62) ∧ q = (i, 1, (j - i).toNat) := by
  unfold rgA at e
  split at e
  · rename_i h; cases h
  · rename_i i j h
    cases h
    split at e
    · rename_i hb; cases e; exact ⟨i, j, rfl, rfl, hb, rfl⟩
    · cases e
  · rename_i h; cases h
  · cases e
theorem rngE {ds : List D} {G : Hs} {r : D × Hs} (h : rngK ds G = some r) : ∃ q, rgA ds = some q ∧ r = (.tup (rgN q.1 q.2.1 q.2.2), G) := by
  unfold rngK at h
  cases eq : rgA ds with
  | none => rw [eq] at h; cases h
  | some q => rw [eq] at h; cases h; exact ⟨q, rfl, rfl⟩
theorem li_rng1 (hg : Gl X "range") (hm : X.mg "range" = none) (ha : PA X [a] (LA X.K T f)) (hs : isStar a = false) : PI X tg (.Call (.Name "range" p) [a] [] pos) (LI X.K T (argD f (arity 1 rngK))) := by
  refine PI.imp (pi_range1 hg hm ha (star_1 hs)) fun σ H Q ⟨ι, F, ς, G, R, S, ds, G', e, h⟩ => ?_
  obtain ⟨as, G1, e1, e⟩ := argE e
  obtain ⟨hl, e⟩ := arE e
  refine ⟨ι, F, ς, G, R, S, as, G1, e1, fun w' vs x R' r => ?_⟩
  match as, hl, r, e with
  | [d], _, r, e =>
    obtain ⟨v, rfl, r1⟩ := r.one
    obtain ⟨q, eq, e⟩ := rngE e
    obtain ⟨i, rfl, hb, rfl⟩ := rga1 eq
    cases e
    exact ⟨i, by rw [rv_int r1], hb.1, hb.2, h w' _ x R' jok_rng⟩
theorem li_rng2 (hg : Gl X "range") (hm : X.mg "range" = none) (ha : PA X [a, b] (LA X.K T f)) (hs : isStar a = false) (hs2 : isStar b = false) : PI X tg (.Call (.Name "range" p) [a, b] [] pos) (LI X.K T (argD f (arity 2 rngK))) := by
  refine PI.imp (pi_range2 hg hm ha (by rw [star_1 hs, star_1 hs2]; rfl) (star_1 hs2)) fun σ H Q ⟨ι, F, ς, G, R, S, ds, G', e, h⟩ => ?_
  obtain ⟨as, G1, e1, e⟩ := argE e
  obtain ⟨hl, e⟩ := arE e
  refine ⟨ι, F, ς, G, R, S, as, G1, e1, fun w' vs x R' r => ?_⟩
  match as, hl, r, e with
  | [d, d2], _, r, e =>
    obtain ⟨v, u, rfl, r1, r2⟩ := r.two
    obtain ⟨q, eq, e⟩ := rngE e
    obtain ⟨i, j, rfl, rfl, hb, rfl⟩ := rga2 eq
    cases e
    exact ⟨i, j, by rw [rv_int r1, rv_int r2], hb, h w' _ x R' jok_rng⟩
theorem li_rng3 (hg : Gl X "range") (hm : X.mg "range" = none) (ha : PA X [a, b, c] (LA X.K T f)) (hs : [a, b, c].all (fun e => !isStar e) = true) : PI X tg (.Call (.Name "range" p) [a, b, c] [] pos) (LI X.K T (argD f (arity 3 rngK))) := by
  have h1 := hs
  rw [List.all_cons, Bool.and_eq_true] at h1
  refine PI.imp (pi_range3 hg hm ha (star_1 (by simpa using h1.1)) (star_any h1.2)) fun σ H Q ⟨ι, F, ς, G, R, S, ds, G', e, h⟩ => ?_
  obtain ⟨as, G1, e1, e⟩ := argE e
  obtain ⟨hl, e⟩ := arE e
  refine ⟨ι, F, ς, G, R, S, as, G1, e1, fun w' vs x R' r => ?_⟩
  match as, hl, r, e with
  | [d, d2, d3], _, r, e =>
    obtain ⟨q, eq, e⟩ := rngE e
    obtain ⟨i, j, rfl, rfl, rfl, hb, rfl⟩ := rga3 eq
    cases e
    obtain ⟨v1, t1, rfl, r1, r⟩ := r
    obtain ⟨v2, t2, rfl, r2, r⟩ := r
    obtain ⟨v3, rfl, r3⟩ := r.one
    rw [rv_int r1, rv_int r2, rv_int r3]
    exact ⟨i, j, -1, (i - j).toNat, rfl, RgC.neg hb.1 hb.2.1 hb.2.2.1 hb.2.2.2, h w' _ x R' jok_rgc⟩
def zipK (ds : List D) (G : Hs) : Rs := match ds with
  | [.tup xs, .tup ys] => some (.tup (List.zipWith (fun x y => .tup [x, y]) xs ys), G)
  | _ => none
theorem li_zip {elts : List Expr} {kk : Nat} {tpos : Pos} (hg : Gl X "zip") (hm : X.mg "zip" = none) (ha : PA X [a, b] (LA X.K T f)) (hs : isStar a = false) (hs2 : isStar b = false) :
    PI X (.Tuple elts kk tpos) (.Call (.Name "zip" p) [a, b] [] pos) (LI X.K T (argD f zipK)) := by
  refine PI.imp (pi_zipT hg hm ha (star_1 hs) (star_any (by simp [hs2]))) fun σ H Q ⟨ι, F, ς, G, R, S, ds, G', e, h⟩ => ?_
  obtain ⟨as, G1, e1, e⟩ := argE e
  refine ⟨ι, F, ς, G, R, S, as, G1, e1, fun w' vs x R' r => ?_⟩
  unfold zipK at e
  split at e
  · rename_i xs ys
    cases e
    obtain ⟨v, u, rfl, r, r2⟩ := r.two
    obtain ⟨a, vs, rfl, h1, h2⟩ := r
    obtain ⟨b, us, rfl, h3, h4⟩ := r2
    exact ⟨a, b, vs, us, rfl, h1, h3, h w' _ x R' (jok_zip h1 h2 h3 h4)⟩
  · cases e
def enumK (ds : List D) (G : Hs) : Rs := match ds with
  | [.lst xs] => some (.tup (xs.zipIdx.map fun p => .tup [.int (p.2 : Nat), p.1]), G)
  | [.fz xs] => some (.tup (xs.zipIdx.map fun p => .tup [.int (p.2 : Nat), p.1]), G)
  | _ => none
theorem li_enum {elts : List Expr} {kk : Nat} {tpos : Pos} (hg : Gl X "enumerate") (hm : X.mg "enumerate" = none) (ha : PA X [a] (LA X.K T f)) (hs : isStar a = false) :
    PI X (.Tuple elts kk tpos) (.Call (.Name "enumerate" p) [a] [] pos) (LI X.K T (argD f enumK)) := by
  refine PI.imp (pi_enum hg hm ha (star_1 hs)) fun σ H Q ⟨ι, F, ς, G, R, S, ds, G', e, h⟩ => ?_
  obtain ⟨as, G1, e1, e⟩ := argE e
  refine ⟨ι, F, ς, G, R, S, as, G1, e1, fun w' vs x R' r => ?_⟩
  unfold enumK at e
  split at e
  · cases e
    obtain ⟨v, rfl, r1⟩ := r.one
    obtain ⟨a, vs, rfl, h1, h2⟩ := r1
    exact ⟨a, vs, rfl, h1.sq, h w' _ x R' (jok_enum (fun w'' y => (y.toExt.lst _ _ h1).sq) h2)⟩
  · cases e
    obtain ⟨v, rfl, r1⟩ := r.one
    obtain ⟨a, vs, rfl, h1, h2⟩ := r1
    exact ⟨a, vs, rfl, h1.sq, h w' _ x R' (jok_enum (fun w'' y => (y.toExt.fz _ _ h1).sq) h2)⟩
  · cases e

/-! targets -/
inductive Tg where
  | nm (i : Nat) | tp (l : Tg) | nil | cons (a b : Tg)
  deriving DecidableEq
def bindL : Tg → List D → Env' → Option Env'
  | .nm i, [d], ς => some (ς.set i (some d))
  | .tp l, [.tup ds], ς => bindL l ds ς
  | .nil, [], ς => some ς
  | .cons a b, d :: ds, ς => (bindL a [d] ς).bind (bindL b ds)
  | _, _, _ => none
def Tg.ix : Tg → List Nat
  | .nm i => [i]
  | .tp l => l.ix
  | .nil => []
  | .cons a b => a.ix ++ b.ix
/-- nothing but the slots l is stored -/
def Sam (l : List Nat) (σ σ' : L2.St) : Prop := σ'.length = σ.length ∧ ∀ i, i ∉ l → σ'[i]? = σ[i]?
/-- a target's reading -/
def GT (K : PySem.W.Frag) (T : List Addr) (t : Tg) : TG := fun v σ H Q =>
  ∃ ι F ς G d ς', Rel K T ⟨ι, F, H⟩ G ∧ RS K ⟨ι, F, H⟩ ς σ ∧ RV K ⟨ι, F, H⟩ d v ∧ bindL t [d] ς = some ς' ∧ ∀ σ', RS K ⟨ι, F, H⟩ ς' σ' → Sam t.ix σ σ' → Q σ' H
def GTs (K : PySem.W.Frag) (T : List Addr) (t : Tg) : TGs := fun vs σ H Q =>
  ∃ ι F ς G ds ς', Rel K T ⟨ι, F, H⟩ G ∧ RS K ⟨ι, F, H⟩ ς σ ∧ RVs K ⟨ι, F, H⟩ ds vs ∧ bindL t ds ς = some ς' ∧ ∀ σ', RS K ⟨ι, F, H⟩ ς' σ' → Sam t.ix σ σ' → Q σ' H
theorem _root_.L2.PG.imp {X : Cx} {e : Expr} {t t' : TG} (h : PG X e t) (m : ∀ v σ H Q, t' v σ H Q → t v σ H Q) : PG X e t' := ⟨fun pins s σ H v u Q I r q => h.run pins s σ H v u Q I r (m v σ H Q q)⟩
theorem _root_.L2.PGs.imp {X : Cx} {e : List Expr} {t t' : TGs} (h : PGs X e t) (m : ∀ v σ H Q, t' v σ H Q → t v σ H Q) : PGs X e t' := ⟨fun pins s σ H v u Q I r q => h.run pins s σ H v u Q I r (m v σ H Q q)⟩
theorem gt_nm {i : Nat} {x : Str} (hN : X.N.Nodup) (hi : X.N[i]? = some x) (hx : Loc X.env.scope x) (hf : X.fn x = true ∨ X.env.scope.names.lookup x = some .local) : PG X (.Name x pos) (GT X.K T (.nm i)) := by
  refine (pg_name hN hi hx hf).imp fun v σ H Q ⟨ι, F, ς, G, d, ς', R, S, r, e, h⟩ => ?_
  cases e
  exact h _ (S.set r i) ⟨by simp, fun j hj => List.getElem?_set_ne (fun z => hj (by simp [Tg.ix, z]))⟩
theorem assign_1 {e : Expr} {es : List Expr} {env : Env} (h : isStar e = false) : (assignEach (e :: es) env).map (·.2) = assign e env :: (assignEach es env).map (·.2) := by
  cases e <;> first | rfl | (cases h)
theorem gts_nil : PGs X [] (GTs X.K T .nil) := by
  refine pgs_nil.imp fun vs σ H Q ⟨ι, F, ς, G, ds, ς', R, S, r, e, h⟩ => ?_
  cases ds with
  | nil => cases e; exact ⟨r, h _ S ⟨rfl, fun _ _ => rfl⟩⟩
  | cons => cases e
theorem gts_cons {t u : Tg} (ha : PG X a (GT X.K T t)) (hr : PGs X es (GTs X.K T u)) (hs : isStar a = false) : PGs X (a :: es) (GTs X.K T (.cons t u)) := by
  refine (pgs_cons ha hr (assign_1 hs)).imp fun vs σ H Q ⟨ι, F, ς, G, ds, ς', R, S, r, e, h⟩ => ?_
  cases ds with
  | nil => cases e
  | cons d ds =>
    obtain ⟨v, vr, rfl, r1, r2⟩ := r
    have e : (bindL t [d] ς).bind (bindL u ds) = some ς' := by
      cases t <;> exact e
    cases e1 : bindL t [d] ς with
    | none => rw [e1] at e; cases e
    | some ς1 =>
      rw [e1] at e
      exact ⟨v, vr, rfl, ι, F, ς, G, d, ς1, R, S, r1, e1, fun σ' S' m1 => ⟨ι, F, ς1, G, ds, ς', R, S', r2, e, fun σ'' S'' m2 => h σ'' S'' ⟨m2.1.trans m1.1, fun j hj => (m2.2 j fun z => hj (List.mem_append_right _ z)).trans (m1.2 j fun z => hj (List.mem_append_left _ z))⟩⟩⟩
theorem each_len : ∀ {es : List Expr} {env : Env}, (assignEach es env).length = es.length
  | [], _ => rfl
  | e :: es, env => by cases e <;> exact congrArg (· + 1) (each_len (es := es) (env := env))
theorem each_star : ∀ {es : List Expr} {env : Env}, es.all (fun e => !isStar e) = true → (assignEach es env).findIdx? (·.1) = none
  | [], _, _ => rfl
  | e :: es, env, h => by
    simp only [List.all_cons, Bool.and_eq_true] at h
    have hs : isStar e = false := by simpa using h.1
    have ih := each_star (es := es) (env := env) h.2
    have e1 : assignEach (e :: es) env = (false, assign e env) :: assignEach es env := by cases e <;> first | rfl | (cases hs)
    rw [e1, List.findIdx?_cons, ih]; rfl
/-- how many a target list takes -/
def Tg.len : Tg → Nat
  | .cons _ b => b.len + 1
  | _ => 0
def Tg.isL : Tg → Bool
  | .cons _ b => b.isL
  | .nil => true
  | _ => false
theorem bindL_len : ∀ {t : Tg} {ds : List D} {ς ς' : Env'}, t.isL = true → bindL t ds ς = some ς' → ds.length = t.len
  | .nil, [], _, _, _, _ => rfl
  | .nil, _ :: _, _, _, _, e => by cases e
  | .cons a b, [], _, _, _, e => by cases e
  | .cons a b, d :: ds, ς, ς', h, e => by
    have e : (bindL a [d] ς).bind (bindL b ds) = some ς' := by cases a <;> exact e
    cases e1 : bindL a [d] ς with
    | none => rw [e1] at e; cases e
    | some ς1 =>
      rw [e1] at e
      exact congrArg (· + 1) (bindL_len (t := b) (show b.isL = true from h) e)
  | .nm _, _, _, _, h, _ => by cases h
  | .tp _, _, _, _, h, _ => by cases h
theorem gt_tup {kk : Nat} {t : Tg} (hc : X.calm = true) (h : PGs X es (GTs X.K T t)) (ht : t.isL = true) (hl : t.len = es.length) (hs : es.all (fun e => !isStar e) = true) : PG X (.Tuple es kk pos) (GT X.K T (.tp t)) := by
  refine (pg_tup hc h each_len (each_star hs)).imp fun v σ H Q ⟨ι, F, ς, G, d, ς', R, S, r, e, h⟩ => ?_
  cases d <;> first | (cases e; done) | skip
  rename_i ds
  have e : bindL t ds ς = some ς' := e
  obtain ⟨a, vs, rfl, h1, h2⟩ := r
  exact ⟨a, vs, rfl, h1, by rw [← h2.len, bindL_len ht e, hl], ι, F, ς, G, ds, ς', R, S, h2, e, h⟩
end
end Mp
set_option Elab.async false
set_option linter.all false
set_option autoImplicit false
set_option maxRecDepth 100000
set_option maxHeartbeats 1000000
/-! Mp, part 9: comprehensions and generator expressions -/
namespace Mp
open PySem PySem.Spec L2
open PyProof.Rows hiding St

variable {K : PySem.W.Frag} {T : List Addr}

def wipeE (ς : Env') : List Nat → Env'
  | [] => ς
  | v :: vs => (wipeE ς vs).set v none
theorem RS.none {w : Wd} {ς : Env'} {σ : L2.St} (h : RS K w ς σ) (i : Nat) : RS K w (ς.set i none) (σ.set i none) := by
  refine ⟨by simp [h.len], fun j e q => ?_⟩
  by_cases hj : j = i
  · subst hj
    by_cases hl : j < ς.length
    · rw [List.getElem?_set_self hl] at q; cases q
    · rw [List.getElem?_eq_none (by simpa using hl)] at q; cases q
  · rw [List.getElem?_set_ne (Ne.symm hj)] at q ⊢
    exact h.at_ j e q
theorem RS.wipe {w : Wd} {ς : Env'} {σ : L2.St} (h : RS K w ς σ) : ∀ vs, RS K w (wipeE ς vs) (L2.wipe σ vs)
  | [] => h
  | v :: vs => (RS.wipe h vs).none v
theorem wipe_get (σ : L2.St) (i : Nat) : ∀ vs, (L2.wipe σ vs)[i]? = if i ∈ vs then (σ[i]?).map (fun _ => none) else σ[i]?
  | [] => by simp [L2.wipe]
  | v :: vs => by
    show ((L2.wipe σ vs).set v none)[i]? = _
    by_cases hv : i = v
    · subst hv
      rw [if_pos (by simp)]
      by_cases hl : i < σ.length
      · rw [List.getElem?_set_self (by rw [wipe_length]; exact hl), List.getElem?_eq_getElem hl]; rfl
      · rw [List.getElem?_eq_none (by rw [List.length_set, wipe_length]; omega), List.getElem?_eq_none (by omega)]; rfl
    · rw [List.getElem?_set_ne (Ne.symm hv), wipe_get σ i vs]
      by_cases hm : i ∈ vs
      · rw [if_pos hm, if_pos (by simp [hm])]
      · rw [if_neg hm, if_neg (by simp [hv, hm])]
theorem wipe_same {σ σ2 : L2.St} {l vs : List Nat} (h : Sam l (L2.wipe σ vs) σ2) (hl : ∀ i ∈ l, i ∈ vs) : L2.wipe σ2 vs = L2.wipe σ vs := by
  apply List.ext_getElem?
  intro i
  rw [wipe_get, wipe_get]
  have hlen : σ2.length = σ.length := by rw [h.1, wipe_length]
  by_cases hm : i ∈ vs
  · rw [if_pos hm, if_pos hm]
    by_cases hi : i < σ.length
    · rw [List.getElem?_eq_getElem hi, List.getElem?_eq_getElem (by omega)]; rfl
    · rw [List.getElem?_eq_none (by omega), List.getElem?_eq_none (by omega)]
  · rw [if_neg hm, if_neg hm, h.2 i fun z => hm (hl i z), wipe_get, if_neg hm]

/-! a list that is being made: no cell, not frozen yet -/
structure Out (w : Wd) (a : Addr) (vs : List V) : Prop where
  at_ : w.H a = some (.lst vs)
  ni : a ∉ w.ι
  nf : ¬ w.F a
theorem Out.ext {w w' : Wd} {a : Addr} {vs : List V} (h : Out w a vs) (x : Ex2 K w w') : Out w' a vs := by
  refine ⟨x.stay a _ h.at_ (.inl h.ni) (fun ps z => by cases z), fun z => ?_, fun z => ?_⟩
  · rcases x.new a z with q | q
    · exact h.ni q
    · rw [h.at_] at q; cases q
  · rcases x.nf a z with q | q | q
    · exact h.nf q
    · exact h.ni q
    · rw [h.at_] at q; cases q
theorem Out.start {w : Wd} {G : Hs} {a : Addr} (R : Rel K T w G) (h : w.H a = none) {vs : List V} : Out ⟨w.ι, w.F, upd w.H a (.lst vs)⟩ a vs :=
  ⟨upd_same, fun z => R.alv a z h, fun z => R.live a z h⟩
theorem Out.put {w : Wd} {a : Addr} {vs us : List V} (h : Out w a vs) : Out ⟨w.ι, w.F, upd w.H a (.lst us)⟩ a us := ⟨upd_same, h.ni, h.nf⟩
theorem Out.wext {w : Wd} {a : Addr} {vs us : List V} (h : Out w a vs) : Ext K w ⟨w.ι, w.F, upd w.H a (.lst us)⟩ := Ext.write h.nf h.at_ trivial
/-- .. seen from a world where it was not there yet -/
theorem Ex2.out {w w' : Wd} {a : Addr} {vs us : List V} (x : Ex2 K w w') (h : Out w' a vs) (hn : w.H a = none) : Ex2 K w ⟨w'.ι, w'.F, upd w'.H a (.lst us)⟩ := by
  refine ⟨x.toExt.trans h.wext, x.new, x.fr, x.nf, fun b o e n t => ?_, fun b hb => ?_⟩
  · have nb : b ≠ a := fun z => by rw [z, hn] at e; cases e
    show upd w'.H a _ b = _
    rw [upd_ne nb]; exact x.stay b o e n t
  · show upd w'.H a _ b ≠ none
    by_cases hba : b = a
    · rw [hba, upd_same]; simp
    · rw [upd_ne hba]; exact x.occ b hb
theorem Rel.out {w : Wd} {G : Hs} {a : Addr} {vs us : List V} (R : Rel K T w G) (h : Out w a vs) : Rel K T ⟨w.ι, w.F, upd w.H a (.lst us)⟩ G := by
  have x : Ext K w ⟨w.ι, w.F, upd w.H a (.lst us)⟩ := h.wext
  refine ⟨R.len, R.nd, fun n c b e1 e2 => ?_, fun b hb => ?_, fun b hb => ?_, fun P hP => ?_⟩
  · have nb : b ≠ a := fun z => h.ni (z ▸ List.mem_of_getElem? e2)
    exact (R.cell n c b e1 e2).mono x (upd_ne nb) fun z => z
  · show upd w.H a _ b ≠ none
    by_cases hba : b = a
    · rw [hba, upd_same]; simp
    · rw [upd_ne hba]; exact R.live b hb
  · show upd w.H a _ b ≠ none
    by_cases hba : b = a
    · rw [hba, upd_same]; simp
    · rw [upd_ne hba]; exact R.alv b hb
  · obtain ⟨ps, q1, q2⟩ := R.tab P hP
    refine ⟨ps, ?_, q2⟩
    show upd w.H a _ P = _
    rw [upd_ne (fun z => by rw [z, h.at_] at q1; cases q1)]; exact q1
/-- .. at its end: frozen, or a cell -/
theorem Ex2.outF {w w' : Wd} {a : Addr} (x : Ex2 K w w') (hn : w.H a = none) : Ex2 K w ⟨w'.ι, fun b => w'.F b ∨ b = a, w'.H⟩ :=
  ⟨x.toExt.trans Ext.freeze, x.new, fun b z => .inl (x.fr b z), fun b z => z.elim (x.nf b) fun q => .inr (.inr (q ▸ hn)), x.stay, x.occ⟩
theorem Rel.outF {w : Wd} {G : Hs} {a : Addr} {vs : List V} (R : Rel K T w G) (h : Out w a vs) : Rel K T ⟨w.ι, fun b => w.F b ∨ b = a, w.H⟩ G := by
  refine ⟨R.len, R.nd, fun n c b e1 e2 => ?_, fun b hb => ?_, R.alv, R.tab⟩
  · have nb : b ≠ a := fun z => h.ni (z ▸ List.mem_of_getElem? e2)
    exact (R.cell n c b e1 e2).mono Ext.freeze rfl fun z => z.elim id fun z => absurd z nb
  · rcases hb with hb | rfl
    · exact R.live b hb
    · show w.H _ ≠ none
      rw [h.at_]; simp
theorem Ext.addC {w : Wd} {a : Addr} : Ext K w ⟨w.ι ++ [a], w.F, w.H⟩ := ⟨fun _ _ e => getElem?_snoc e, fun _ _ q => q, fun _ _ q => q, fun _ _ q => q⟩
theorem Ex2.outC {w w' : Wd} {a : Addr} (x : Ex2 K w w') (hn : w.H a = none) : Ex2 K w ⟨w'.ι ++ [a], w'.F, w'.H⟩ := by
  refine ⟨x.toExt.trans Ext.addC, fun b hb => ?_, x.fr, x.nf, x.stay, x.occ⟩
  rcases List.mem_append.mp hb with hb | hb
  · exact x.new b hb
  · exact .inr (by rw [List.mem_singleton.mp hb]; exact hn)
theorem Rel.outC {w : Wd} {G : Hs} {a : Addr} {vs : List V} {ds : List D} (R : Rel K T w G) (h : Out w a vs) (r : RVs K w ds vs) : Rel K T ⟨w.ι ++ [a], w.F, w.H⟩ (G ++ [.lst ds]) := by
  refine ⟨by simp [R.len], ?_, fun n c b e1 e2 => ?_, R.live, fun b hb => ?_, R.tab⟩
  · refine List.nodup_append.mpr ⟨R.nd, by simp, fun x hx y hy => ?_⟩
    rw [List.mem_singleton.mp hy]
    exact fun z => h.ni (z ▸ hx)
  · rcases getElem?_snoc_inv e1 with e1 | ⟨en, rfl⟩
    · have hn : n < w.ι.length := by rw [R.len]; exact (List.getElem?_eq_some_iff.mp e1).1
      rw [List.getElem?_append_left hn] at e2
      exact (R.cell n c b e1 e2).mono Ext.addC rfl fun z => z
    · rw [en, ← R.len, List.getElem?_append_right (Nat.le_refl _), Nat.sub_self] at e2
      simp at e2
      subst e2
      exact ⟨h.nf, vs, h.at_, r.ext Ext.addC⟩
  · rcases List.mem_append.mp hb with hb | hb
    · exact R.alv b hb
    · rw [List.mem_singleton.mp hb]
      show w.H a ≠ none
      rw [h.at_]; simp

/-! comprehensions -/
def loopC (c : FB) (e : Fn) (t : Tg) (ς : Env') : List D → List D → Hs → Option (List D × Hs)
  | [], acc, G => some (acc, G)
  | d :: ds, acc, G => (bindL t [d] ς).bind fun ς1 => bnd (c ς1 G) fun b G1 =>
    if b = true then bnd (e ς1 G1) fun x G2 => if acc.length < sizeLine then loopC c e t ς ds (acc ++ [x]) G2 else none
    else loopC c e t ς ds acc G1
def compD (m : Bool) (t : Tg) (own : List Nat) (fi : Fn) (c : FB) (e : Fn) (ς : Env') (G : Hs) : Rs :=
  argD fi (fun ds G1 => bnd (loopC c e t (wipeE ς own) ds [] G1) (newD m)) ς G
theorem lts_nil {X : Cx} : PTs X [] (LT X.K T fun _ G => some (true, G)) := by
  refine ⟨fun pins s σ H Q I h => pts_nil.run pins s σ H Q I ?_⟩
  obtain ⟨ι, F, ς, G, R, S, h⟩ := h
  exact h.now R
section
variable {X : Cx} {elt tg iter : Expr} {ifs : List Expr} {scope : Scope} {own : List (Str × Nat)} {pos : Pos} {fi e : Fn} {c : FB} {t : Tg}
theorem comp_in {K : PySem.W.Frag} (m : Bool) {vs : List Nat} (hix : ∀ i ∈ t.ix, i ∈ vs) {σ : L2.St} {H : Hp} {Q : VK} (h : LE K T (compD m t vs fi c e) σ H Q) : tLc (LI K T fi) (GT K T t) (LT K T c) (LE K T e) vs σ H Q := by
  obtain ⟨ι, F, ς, G, R, S, h⟩ := h
  have h : Lift K T ⟨ι, F, H⟩ (bnd (fi ς G) fun xs G1 => match xs with | .tup ds => bnd (loopC c e t (wipeE ς vs) ds [] G1) (newD m) | _ => none) Q := h
  obtain ⟨ds, G1, e1, h⟩ := LiftL.bnd h
  refine ⟨ι, F, ς, G, R, S, ds, G1, e1, fun w1 J x1 R1 jok Da hD => ?_⟩
  have hL := h w1 x1
  cases eL : loopC c e t (wipeE ς vs) ds [] G1 with
  | none => rw [eL] at hL; exact hL.no
  | some pF =>
  obtain ⟨accF, GF⟩ := pF
  rw [eL] at hL
  have hL : Lift K T w1 (newD m accF GF) Q := hL
  refine ⟨fun i mm H' => ∃ (w' : Wd) (acc : List D) (G' : Hs) (us : List V), w'.H = H' ∧ Ex2 K w1 w' ∧ Rel K T w' G' ∧ Out w' Da us ∧ RVs K w' acc us ∧ i ≤ ds.length ∧ mm = ds.length - i ∧ loopC c e t (wipeE ς vs) (ds.drop i) acc G' = some (accF, GF),
    ⟨ds.length, ⟨w1.ι, w1.F, upd w1.H Da (.lst [])⟩, [], G1, [], rfl, Ex2.newTup hD, R1.newTup hD, Out.start R1 hD, rfl, Nat.zero_le _, rfl, eL⟩, ?_⟩
  rintro i mm H' ⟨w', acc, G', us, rfl, x', R', o', ra, hi', rfl, el⟩
  obtain ⟨jgo, jstop⟩ := jok w' G' x' R'
  by_cases hlt : i < ds.length
  · refine .inr ?_
    have ed : ds[i]? = some ds[i] := List.getElem?_eq_getElem hlt
    rw [List.drop_eq_getElem_cons hlt] at el
    simp only [loopC] at el
    cases eb : bindL t [ds[i]] (wipeE ς vs) with
    | none => rw [eb] at el; cases el
    | some ς1 =>
    rw [eb] at el
    have el : bnd (c ς1 G') (fun b G1 => if b = true then bnd (e ς1 G1) fun x G2 => if acc.length < sizeLine then loopC c e t (wipeE ς vs) (ds.drop (i + 1)) (acc ++ [x]) G2 else none else loopC c e t (wipeE ς vs) (ds.drop (i + 1)) acc G1) = some (accF, GF) := el
    obtain ⟨b, G2, ec, el⟩ := bnd_eq el
    obtain ⟨go, yld⟩ := jgo i _ ed
    refine ⟨go, fun H' => ∃ (w' : Wd) (acc : List D) (G' : Hs) (us : List V), w'.H = H' ∧ Ex2 K w1 w' ∧ Rel K T w' G' ∧ Out w' Da us ∧ RVs K w' acc us ∧ loopC c e t (wipeE ς vs) (ds.drop (i + 1)) acc G' = some (accF, GF),
      fun H' ⟨w5, acc5, G5, us5, h1, h2, h3, h4, h5, h6⟩ => ⟨ds.length - (i + 1), by omega, w5, acc5, G5, us5, h1, h2, h3, h4, h5, hlt, rfl, h6⟩, fun v H' hy => ?_⟩
    obtain ⟨w2, rfl, x2, R2, rd⟩ := yld v H' hy
    have S2 : RS K w2 (wipeE ς vs) (L2.wipe σ vs) := ((((S.ext x1.toExt).ext x'.toExt).ext x2.toExt)).wipe vs
    refine ⟨w2.ι, w2.F, wipeE ς vs, G', ds[i], ς1, R2, S2, rd, eb, fun σ2 S3 sm => ⟨wipe_same sm hix, ?_⟩⟩
    refine ⟨w2.ι, w2.F, ς1, G', R2, S3, b, G2, ec, fun w3 x3 R3 => ?_⟩
    have x13 : Ex2 K w1 w3 := (x'.trans x2).trans x3
    have o3 : Out w3 Da us := o'.ext (x2.trans x3)
    have ra3 : RVs K w3 acc us := ra.ext (x2.trans x3).toExt
    cases b with
    | false =>
      simp only [Bool.false_eq_true, if_false] at el ⊢
      exact ⟨w3, acc, G2, us, rfl, x13, R3, o3, ra3, el⟩
    | true =>
      simp only [if_true] at el ⊢
      obtain ⟨y, G3, ee, el⟩ := bnd_eq el
      refine ⟨w3.ι, w3.F, ς1, G2, R3, S3.ext x3.toExt, y, G3, ee, fun w4 yv x4 R4 ry => ?_⟩
      have o4 : Out w4 Da us := o3.ext x4
      split at el
      · rename_i hsz
        refine ⟨us, o4.at_, by rw [← ra.len]; exact hsz, ?_⟩
        refine ⟨⟨w4.ι, w4.F, upd w4.H Da (.lst (us ++ [yv]))⟩, acc ++ [y], G3, us ++ [yv], rfl, (x13.trans x4).out o4 hD, R4.out o4, o4.put, ?_, el⟩
        exact ((ra3.ext x4.toExt).append (show RVs K w4 [y] [yv] from ⟨yv, [], rfl, ry, rfl⟩)).ext o4.wext
      · cases el
  · have hi2 : i = ds.length := by omega
    subst hi2
    refine .inl ⟨jstop, ?_⟩
    rw [List.drop_length] at el
    have el : some (acc, G') = some (accF, GF) := el
    cases el
    cases m with
    | false =>
      have hL : Lift K T w1 (some (.lst accF, GF)) Q := hL
      refine hL.to (w' := ⟨w'.ι, fun b => w'.F b ∨ b = Da, w'.H⟩) (x'.outF hD) (R'.outF o') ⟨Da, us, rfl, ⟨.inr rfl, o'.at_⟩, ra.ext Ext.freeze⟩
    | true =>
      have hL : Lift K T w1 (some (.ref GF.length, GF ++ [.lst accF])) Q := hL
      refine hL.to (w' := ⟨w'.ι ++ [Da], w'.F, w'.H⟩) (x'.outC hD) (R'.outC o' ra) ⟨Da, rfl, ?_⟩
      show (w'.ι ++ [Da])[GF.length]? = some Da
      rw [← R'.len, List.getElem?_append_right (Nat.le_refl _), Nat.sub_self]; rfl
theorem le_comp (m : Bool) (hc : X.calm = true) (hN : X.N.Nodup) (hi : PI X tg iter (LI X.K T fi)) (ok : BlkOk X.N X.env.scope scope own)
    (hg : ∀ (s : Shared) (H : Hp) (C : Addr) (cl : List (Str × Addr)) (fp : List Addr), PG (X.blk s H scope (compEnvC scope cl C X.env) fp) tg (GT X.K T t)) (ht : ∀ (s : Shared) (H : Hp) (C : Addr) (cl : List (Str × Addr)) (fp : List Addr), PTs (X.blk s H scope (compEnvC scope cl C X.env) fp) ifs (LT X.K T c))
    (he : ∀ (s : Shared) (H : Hp) (C : Addr) (cl : List (Str × Addr)) (fp : List Addr), PE (X.blk s H scope (compEnvC scope cl C X.env) fp) elt (LE X.K T e)) (hs : ∀ x, foldedSetIterable iter X.env x = pure x) (hix : ∀ i ∈ t.ix, i ∈ own.map (·.2)) :
    PE X (.ListComp elt [⟨tg, iter, ifs, 0⟩] scope pos) (LE X.K T (compD m t (own.map (·.2)) fi c e)) :=
  (pe_lc hc hN hi ok hg ht he hs).imp fun σ H Q h => comp_in m hix h
end

/-! generator expressions under all, any -/
def loopG (sb : Bool) (e : Fn) (t : Tg) (ς : Env') : List D → Hs → Rs
  | [], G => some (.bl (!sb), G)
  | d :: ds, G => (bindL t [d] ς).bind fun ς1 => bnd (blB (e ς1 G)) fun b G1 => if b = sb then some (.bl sb, G1) else loopG sb e t ς ds G1
def genD (sb : Bool) (t : Tg) (own : List Nat) (fi : Fn) (e : Fn) (ς : Env') (G : Hs) : Rs := argD fi (fun ds G1 => loopG sb e t (wipeE ς own) ds G1) ς G
theorem tabbed_ext {w : Wd} {G : Hs} {P : Addr} {H' : Hp} (R : Rel K T w G) (hT : GxR.TabG w.H P) (h : GxR.Tabbed P w.H H') : Ex2 K w ⟨w.ι, w.F, H'⟩ ∧ Rel K T ⟨w.ι, w.F, H'⟩ G := by
  obtain ⟨⟨ps', h1, h2⟩, h3⟩ := h
  obtain ⟨ps, q1, q2⟩ := hT
  have ne : ∀ b o, w.H b = some o → (∀ ps, o ≠ .tbl ps) → b ≠ P := fun b o e n z => by
    rw [z, q1] at e; cases e
    exact n _ rfl
  have x : Ext K w ⟨w.ι, w.F, H'⟩ := by
    refine ⟨fun _ _ e => e, fun a xs q => ?_, fun a xs q => ⟨q.1, ?_⟩, fun a xs q => ?_⟩
    · rcases q with (q | ⟨o', q⟩) | q
      · exact .inl (.inl (by show H' a = _; rw [h3 a (ne a _ q fun _ z => by cases z)]; exact q))
      · exact .inl (.inr ⟨o', by show H' a = _; rw [h3 a (ne a _ q fun _ z => by cases z)]; exact q⟩)
      · exact .inr q
    · show H' a = _
      rw [h3 a (ne a _ q.2 fun _ z => by cases z)]; exact q.2
    · rcases q with ⟨o', q⟩ | q
      · exact .inl ⟨o', by show H' a = _; rw [h3 a (ne a _ q fun _ z => by cases z)]; exact q⟩
      · exact .inr q
  have occ : ∀ a, w.H a ≠ none → H' a ≠ none := fun a ha => by
    by_cases e : a = P
    · rw [e, h1]; simp
    · rw [h3 a e]; exact ha
  refine ⟨⟨x, fun a z => .inl z, fun _ z => z, fun _ z => .inl z, fun a o e _ t => ?_, occ⟩, R.len, R.nd, fun n c a e1 e2 => ?_, fun a ha => occ a (R.live a ha), fun a ha => occ a (R.alv a ha), fun Q hQ => ?_⟩
  · show H' a = _
    rw [h3 a (ne a o e t)]; exact e
  · have hc := R.cell n c a e1 e2
    by_cases ea : a = P
    · cases c with
      | gone => trivial
      | lst ds => obtain ⟨_, vs, z, _⟩ := hc; rw [ea, q1] at z; cases z
      | dct ds => obtain ⟨_, vs, z, _⟩ := hc; rw [ea, q1] at z; cases z
    · exact hc.mono x (h3 a ea) fun z => z
  · by_cases e : Q = P
    · rw [e]; exact ⟨ps', h1, h2⟩
    · obtain ⟨pz, z1, z2⟩ := R.tab Q hQ
      exact ⟨pz, by show H' Q = _; rw [h3 Q e]; exact z1, z2⟩
theorem gen_in {X : Cx} {P : Addr} {vs : List Nat} {fi e : Fn} {t : Tg} {sb : Bool} (hP : P ∈ T) (hix : ∀ i ∈ t.ix, i ∈ vs) {σ : L2.St} {H : Hp} {Q : VK} (h : LE K T (genD sb t vs fi e) σ H Q) : GxM.tGen sb P (LI K T fi) (GT K T t) (LE K T e) vs σ H Q := by
  obtain ⟨ι, F, ς, G, R, S, h⟩ := h
  obtain ⟨ds, G1, e1, h⟩ := LiftL.bnd h
  refine ⟨ι, F, ς, G, R, S, ds, G1, e1, fun w1 J x1 R1 jok => ⟨R1.tab P hP, fun H2 tb => ?_⟩⟩
  obtain ⟨x2, R2⟩ := tabbed_ext R1 (R1.tab P hP) tb
  have hL := h w1 x1
  cases eL : loopG sb e t (wipeE ς vs) ds G1 with
  | none => rw [eL] at hL; exact hL.no
  | some pF =>
  obtain ⟨dF, GF⟩ := pF
  rw [eL] at hL
  refine ⟨fun i mm H' => ∃ (w' : Wd) (G' : Hs), w'.H = H' ∧ Ex2 K w1 w' ∧ Rel K T w' G' ∧ i ≤ ds.length ∧ mm = ds.length - i ∧ loopG sb e t (wipeE ς vs) (ds.drop i) G' = some (dF, GF),
    ⟨ds.length, ⟨w1.ι, w1.F, H2⟩, G1, rfl, x2, R2, Nat.zero_le _, rfl, eL⟩, ?_⟩
  rintro i mm H' ⟨w', G', rfl, x', R', hi', rfl, el⟩
  obtain ⟨jgo, jstop⟩ := jok w' G' x' R'
  by_cases hlt : i < ds.length
  · refine .inr ?_
    have ed : ds[i]? = some ds[i] := List.getElem?_eq_getElem hlt
    rw [List.drop_eq_getElem_cons hlt] at el
    simp only [loopG] at el
    cases eb : bindL t [ds[i]] (wipeE ς vs) with
    | none => rw [eb] at el; cases el
    | some ς1 =>
    rw [eb] at el
    have el : bnd (blB (e ς1 G')) (fun b G1 => if b = sb then some (D.bl sb, G1) else loopG sb e t (wipeE ς vs) (ds.drop (i + 1)) G1) = some (dF, GF) := el
    obtain ⟨b, G2, ec, el⟩ := bnd_eq el
    obtain ⟨go, yld⟩ := jgo i _ ed
    refine ⟨go, fun H' => ∃ (w' : Wd) (G' : Hs), w'.H = H' ∧ Ex2 K w1 w' ∧ Rel K T w' G' ∧ loopG sb e t (wipeE ς vs) (ds.drop (i + 1)) G' = some (dF, GF),
      fun H' ⟨w5, G5, h1, h2, h3, h4⟩ => ⟨ds.length - (i + 1), by omega, w5, G5, h1, h2, h3, hlt, rfl, h4⟩, fun v H' hy => ?_⟩
    obtain ⟨w2, rfl, x2', R2', rd⟩ := yld v H' hy
    have S2 : RS K w2 (wipeE ς vs) (L2.wipe σ vs) := ((((S.ext x1.toExt).ext x'.toExt).ext x2'.toExt)).wipe vs
    refine ⟨w2.ι, w2.F, wipeE ς vs, G', ds[i], ς1, R2', S2, rd, eb, fun σ2 S3 sm => ⟨wipe_same sm hix, ?_⟩⟩
    refine ⟨w2.ι, w2.F, ς1, G', R2', S3, .bl b, G2, blB_eq ec, fun w3 y x3 R3 ry => ⟨b, ry, ?_⟩⟩
    by_cases hb : b = sb
    · rw [if_pos hb] at el ⊢
      cases el
      exact hL.to ((x'.trans x2').trans x3) R3 rfl
    · rw [if_neg hb] at el ⊢
      exact ⟨w3, G2, rfl, (x'.trans x2').trans x3, R3, el⟩
  · have hi2 : i = ds.length := by omega
    subst hi2
    refine .inl ⟨jstop, ?_⟩
    rw [List.drop_length] at el
    have el : some (D.bl (!sb), G') = some (dF, GF) := el
    cases el
    exact hL.to x' R' rfl
end Mp
set_option Elab.async false
set_option linter.all false
set_option autoImplicit false
set_option maxRecDepth 100000
set_option maxHeartbeats 1000000
/-! Mp, part 10: statements -/
namespace Mp
open PySem PySem.Spec L2
open PyProof.Rows hiding St

variable {K : PySem.W.Frag} {T : List Addr}

inductive Res where
  | nx (ς : Env') (G : Hs) | rt (d : D) (G : Hs) | bk (ς : Env') (G : Hs) | ct (ς : Env') (G : Hs)
def EndOk (K : PySem.W.Frag) (T : List Addr) (w : Wd) (D : Ends) : Res → Prop
  | .nx ς G => ∀ w' σ', Ex2 K w w' → Rel K T w' G → RS K w' ς σ' → D.nx σ' w'.H
  | .rt d G => ∀ w' v, Ex2 K w w' → Rel K T w' G → RV K w' d v → D.rt v w'.H
  | .bk ς G => ∀ w' σ', Ex2 K w w' → Rel K T w' G → RS K w' ς σ' → D.bk σ' w'.H
  | .ct ς G => ∀ w' σ', Ex2 K w w' → Rel K T w' G → RS K w' ς σ' → D.ct σ' w'.H
theorem EndOk.from {w w' : Wd} {D : Ends} {o : Res} (x : Ex2 K w w') (h : EndOk K T w D o) : EndOk K T w' D o := by
  cases o <;> exact fun w'' v y => h w'' v (x.trans y)
def LiftS (K : PySem.W.Frag) (T : List Addr) (w : Wd) (r : Option Res) (D : Ends) : Prop := ∃ o, r = some o ∧ EndOk K T w D o
theorem LiftS.from {w w' : Wd} {r : Option Res} {D : Ends} (x : Ex2 K w w') (h : LiftS K T w r D) : LiftS K T w' r D := let ⟨o, e, q⟩ := h; ⟨o, e, q.from x⟩
theorem LiftS.no {w : Wd} {D : Ends} {P : Prop} (h : LiftS K T w none D) : P := by obtain ⟨_, e, _⟩ := h; cases e
abbrev FS := Env' → Hs → Option Res
def LS (K : PySem.W.Frag) (T : List Addr) (f : FS) : TS := fun D σ H => ∃ ι F ς G, Rel K T ⟨ι, F, H⟩ G ∧ RS K ⟨ι, F, H⟩ ς σ ∧ LiftS K T ⟨ι, F, H⟩ (f ς G) D
theorem LiftS.bnd {α : Type} {w : Wd} {r : Option (α × Hs)} {k : α → Hs → Option Res} {D : Ends} (h : LiftS K T w (Mp.bnd r k) D) : ∃ d G1, r = some (d, G1) ∧ ∀ w', Ex2 K w w' → LiftS K T w' (k d G1) D := by
  cases r with
  | none => exact h.no
  | some p => exact ⟨p.1, p.2, rfl, fun w' x => LiftS.from x h⟩
theorem LiftS.nx {w : Wd} {ς : Env'} {G : Hs} {D : Ends} (h : LiftS K T w (some (.nx ς G)) D) {w' : Wd} {σ' : L2.St} (x : Ex2 K w w') (R : Rel K T w' G) (S : RS K w' ς σ') : D.nx σ' w'.H := by
  obtain ⟨o, e, q⟩ := h
  cases e
  exact q w' σ' x R S

/-! blocks -/
def skipS : FS := fun ς G => some (.nx ς G)
def seqS (f g : FS) : FS := fun ς G => (f ς G).bind fun o => match o with
  | .nx ς1 G1 => g ς1 G1
  | o => some o
section
variable {X : Cx} {st : Stmt} {rest body : List Stmt} {f g : FS} {e h1 h2 : Fn} {c : FB} {x e' : Expr} {pos p : Pos}
theorem ls_nil : PSs X [] (LS X.K T skipS) := pss_nil.imp fun D σ H ⟨ι, F, ς, G, R, S, h⟩ => h.nx Ex2.refl R S
theorem seq_in {w : Wd} {ς : Env'} {G : Hs} {D : Ends} {f : FS} (h : LiftS K T w (seqS f g ς G) D) : LiftS K T w (f ς G) { D with nx := LS K T g D } := by
  unfold seqS at h
  cases e : f ς G with
  | none => rw [e] at h; exact h.no
  | some o =>
    rw [e] at h
    refine ⟨o, rfl, ?_⟩
    cases o with
    | nx ς1 G1 => exact fun w' σ' x R S => ⟨w'.ι, w'.F, ς1, G1, R, S, LiftS.from x h⟩
    | rt d G1 => obtain ⟨_, e, q⟩ := h; cases e; exact q
    | bk d G1 => obtain ⟨_, e, q⟩ := h; cases e; exact q
    | ct d G1 => obtain ⟨_, e, q⟩ := h; cases e; exact q
theorem ls_cons (h1 : PS X st (LS X.K T f)) (h2 : PSs X rest (LS X.K T g)) : PSs X (st :: rest) (LS X.K T (seqS f g)) :=
  (pss_cons h1 h2).imp fun D σ H ⟨ι, F, ς, G, R, S, h⟩ => ⟨ι, F, ς, G, R, S, seq_in h⟩
theorem ls_pass : PS X (.Pass pos) (LS X.K T skipS) := ps_pass.imp fun D σ H ⟨ι, F, ς, G, R, S, h⟩ => h.nx Ex2.refl R S
theorem ls_break : PS X (.Break pos) (LS X.K T fun ς G => some (.bk ς G)) := ps_break.imp fun D σ H ⟨ι, F, ς, G, R, S, h⟩ => by
  obtain ⟨_, e, q⟩ := h; cases e; exact q _ _ Ex2.refl R S
theorem ls_cont : PS X (.Continue pos) (LS X.K T fun ς G => some (.ct ς G)) := ps_continue.imp fun D σ H ⟨ι, F, ς, G, R, S, h⟩ => by
  obtain ⟨_, e, q⟩ := h; cases e; exact q _ _ Ex2.refl R S
theorem ls_bad : PS X st (LS X.K T fun _ _ => none) := ps_never.imp fun D σ H ⟨ι, F, ς, G, R, S, h⟩ => h.no
/-! returns, values that are dropped -/
def retS (e : Fn) : FS := fun ς G => bnd (e ς G) fun d G1 => some (.rt d G1)
theorem ls_ret (he : PE X x (LE X.K T e)) : PS X (.Return (some x) pos) (LS X.K T (retS e)) := (ps_ret he).imp fun D σ H ⟨ι, F, ς, G, R, S, h⟩ => by
  obtain ⟨d, G1, e1, h⟩ := h.bnd
  refine ⟨ι, F, ς, G, R, S, d, G1, e1, fun w' v x' R' r => ?_⟩
  obtain ⟨_, e, q⟩ := h w' x'
  cases e
  exact q w' v Ex2.refl R' r
theorem ls_retN : PS X (.Return none pos) (LS X.K T fun _ G => some (.rt .non G)) := ps_retN.imp fun D σ H ⟨ι, F, ς, G, R, S, h⟩ => by
  obtain ⟨_, e, q⟩ := h; cases e; exact q _ _ Ex2.refl R rfl
def dropS (e : Fn) : FS := fun ς G => bnd (e ς G) fun _ G1 => some (.nx ς G1)
theorem ls_expr (he : PE X x (LE X.K T e)) (hs : swapsWith x none pos.line X.env = pure false) : PS X (.Expr x pos) (LS X.K T (dropS e)) := (ps_expr he hs).imp fun D σ H ⟨ι, F, ς, G, R, S, h⟩ => by
  obtain ⟨d, G1, e1, h⟩ := h.bnd
  exact ⟨ι, F, ς, G, R, S, d, G1, e1, fun w' v x' R' r => (h w' x').nx Ex2.refl R' (S.ext x'.toExt)⟩
theorem ls_doc {y : Str} {j : Nat} {p' : Pos} : PS X (.Expr (.Constant (.str y) j pos) p') (LS X.K T skipS) := ps_doc.imp fun D σ H ⟨ι, F, ς, G, R, S, h⟩ => h.nx Ex2.refl R S
/-! stores -/
def setS (i : Nat) (e : Fn) : FS := fun ς G => bnd (e ς G) fun d G1 => some (.nx (ς.set i (some d)) G1)
theorem set_in {σ : L2.St} {H : Hp} {D : Ends} {i : Nat} (h : LS K T (setS i e) D σ H) : LE K T e σ H fun v H1 => D.nx (σ.set i (some v)) H1 := by
  obtain ⟨ι, F, ς, G, R, S, h⟩ := h
  obtain ⟨d, G1, e1, h⟩ := h.bnd
  exact ⟨ι, F, ς, G, R, S, d, G1, e1, fun w' v x' R' r => (h w' x').nx Ex2.refl R' ((S.ext x'.toExt).set r i)⟩
theorem ls_set {i : Nat} {y : Str} {p' : Pos} (hN : X.N.Nodup) (hi : X.N[i]? = some y) (hx : Loc X.env.scope y) (he : PE X x (LE X.K T e)) (hs : swapsWith x (some (.Name y p')) pos.line X.env = pure false) (hf : X.fn y = true ∨ X.env.scope.names.lookup y = some .local) :
    PS X (.Assign [.Name y p'] x pos) (LS X.K T (setS i e)) := (ps_set hN hi hx he hs hf).imp fun D σ H h => set_in h
theorem ls_setLc {elt tg iter : Expr} {ifs : List Expr} {scope : Scope} {own : List (Str × Nat)} {fi : Fn} {t : Tg} {i : Nat} {y : Str} {py : Pos} (m : Bool) (hc : X.calm = true) (hN : X.N.Nodup) (hy : X.N[i]? = some y) (hyl : X.env.scope.names.lookup y = some .local)
    (hsw : swapsWith (.ListComp elt [⟨tg, iter, ifs, 0⟩] scope pos) (some (.Name y py)) p.line X.env = pure true) (hi : PI X tg iter (LI X.K T fi)) (ok : BlkOk X.N X.env.scope scope own)
    (hg : ∀ (s : Shared) (H : Hp) (C : Addr) (cl : List (Str × Addr)) (fp : List Addr), PG (X.blk s H scope (compEnvC scope cl C X.env) fp) tg (GT X.K T t)) (ht : ∀ (s : Shared) (H : Hp) (C : Addr) (cl : List (Str × Addr)) (fp : List Addr), PTs (X.blk s H scope (compEnvC scope cl C X.env) fp) ifs (LT X.K T c))
    (he : ∀ (s : Shared) (H : Hp) (C : Addr) (cl : List (Str × Addr)) (fp : List Addr), PE (X.blk s H scope (compEnvC scope cl C X.env) fp) elt (LE X.K T e)) (hs : ∀ x, foldedSetIterable iter X.env x = pure x) (hix : ∀ i ∈ t.ix, i ∈ own.map (·.2)) :
    PS X (.Assign [.Name y py] (.ListComp elt [⟨tg, iter, ifs, 0⟩] scope pos) p) (LS X.K T (setS i (compD m t (own.map (·.2)) fi c e))) :=
  (ps_setLc hc hN hy hyl hsw hi ok hg ht he hs).imp fun D σ H h => comp_in m hix (set_in h)
/-- a tuple of targets, the stores from the left -/
def tgtS (t : Tg) (e : Fn) : FS := fun ς G => bnd (e ς G) fun d G1 => (bindL t [d] ς).bind fun ς1 => some (.nx ς1 G1)
theorem ls_tgt {tg : Expr} {t : Tg} (he : PE X x (LE X.K T e)) (hg : PG X tg (GT X.K T t)) (hs : swapsWithSole [tg] x pos.line X.env = pure false) (hw : swappedStores [tg] x X.env = pure none) (hst : isStar tg = false) :
    PS X (.Assign [tg] x pos) (LS X.K T (tgtS t e)) := (ps_asg he hg hs hw (assign_1 hst)).imp fun D σ H ⟨ι, F, ς, G, R, S, h⟩ => by
  obtain ⟨d, G1, e1, h⟩ := h.bnd
  refine ⟨ι, F, ς, G, R, S, d, G1, e1, fun w' v x' R' r => ?_⟩
  have h' := h w' x'
  cases eb : bindL t [d] ς with
  | none => rw [eb] at h'; exact h'.no
  | some ς1 =>
    rw [eb] at h'
    exact ⟨w'.ι, w'.F, ς, G1, d, ς1, R', S.ext x'.toExt, r, eb, fun σ' S' _ => h'.nx Ex2.refl R' S'⟩
def par2S (i j : Nat) (f : Fn) : FS := fun ς G => bnd (f ς G) fun d G1 => match d with | .tup [a, b] => some (.nx ((ς.set i (some a)).set j (some b)) G1) | _ => none
theorem ls_par2 {i j : Nat} {y z : Str} {a b : Expr} {py pz pt : Pos} {kt k2 : Nat} {pt2 : Pos} (hc : X.calm = true) (hN : X.N.Nodup) (hi : X.N[i]? = some y) (hj : X.N[j]? = some z) (hij : i ≠ j)
    (hy : X.env.scope.names.lookup y = some .local) (hz : X.env.scope.names.lookup z = some .local) (ha : PA X [a, b] (LA X.K T e))
    (hw : swappedStores [.Tuple [.Name y py, .Name z pz] kt pt] (.Tuple [a, b] k2 pt2) X.env = pure (some [y, z])) :
    PS X (.Assign [.Tuple [.Name y py, .Name z pz] kt pt] (.Tuple [a, b] k2 pt2) pos) (LS X.K T (par2S i j e)) := (ps_par hc hN hi hj hij hy hz ha hw).imp fun D σ H ⟨ι, F, ς, G, R, S, h⟩ => by
  obtain ⟨d, G1, e1, h⟩ := h.bnd
  have h0 := h ⟨ι, F, H⟩ Ex2.refl
  split at h0
  · rename_i d1 d2
    refine ⟨ι, F, ς, G, R, S, [d1, d2], G1, e1, fun w' vs x' R' r => ?_⟩
    obtain ⟨v, u, rfl, r1, r2⟩ := r.two
    exact ⟨v, u, rfl, h0.nx x' R' (((S.ext x'.toExt).set r1 i).set r2 j)⟩
  · exact h0.no
def par3S (i j l : Nat) (f : Fn) : FS := fun ς G => bnd (f ς G) fun d G1 => match d with | .tup [a, b, c] => some (.nx (((ς.set i (some a)).set j (some b)).set l (some c)) G1) | _ => none
theorem ls_par3 {i j l : Nat} {y z u : Str} {a b b3 : Expr} {py pz pu pt : Pos} {kt k2 : Nat} {pt2 : Pos} (hc : X.calm = true) (hN : X.N.Nodup) (hi : X.N[i]? = some y) (hj : X.N[j]? = some z) (hl : X.N[l]? = some u) (hij : i ≠ j) (hil : i ≠ l) (hjl : j ≠ l)
    (hy : X.env.scope.names.lookup y = some .local) (hz : X.env.scope.names.lookup z = some .local) (hu : X.env.scope.names.lookup u = some .local) (ha : PA X [a, b, b3] (LA X.K T e))
    (hw : swappedStores [.Tuple [.Name y py, .Name z pz, .Name u pu] kt pt] (.Tuple [a, b, b3] k2 pt2) X.env = pure (some [y, z, u])) :
    PS X (.Assign [.Tuple [.Name y py, .Name z pz, .Name u pu] kt pt] (.Tuple [a, b, b3] k2 pt2) pos) (LS X.K T (par3S i j l e)) := (ps_par3 hc hN hi hj hl hij hil hjl hy hz hu ha hw).imp fun D σ H ⟨ι, F, ς, G, R, S, h⟩ => by
  obtain ⟨d, G1, e1, h⟩ := h.bnd
  have h0 := h ⟨ι, F, H⟩ Ex2.refl
  split at h0
  · rename_i d1 d2 d3
    refine ⟨ι, F, ς, G, R, S, [d1, d2, d3], G1, e1, fun w' vs x' R' r => ?_⟩
    obtain ⟨v, t1, rfl, r1, r⟩ := r
    obtain ⟨v2, v3, rfl, r2, r3⟩ := r.two
    exact ⟨v, v2, v3, rfl, h0.nx x' R' ((((S.ext x'.toExt).set r1 i).set r2 j).set r3 l)⟩
  · exact h0.no
/-! o[i] = e -/
def setK (o i d : D) (G : Hs) : Option Hs := match o with
  | .ref n => match G[n]?, i with
    | some (.lst ds), .int k => (ixN ds.length k).bind fun j => some (G.set n (.lst (ds.set j d)))
    | some (.dct kvs), i => (keyD i).bind fun k => if kvs.length < sizeLine then some (G.set n (.dct (dput kvs k d))) else none
    | _, _ => none
  | _ => none
def rSt (K : PySem.W.Frag) (T : List Addr) : V → V → V → Hp → (Hp → Prop) → Prop := fun o i v H Q =>
  ∃ ι F G d1 d2 d3 G', Rel K T ⟨ι, F, H⟩ G ∧ RV K ⟨ι, F, H⟩ d1 o ∧ RV K ⟨ι, F, H⟩ d2 i ∧ RV K ⟨ι, F, H⟩ d3 v ∧ setK d1 d2 d3 G = some G' ∧ ∀ w', Ex2 K ⟨ι, F, H⟩ w' → Rel K T w' G' → Q w'.H
theorem set_D (hu : X.A.units + 65 < cLine) : PSet X (rSt X.K T) := by
  intro pins s σ H o i v ov iv u Q I ro ri rv h
  obtain ⟨ι, F, G, d1, d2, d3, G', R, r1, r2, r3, es, h⟩ := h
  unfold setK at es
  split at es
  · rename_i n
    split at es
    · rename_i ds k eg
      cases ej : ixN ds.length k with
      | none => rw [ej] at es; cases es
      | some j =>
        rw [ej] at es
        cases es
        obtain ⟨a, vs, rfl, ea, nf, ha, q⟩ := cell_at R r1 eg
        refine set_list pins s σ H _ i v ov iv u Q I ro ri rv ⟨a, vs, k, j, rfl, rv_int r2, ha, by rw [← q.len]; exact ej, ?_⟩
        exact h ⟨ι, F, upd H a (.lst (vs.set j v))⟩ (Ex2.write (List.mem_of_getElem? ea) nf ha trivial) (R.write ea nf ha trivial (CellOk.lst' nf ha trivial (q.set r3 j)))
    · rename_i d2 _ _ kvs eg
      cases ek : keyD d2 with
      | none => rw [ek] at es; cases es
      | some k =>
        rw [ek] at es
        have es : (if kvs.length < sizeLine then some (G.set n (.dct (dput kvs k d3))) else none) = some G' := es
        split at es
        · rename_i hl
          cases es
          obtain ⟨a, us, rfl, ea, nf, ha, q⟩ := dct_at R r1 eg
          cases (show ov = Value.ref a from ro)
          have hlen : kvs.length = us.length := by unfold RKs at q; exact Paired.length q
          have ek' := keyD_kV ek r2
          subst ek'
          have hput := DPut.k (k := k) (v := v) ha (by rw [← hlen]; exact hl)
          refine d_setItem (Nat.lt_of_le_of_lt (by omega) hu) I hput ri rv fun s' I' => ⟨_, I', ?_⟩
          have x : Ext X.K ⟨ι, F, H⟩ ⟨ι, F, upd H a (.dK (putK us k v))⟩ := Ext.write (w := ⟨ι, F, H⟩) nf ha trivial
          exact h ⟨ι, F, upd H a (.dK (putK us k v))⟩ (Ex2.write (List.mem_of_getElem? ea) nf ha trivial) (R.write ea nf ha trivial ⟨nf, _, upd_same, (q.put k r3).ext x⟩)
        · cases es
    · cases es
  · cases es
def setIxS (o i e : Fn) : FS := fun ς G => bnd (e ς G) fun d G1 => bnd (o ς G1) fun x G2 => bnd (i ς G2) fun y G3 => (setK x y d G3).bind fun G4 => some (.nx ς G4)
theorem ls_setIx {o i : Expr} {p' : Pos} (hu : X.A.units + 65 < cLine) (ho : PE X o (LE X.K T h1)) (hi : PE X i (LE X.K T h2)) (he : PE X x (LE X.K T e)) (hsl : ∀ v, assign (.Subscript o i p') X.env v = (do
      let ov ← holding [v] (eval o X.env)
      let iv ← holding [v, ov] (eval i X.env)
      standAt p'
      holding [v, ov, iv] (setItem ov iv v)
      release [v, ov, iv] [])) (hs : swapsWithSole [.Subscript o i p'] x pos.line X.env = pure false) : PS X (.Assign [.Subscript o i p'] x pos) (LS X.K T (setIxS h1 h2 e)) :=
  (ps_asg he (pg_sub ho hi (set_D (T := T) hu) hsl) hs (by rfl) (by rfl)).imp fun D σ H ⟨ι, F, ς, G, R, S, h⟩ => by
  obtain ⟨d, G1, e1, h⟩ := h.bnd
  refine ⟨ι, F, ς, G, R, S, d, G1, e1, fun w1 v x1 R1 r1 => ?_⟩
  obtain ⟨dx, G2, e2, h⟩ := (h w1 x1).bnd
  refine ⟨w1.ι, w1.F, ς, G1, R1, S.ext x1.toExt, dx, G2, e2, fun w2 xv x2 R2 r2 => ?_⟩
  obtain ⟨dy, G3, e3, h⟩ := (h w2 x2).bnd
  refine ⟨w2.ι, w2.F, ς, G2, R2, (S.ext x1.toExt).ext x2.toExt, dy, G3, e3, fun w3 yv x3 R3 r3 => ?_⟩
  have h' := h w3 x3
  cases es : setK dx dy d G3 with
  | none => rw [es] at h'; exact h'.no
  | some G4 =>
    rw [es] at h'
    exact ⟨w3.ι, w3.F, G3, dx, dy, d, G4, R3, RV.ext x3.toExt _ _ r2, r3, RV.ext (x2.toExt.trans x3.toExt) _ _ r1, es, fun w4 x4 R4 => h'.nx x4 R4 ((((S.ext x1.toExt).ext x2.toExt).ext x3.toExt).ext x4.toExt)⟩
/-! augmented stores of ints and texts -/
inductive Aop where
  | add | sub | mul
def Aop.py : Aop → Operator
  | .add => .Add | .sub => .Sub | .mul => .Mult
def augK : Aop → D → D → Hs → Rs
  | .add, .int i, .int j, G => some (.int (i + j), G)
  | .add, .str a, .str b, G => if a.length + b.length ≤ sizeLine then some (.str (a ++ b), G) else none
  | .sub, .int i, .int j, G => some (.int (i - j), G)
  | .mul, .int i, .int j, G => if (-(2 ^ 64) < i ∧ i < 2 ^ 64) ∨ (-(2 ^ 64) < j ∧ j < 2 ^ 64) then some (.int (i * j), G) else none
  | _, _, _, _ => none
theorem ip_D (o : Aop) : PIp X o.py (r2 X.K T (augK o)) := by
  intro pins s σ H x y v u Q I rv ru h
  obtain ⟨ι, F, G, dx, dy, R, rx, ry, h⟩ := h
  cases o with
  | add =>
    cases dx <;> first | exact h.no | skip
    · cases dy <;> first | exact h.no | skip
      exact iop_add pins s σ H x y v u Q I rv ru ⟨_, _, rx, ry, h.now R rfl⟩
    · cases dy <;> first | exact h.no | skip
      obtain ⟨hl, h⟩ := h.ite
      refine iop_add_str pins s σ H x y v u Q I rv ru ⟨_, _, rx, ry, by rw [strLen, strLen]; exact hl, ?_⟩
      rw [toArr]
      exact h.now R rfl
  | sub =>
    cases dx <;> first | exact h.no | skip
    cases dy <;> first | exact h.no | skip
    exact iop_sub pins s σ H x y v u Q I rv ru ⟨_, _, rx, ry, h.now R rfl⟩
  | mul =>
    cases dx <;> first | exact h.no | skip
    cases dy <;> first | exact h.no | skip
    obtain ⟨hc, h⟩ := h.ite
    exact iop_mul pins s σ H x y v u Q I rv ru ⟨_, _, rx, ry, hc, h.now R rfl⟩
def augS (i : Nat) (o : Aop) (e : Fn) : FS := fun ς G => (ς[i]?).bind fun q => q.bind fun d0 => bnd (e ς G) fun d G1 => bnd (augK o d0 d G1) fun z G2 => some (.nx (ς.set i (some z)) G2)
theorem ls_aug {i : Nat} {y : Str} (o : Aop) {p' : Pos} (hN : X.N.Nodup) (hi : X.N[i]? = some y) (hx : Loc X.env.scope y) (he : PE X x (LE X.K T e)) (hf : X.fn y = true ∨ X.env.scope.names.lookup y = some .local) :
    PS X (.AugAssign (.Name y p') o.py x pos) (LS X.K T (augS i o e)) := (ps_aug hN hi hx he (ip_D (T := T) o) hf).imp fun D σ H ⟨ι, F, ς, G, R, S, h⟩ => by
  unfold augS at h
  cases e1 : ς[i]? with
  | none => rw [e1] at h; exact h.no
  | some q =>
  cases q with
  | none => rw [e1] at h; exact h.no
  | some d0 =>
  rw [e1] at h
  have h : LiftS X.K T ⟨ι, F, H⟩ (bnd (e ς G) fun d G1 => bnd (augK o d0 d G1) fun z G2 => some (.nx (ς.set i (some z)) G2)) D := h
  obtain ⟨v0, e2, r0⟩ := S.at_ i d0 e1
  obtain ⟨d, G1, e3, h⟩ := h.bnd
  refine ⟨v0, e2, ι, F, ς, G, R, S, d, G1, e3, fun w1 v x1 R1 r1 => ?_⟩
  obtain ⟨z, G2, e4, h⟩ := (h w1 x1).bnd
  exact ⟨w1.ι, w1.F, G1, d0, d, R1, RV.ext x1.toExt _ _ r0, r1, z, G2, e4, fun w2 zv x2 R2 r2 => (h w2 x2).nx Ex2.refl R2 ((S.ext (x1.toExt.trans x2.toExt)).set r2 i)⟩

/-! if, while, for -/
def ifS (c : FB) (f g : FS) : FS := fun ς G => bnd (c ς G) fun b G1 => if b = true then f ς G1 else g ς G1
theorem ls_if {ce : Expr} {a b : List Stmt} (hc : PT X ce (LT X.K T c)) (ha : PSs X a (LS X.K T f)) (hb : PSs X b (LS X.K T g)) : PS X (.If ce a b pos) (LS X.K T (ifS c f g)) := (ps_if hc ha hb).imp fun D σ H ⟨ι, F, ς, G, R, S, h⟩ => by
  obtain ⟨t, G1, e1, h⟩ := h.bnd
  refine ⟨ι, F, ς, G, R, S, t, G1, e1, fun w' x' R' => ?_⟩
  have h' := h w' x'
  cases t with
  | true => exact ⟨w'.ι, w'.F, ς, G1, R', S.ext x'.toExt, h'⟩
  | false => exact ⟨w'.ι, w'.F, ς, G1, R', S.ext x'.toExt, h'⟩
def loopW (c : FB) (f : FS) : Nat → FS
  | 0 => fun _ _ => none
  | n + 1 => fun ς G => bnd (c ς G) fun b G1 => if b = true then (f ς G1).bind fun o => match o with
      | .nx ς' G' => loopW c f n ς' G'
      | .ct ς' G' => loopW c f n ς' G'
      | .bk ς' G' => some (.nx ς' G')
      | .rt d G' => some (.rt d G')
    else some (.nx ς G1)
theorem ls_while {ce : Expr} (n : Nat) (hp : PassesOwn (model X.prog X.w) X.A X.env X.xe) (hc : PT X ce (LT X.K T c)) (hb : PSs X body (LS X.K T f)) : PS X (.While ce body [] pos) (LS X.K T (loopW c f n)) := by
  refine (ps_while hp hc hb).imp fun D σ H ⟨ι, F, ς, G, R, S, h⟩ => ?_
  refine ⟨fun m σ H => ∃ ι F ς G, Rel X.K T ⟨ι, F, H⟩ G ∧ RS X.K ⟨ι, F, H⟩ ς σ ∧ LiftS X.K T ⟨ι, F, H⟩ (loopW c f m ς G) D, ⟨n, ι, F, ς, G, R, S, h⟩, ?_⟩
  rintro m σ H ⟨ι, F, ς, G, R, S, h⟩
  cases m with
  | zero => exact h.no
  | succ m =>
    simp only [loopW] at h
    obtain ⟨t, G1, e1, h⟩ := h.bnd
    refine ⟨ι, F, ς, G, R, S, t, G1, e1, fun w' x' R' => ?_⟩
    have h' := h w' x'
    cases t with
    | false => exact h'.nx Ex2.refl R' (S.ext x'.toExt)
    | true =>
      simp only [if_true] at h' ⊢
      refine ⟨fun σ' H' => ∃ ι F ς G, Rel X.K T ⟨ι, F, H'⟩ G ∧ RS X.K ⟨ι, F, H'⟩ ς σ' ∧ LiftS X.K T ⟨ι, F, H'⟩ (loopW c f m ς G) D, fun σ' H' q => ⟨m, Nat.lt_succ_self _, q⟩, w'.ι, w'.F, ς, G1, R', S.ext x'.toExt, ?_⟩
      cases eo : f ς G1 with
      | none => rw [eo] at h'; exact h'.no
      | some o =>
        rw [eo] at h'
        refine ⟨o, rfl, ?_⟩
        cases o with
        | nx ς2 G2 => exact fun w2 σ2 x2 R2 S2 => ⟨w2.ι, w2.F, ς2, G2, R2, S2, LiftS.from x2 h'⟩
        | ct ς2 G2 => exact fun w2 σ2 x2 R2 S2 => ⟨w2.ι, w2.F, ς2, G2, R2, S2, LiftS.from x2 h'⟩
        | bk ς2 G2 => exact fun w2 σ2 x2 R2 S2 => h'.nx x2 R2 S2
        | rt d G2 => obtain ⟨_, e, q⟩ := h'; cases e; exact q
def loopF (t : Tg) (f : FS) : List D → FS
  | [] => fun ς G => some (.nx ς G)
  | d :: ds => fun ς G => (bindL t [d] ς).bind fun ς1 => (f ς1 G).bind fun o => match o with
      | .nx ς' G' => loopF t f ds ς' G'
      | .ct ς' G' => loopF t f ds ς' G'
      | .bk ς' G' => some (.nx ς' G')
      | .rt d G' => some (.rt d G')
def forS (t : Tg) (fi : Fn) (f : FS) : FS := fun ς G => bnd (fi ς G) fun xs G1 => match xs with | .tup ds => loopF t f ds ς G1 | _ => none
theorem ls_for {tg iter : Expr} {t : Tg} {fi : Fn} (hp : PassesOwn (model X.prog X.w) X.A X.env X.xe) (hc : X.calm = true) (hi : PI X tg iter (LI X.K T fi)) (hg : PG X tg (GT X.K T t)) (hb : PSs X body (LS X.K T f))
    (hs : ∀ x, foldedSetIterable iter X.env x = pure x) : PS X (.For tg iter body [] pos) (LS X.K T (forS t fi f)) := by
  refine (ps_for hp hc hi hg hb hs).imp fun D σ H ⟨ι, F, ς, G, R, S, h⟩ => ?_
  obtain ⟨xs, G1, e1, h⟩ := h.bnd
  have h0 := h ⟨ι, F, H⟩ Ex2.refl
  cases xs <;> first | exact h0.no | skip
  rename_i ds
  refine ⟨ι, F, ς, G, R, S, ds, G1, e1, fun w1 J x1 R1 jok => ?_⟩
  have hL : LiftS X.K T w1 (loopF t f ds ς G1) D := h w1 x1
  refine ⟨fun i m σ H' => ∃ (w' : Wd) (ς' : Env') (G' : Hs), w'.H = H' ∧ Ex2 X.K w1 w' ∧ Rel X.K T w' G' ∧ RS X.K w' ς' σ ∧ i ≤ ds.length ∧ m = ds.length - i ∧ LiftS X.K T w' (loopF t f (ds.drop i) ς' G') D,
    ⟨ds.length, w1, ς, G1, rfl, Ex2.refl, R1, S.ext x1.toExt, Nat.zero_le _, rfl, hL⟩, ?_⟩
  rintro i m σ' H' ⟨w', ς', G', rfl, x', R', S', hi', rfl, el⟩
  obtain ⟨jgo, jstop⟩ := jok w' G' x' R'
  by_cases hlt : i < ds.length
  · refine .inr ?_
    have ed : ds[i]? = some ds[i] := List.getElem?_eq_getElem hlt
    rw [List.drop_eq_getElem_cons hlt] at el
    simp only [loopF] at el
    cases eb : bindL t [ds[i]] ς' with
    | none => rw [eb] at el; exact el.no
    | some ς1 =>
    rw [eb] at el
    simp only [Option.bind_some] at el
    obtain ⟨go, yld⟩ := jgo i _ ed
    refine ⟨go, fun σ2 H' => ∃ (w' : Wd) (ς' : Env') (G' : Hs), w'.H = H' ∧ Ex2 X.K w1 w' ∧ Rel X.K T w' G' ∧ RS X.K w' ς' σ2 ∧ LiftS X.K T w' (loopF t f (ds.drop (i + 1)) ς' G') D,
      fun σ2 H' ⟨w5, ς5, G5, q1, q2, q3, q4, q5⟩ => ⟨ds.length - (i + 1), by omega, w5, ς5, G5, q1, q2, q3, q4, hlt, rfl, q5⟩, fun v H' hy => ?_⟩
    obtain ⟨w2, rfl, x2, R2, rd⟩ := yld v H' hy
    refine ⟨w2.ι, w2.F, ς', G', ds[i], ς1, R2, S'.ext x2.toExt, rd, eb, fun σ2 S3 _ => ?_⟩
    refine ⟨w2.ι, w2.F, ς1, G', R2, S3, ?_⟩
    cases eo : f ς1 G' with
    | none => rw [eo] at el; exact el.no
    | some o =>
      rw [eo] at el
      refine ⟨o, rfl, ?_⟩
      cases o with
      | nx ς3 G3 => exact fun w3 σ3 x3 R3 S4 => ⟨w3, ς3, G3, rfl, (x'.trans x2).trans x3, R3, S4, LiftS.from (x2.trans x3) el⟩
      | ct ς3 G3 => exact fun w3 σ3 x3 R3 S4 => ⟨w3, ς3, G3, rfl, (x'.trans x2).trans x3, R3, S4, LiftS.from (x2.trans x3) el⟩
      | bk ς3 G3 => exact fun w3 σ3 x3 R3 S4 => LiftS.nx el (x2.trans x3) R3 S4
      | rt d G3 => obtain ⟨_, e, q⟩ := el; cases e; exact fun w3 v x3 R3 r => q w3 v (x2.trans x3) R3 r
  · have hi2 : i = ds.length := by omega
    subst hi2
    refine .inl ⟨jstop, ?_⟩
    rw [List.drop_length] at el
    exact LiftS.nx el Ex2.refl R' S'
end
end Mp
set_option Elab.async false
set_option linter.all false
set_option autoImplicit false
set_option maxRecDepth 100000
set_option maxHeartbeats 1000000
/-! Mp, part 11: what a statement asks of its shape -/
namespace Mp
open PySem PySem.Spec L2
open PyProof.Rows hiding St

def isComp : Expr → Bool
  | .ListComp .. => true
  | .SetComp .. => true
  | .DictComp .. => true
  | _ => false
theorem swaps_no {x : Expr} {t : Option Expr} {line : Nat} {env : Env} (h : isComp x = false) : swapsWith x t line env = pure false := by
  cases x <;> first | rfl | (cases h)
def swapC (names : List (Str × NameKind)) (scope : Scope) (y : Str) (line vline : Nat) : Bool := names.lookup y == some .local && line == vline && !(scope.names.any fun (n, k) => n == y && (k == .local || k == .cell))
theorem swaps_lc {elt : Expr} {gs : List Comprehension} {scope : Scope} {pos py : Pos} {y : Str} {line : Nat} {env : Env} {names : List (Str × NameKind)} (hk : env.scope.kind = .function) (hn : env.scope.names = names) :
    swapsWith (.ListComp elt gs scope pos) (some (.Name y py)) line env = pure (swapC names scope y py.line pos.line) := by
  have hb : env.blockKind = .function := by unfold Env.blockKind; rw [hk]; rfl
  unfold swapsWith
  simp only [hb, Env.kindOf, hn, swapC]
  rfl
theorem folded_no {it : Expr} {env : Env} (h : (match it with | .Set .. => true | _ => false) = false) (x : Value) : foldedSetIterable it env x = pure x := by
  cases it <;> first | rfl | (cases h)
theorem genf_no {it : Expr} {env : Env} (h : (match it with | .Set .. => true | .List .. => true | _ => false) = false) (x : Value) : genFold it env x = pure x := by
  cases it <;> first | rfl | (cases h)
theorem swapped_no {tg x : Expr} {env : Env} (h : (match x with | .Tuple .. => true | _ => false) = false) : swappedStores [tg] x env = pure none := by
  cases tg <;> cases x <;> first | rfl | (cases h)
theorem nodup2 {y z : Str} (h : y ≠ z) : [y, z].eraseDups = [y, z] := by simp [List.eraseDups_cons, h, Ne.symm h]
theorem nodup3 {y z u : Str} (h : y ≠ z) (h2 : y ≠ u) (h3 : z ≠ u) : [y, z, u].eraseDups = [y, z, u] := by simp [List.eraseDups_cons, h, Ne.symm h, h2, Ne.symm h2, h3, Ne.symm h3]
theorem swapped_2 {y z : Str} {py pz pt pt2 : Pos} {kt k2 : Nat} {a b : Expr} {env : Env} (hk : env.scope.kind = .function) (hy : env.scope.names.lookup y = some .local) (hz : env.scope.names.lookup z = some .local)
    (hl : py.line = pz.line) (hyz : y ≠ z) (ha : isStar a = false) (hb : isStar b = false) (h1 : [a, b].all (foldedForSure 8) = false) (h2 : [a, b].all (constantsAlone 8) = false) :
    swappedStores [.Tuple [.Name y py, .Name z pz] kt pt] (.Tuple [a, b] k2 pt2) env = pure (some [y, z]) := by
  have hbk : env.blockKind = .function := by unfold Env.blockKind; rw [hk]; rfl
  have e1 : (env.kindOf y == some NameKind.local) = true := by unfold Env.kindOf; rw [hy]; rfl
  have e2 : (env.kindOf z == some NameKind.local) = true := by unfold Env.kindOf; rw [hz]; rfl
  have l1 : (py.line == py.line) = true := by simp
  have l2 : (pz.line == py.line) = true := by simp [hl]
  unfold swappedStores
  simp only [hbk, h1, h2]
  rw [if_neg (by simp), if_neg (fun h => by
    simp only [List.any_cons, List.any_nil, Bool.or_false, Bool.or_eq_true] at h
    rcases h with h | h
    · cases a <;> first | (cases ha; done) | (cases h)
    · cases b <;> first | (cases hb; done) | (cases h))]
  simp only [List.head?_cons, Option.map_some, Option.getD_some, List.filterMap_cons, List.filterMap_nil, Expr.pos, e1, e2, l1, l2, Bool.and_self, if_true, nodup2 hyz]
  rfl
theorem swapped_3 {y z u : Str} {py pz pu pt pt2 : Pos} {kt k2 : Nat} {a b c : Expr} {env : Env} (hk : env.scope.kind = .function) (hy : env.scope.names.lookup y = some .local) (hz : env.scope.names.lookup z = some .local) (hu : env.scope.names.lookup u = some .local)
    (hl : py.line = pz.line) (hl2 : py.line = pu.line) (hyz : y ≠ z) (hyu : y ≠ u) (hzu : z ≠ u) (ha : isStar a = false) (hb : isStar b = false) (hc : isStar c = false) (h1 : [a, b, c].all (foldedForSure 8) = false) (h2 : [a, b, c].all (constantsAlone 8) = false) :
    swappedStores [.Tuple [.Name y py, .Name z pz, .Name u pu] kt pt] (.Tuple [a, b, c] k2 pt2) env = pure (some [y, z, u]) := by
  have hbk : env.blockKind = .function := by unfold Env.blockKind; rw [hk]; rfl
  have e1 : (env.kindOf y == some NameKind.local) = true := by unfold Env.kindOf; rw [hy]; rfl
  have e2 : (env.kindOf z == some NameKind.local) = true := by unfold Env.kindOf; rw [hz]; rfl
  have e3 : (env.kindOf u == some NameKind.local) = true := by unfold Env.kindOf; rw [hu]; rfl
  have l1 : (py.line == py.line) = true := by simp
  have l2 : (pz.line == py.line) = true := by simp [hl]
  have l3 : (pu.line == py.line) = true := by simp [hl2]
  unfold swappedStores
  simp only [hbk, h1, h2]
  rw [if_neg (by simp), if_neg (fun h => by
    simp only [List.any_cons, List.any_nil, Bool.or_false, Bool.or_eq_true] at h
    rcases h with h | h | h
    · cases a <;> first | (cases ha; done) | (cases h)
    · cases b <;> first | (cases hb; done) | (cases h)
    · cases c <;> first | (cases hc; done) | (cases h))]
  simp only [List.head?_cons, Option.map_some, Option.getD_some, List.filterMap_cons, List.filterMap_nil, Expr.pos, e1, e2, e3, l1, l2, l3, Bool.and_self, if_true, nodup3 hyz hyu hzu]
  rfl
/-- a tuple display, its stores from the left: constants all, or a target that is no plain local -/
def localT (names : List (Str × NameKind)) : Expr → Bool
  | .Name id _ => names.lookup id == some .local
  | _ => false
theorem swapped_left {ts vs : List Expr} {pt pt2 : Pos} {kt k2 : Nat} {env : Env} {names : List (Str × NameKind)} (hn : env.scope.names = names) (h : ts.any (fun t => !localT names t) = true) :
    swappedStores [.Tuple ts kt pt] (.Tuple vs k2 pt2) env = pure none := by
  unfold swappedStores
  have key : ∀ (F : Expr → Option Str) (hF : ∀ e, localT names e = false → F e = none) (l : List Expr), (l.filterMap F).length ≤ l.length ∧ (l.any (fun t => !localT names t) = true → (l.filterMap F).length < l.length) := by
    intro F hF l
    induction l with
    | nil => exact ⟨Nat.le_refl _, fun h => by simp at h⟩
    | cons e r ih =>
      rw [List.filterMap_cons]
      cases he : F e with
      | none => exact ⟨by simp only [List.length_cons]; omega, fun _ => by simp only [List.length_cons]; omega⟩
      | some s =>
        refine ⟨by simp only [List.length_cons]; omega, fun h => ?_⟩
        simp only [List.any_cons, Bool.or_eq_true] at h
        rcases h with h | h
        · rw [hF e (by simpa using h)] at he; cases he
        · have := ih.2 h
          simp only [List.length_cons]; omega
  simp only
  split
  · rfl
  split
  · rfl
  split
  · rfl
  · rename_i _ _ h3
    exfalso
    apply h3
    rw [Bool.or_eq_true]
    left
    rw [bne_iff_ne]
    refine Nat.ne_of_lt ((key _ (fun e he => ?_) ts).2 h)
    cases e <;> first | rfl | skip
    have he : ((names.lookup _ == some NameKind.local)) = false := he
    simp only [Env.kindOf, hn, he, Bool.false_and, Bool.false_eq_true, if_false]
theorem swapped_const {ts vs : List Expr} {pt pt2 : Pos} {kt k2 : Nat} {env : Env} (h : vs.all (foldedForSure 8) = true) : swappedStores [.Tuple ts kt pt] (.Tuple vs k2 pt2) env = pure none := by
  unfold swappedStores
  simp only [h, if_true]
  split
  · rfl
  split
  · rfl
  split
  · rfl
  · rfl
end Mp
set_option Elab.async false
set_option linter.all false
set_option autoImplicit false
set_option maxRecDepth 100000
set_option maxHeartbeats 1000000
/-! Mp, part 12: mini expressions and what they mean -/
namespace Mp
open PySem PySem.Spec L2 GxR
open PyProof.Rows hiding St

inductive Blt where
  | len | abs | min2 | max2 | minL | maxL | int | sum | list (m : Bool) | tuple | dict
  deriving DecidableEq
def Blt.k : Blt → List D → Hs → Rs
  | .len => one lenD | .abs => one absD | .min2 => two min2D | .max2 => two max2D | .minL => one Mp.minL | .maxL => one Mp.maxL | .int => one intD | .sum => one sumD
  | .list m => one (listD m) | .tuple => one tupD | .dict => one dictD
def Blt.nm : Blt → Str
  | .len => "len" | .abs => "abs" | .min2 => "min" | .max2 => "max" | .minL => "min" | .maxL => "max" | .int => "int" | .sum => "sum"
  | .list _ => "list" | .tuple => "tuple" | .dict => "dict"
inductive Mth where
  | append | extend | pop | index | join
  deriving DecidableEq
def Mth.ty : Mth → MTy
  | .join => .str
  | _ => .list
def Mth.nm : Mth → Str
  | .append => "append" | .extend => "extend" | .pop => "pop" | .index => "index" | .join => "join"
def Mth.k : Mth → D → List D → Hs → Rs
  | .append => appendM | .extend => extendM | .pop => popM | .index => indexM | .join => joinM

inductive E where
  | bad | k (d : D) | v (i : Nat) | frz (i : Nat)
  | bin (o : Bop) (a b : E) | catM (a b : E) | neg (a : E)
  | cmp (o : Cop) (a b : E) | chain (o o' : Cop) (a b c : E)
  | and (a b : E) | or (a b : E) | not (a : E) | ite (c a b : E)
  | nil | cons (a b : E) | tup (a : E) | lst (m : Bool) (a : E)
  | idx (a b : E) | sl (m : Bool) (a lo hi : E) | rev (m : Bool) (a : E)
  | isi (t : Ty) (a : E) | blt (f : Blt) (a : E)
  | mth (f : Mth) (o a : E) | mth0 (f : Mth) (o : E)
  | call (f n : Nat) (a : E) | call0 (f : Nat)
  | lrg (m : Bool) (n : Nat) (a : E) | lrev (m : Bool) (a : E)
  | comp (m : Bool) (t : Tg) (own : List Nat) (it c e : E)
  | gen (sb : Bool) (t : Tg) (own : List Nat) (it e : E)
  | iseq (a : E) | irng (n : Nat) (a : E) | izip (a : E) | ienum (a : E)
  | yes
def frzK (d : D) (G : Hs) : Rs := match d with
  | .ref n => match G[n]? with
    | some (.lst ds) => some (.lst ds, G.set n .gone)
    | _ => none
  | _ => none
def frzD (i : Nat) : Fn := fun ς G => (ς[i]?).bind fun o => o.bind fun d => frzK d G
def isNil : E → Bool
  | .nil => true
  | _ => false
def dfl (f : Fn) : FB := fun ς G => bnd (f ς G) truD
def wi (f : Fn) : Fn × FB := (f, dfl f)
section
variable (cl : Nat → List D → Hs → Rs)
/-- an expression's value, its test -/
def ev : E → Fn × FB
  | .bad => wi fun _ _ => none
  | .k d => wi fun _ G => some (d, G)
  | .v i => wi fun ς G => (ς[i]?).bind fun o => o.bind fun d => some (d, G)
  | .frz i => wi (frzD i)
  | .bin o a b => let f := (ev a).1; let g := (ev b).1; wi fun ς G => bnd (f ς G) fun x G1 => bnd (g ς G1) fun y G2 => binD o x y G2
  | .catM a b => let f := (ev a).1; let g := (ev b).1; wi fun ς G => bnd (f ς G) fun x G1 => bnd (g ς G1) fun y G2 => Mp.catM x y G2
  | .neg a => let f := (ev a).1; wi fun ς G => bnd (f ς G) negD
  | .cmp o a b => let f := (ev a).1; let g := (ev b).1; (fun ς G => bnd (f ς G) fun x G1 => bnd (g ς G1) fun y G2 => cmpD o x y G2, fun ς G => blB (bnd (f ς G) fun x G1 => bnd (g ς G1) fun y G2 => cmpD o x y G2))
  | .chain o o' a b c => let f := (ev a).1; let g := (ev b).1; let h := (ev c).1; (chainD f g h o o', fun ς G => blB (chainD f g h o o' ς G))
  | .and a b => let A := ev a; let B := ev b; (andD A.1 B.1, fun ς G => bnd (A.2 ς G) fun b G1 => if b then B.2 ς G1 else some (false, G1))
  | .or a b => let A := ev a; let B := ev b; (orD A.1 B.1, fun ς G => bnd (A.2 ς G) fun b G1 => if b then some (true, G1) else B.2 ς G1)
  | .not a => let A := ev a; (notD A.1, fun ς G => bnd (A.2 ς G) fun b G1 => some (!b, G1))
  | .ite c a b => let p := (ev c).2; let f := (ev a).1; let g := (ev b).1; (fun ς G => bnd (p ς G) fun t G1 => if t then f ς G1 else g ς G1, fun _ _ => none)
  | .nil => wi fun _ G => some (.tup [], G)
  | .cons a b => wi (consD (ev a).1 (ev b).1)
  | .tup a => wi (argD (ev a).1 tupK)
  | .lst m a => wi (argD (ev a).1 (lstK m))
  | .idx a b => let f := (ev a).1; let g := (ev b).1; wi fun ς G => bnd (f ς G) fun x G1 => bnd (g ς G1) fun y G2 => idxD x y G2
  | .sl m a lo hi => wi (slF m (ev a).1 (if isNil lo then none else some (ev lo).1) (if isNil hi then none else some (ev hi).1))
  | .rev m a => let f := (ev a).1; wi fun ς G => bnd (f ς G) (revD m)
  | .isi t a => let f := (ev a).1; wi fun ς G => bnd (f ς G) (isiD t)
  | .blt b a => wi (argD (ev a).1 b.k)
  | .mth b o a => wi (mthD b.ty (ev o).1 (ev a).1 b.k)
  | .mth0 b o => let f := (ev o).1; wi fun ς G => bnd (f ς G) fun o G1 => if hasTy b.ty o G1 = true then b.k o [] G1 else none
  | .call f n a => wi (argD (ev a).1 fun ds G => if ds.length = n then cl f ds G else none)
  | .call0 f => wi fun _ G => cl f [] G
  | .lrg m n a => wi (argD (ev a).1 fun ds G => if ds.length = n then lrgK m ds G else none)
  | .lrev m a => let f := (ev a).1; wi fun ς G => bnd (f ς G) (lrevK m)
  | .comp m t own it c e => wi (compD m t own (ev it).1 (ev c).2 (ev e).1)
  | .gen sb t own it e => wi (genD sb t own (ev it).1 (ev e).1)
  | .iseq a => let f := (ev a).1; wi fun ς G => bnd (f ς G) seqK
  | .irng n a => wi (argD (ev a).1 (arity n rngK))
  | .izip a => wi (argD (ev a).1 zipK)
  | .ienum a => wi (argD (ev a).1 enumK)
  | .yes => (fun _ _ => none, fun _ G => some (true, G))
end

/-! ### contexts -/
structure CC where
  N : List Str
  names : List (Str × NameKind)
  cells : List Str
  consts : List (Str × D)
  funs : List (Str × Nat × Nat)
  muts : List Nat
  retM : Bool
  tab : Bool
def usedB : List Str := ["isinstance", "len", "abs", "min", "max", "int", "sum", "list", "tuple", "dict", "range", "reversed", "all", "any", "zip", "enumerate", "bool", "str"]
structure XOk (X : Cx) (T : List Addr) (cl : Nat → List D → Hs → Rs) (k r : Nat) (cc : CC) : Prop where
  N : X.N = cc.N
  nd : X.N.Nodup
  names : X.env.scope.names = cc.names
  kind : X.env.scope.kind = .function
  calm : X.calm = true
  room : Room r X.A
  le : k ≤ r
  cells : ∀ x ∈ cc.cells, X.fn x = true
  blt : ∀ x ∈ usedB, X.mg x = none
  consts : ∀ p ∈ cc.consts, ∃ u v, X.mg p.1 = some u ∧ RelV v u ∧ CV p.2 v
  funs : ∀ p ∈ cc.funs, Own X T k p.1 p.2.2 (cl p.2.1)
  tab : cc.tab = true → k + 2 ≤ r ∧ ∃ c P, TabB X.base X.mg c P ∧ X.env.code = .ref c ∧ P ∈ T

variable {X : Cx} {T : List Addr} {cl : Nat → List D → Hs → Rs} {k r : Nat} {cc : CC}
theorem XOk.hu (ok : XOk X T cl k r cc) : X.A.units + 65 < cLine := by have := ok.room.un; omega
theorem XOk.look (ok : XOk X T cl k r cc) (x : Str) : X.env.scope.names.lookup x = cc.names.lookup x := by rw [ok.names]
theorem XOk.gl (ok : XOk X T cl k r cc) {x : Str} (h : cc.names.lookup x = some .globalImplicit) : Gl X x := by
  show X.env.scope.names.lookup x = _
  rw [ok.look]; exact h

/-- what is promised of an expression -/
structure Good (X : Cx) (T : List Addr) (cl : Nat → List D → Hs → Rs) (x : Expr) (e : E) : Prop where
  pe : PE X x (LE X.K T (ev cl e).1)
  pt : PT X x (LT X.K T (ev cl e).2)
theorem pe_no {x : Expr} {f : Fn} (h : ∀ ς G, f ς G = none) : PE X x (LE X.K T f) := ⟨fun pins s σ H Q I ⟨ι, F, ς, G, R, S, q⟩ => by rw [h] at q; exact q.no⟩
theorem pt_no {x : Expr} {f : FB} (h : ∀ ς G, f ς G = none) : PT X x (LT X.K T f) := ⟨fun pins s σ H Q I ⟨ι, F, ς, G, R, S, b, G', e, q⟩ => by rw [h] at e; cases e⟩
theorem pa_no {x : List Expr} {f : Fn} (h : ∀ ς G, f ς G = none) : PA X x (LA X.K T f) := ⟨fun pos pins s σ H Q I ⟨ι, F, ς, G, R, S, b, G', e, q⟩ => by rw [h] at e; cases e⟩
theorem pi_no {tg x : Expr} {f : Fn} (h : ∀ ς G, f ς G = none) : PI X tg x (LI X.K T f) := ⟨fun pins s σ H Q I ⟨ι, F, ς, G, R, S, b, G', e, q⟩ => by rw [h] at e; cases e⟩
theorem good_bad {x : Expr} : Good X T cl x .bad := ⟨pe_no fun _ _ => rfl, pt_no fun _ _ => rfl⟩
/-- no test of its own -/
def plainT : Expr → Bool
  | .UnaryOp .Not _ _ => false
  | .BoolOp .. => false
  | .IfExp .. => false
  | .Compare .. => false
  | _ => true
theorem plain_ok {x : Expr} {env : Env} (h : plainT x = true) (whole : Sem Value) : isTrue x env whole = (do let v ← whole; standAt x.pos; holding [v] (truthy v)) := by
  cases x <;> first | rfl | (cases h; done) | skip
  rename_i op _ _
  cases op <;> first | rfl | (cases h)
theorem good_wi {x : Expr} {e : E} {f : Fn} (h : PE X x (LE X.K T f)) (hp : plainT x = true) (he : ev cl e = wi f) : Good X T cl x e := by
  refine ⟨by rw [he]; exact h, by rw [he]; exact lt_val h (plain_ok hp)⟩
theorem le_frz {i : Nat} {x : Str} {pos : Pos} (hN : X.N[i]? = some x) (hv : Vis X.env.scope x) (hd : (x == ("__debug__" : Str)) = false) (hcd : (x == ("__classdict__" : Str)) = false) : PE X (.Name x pos) (LE X.K T (frzD i)) := by
  refine (pe_var hN hv hd hcd).imp fun σ H Q ⟨ι, F, ς, G, R, S, h⟩ => ?_
  obtain ⟨o, e1, h⟩ := h.ofBind
  obtain ⟨d, e2, h⟩ := h.ofBind
  subst e2
  obtain ⟨v, e3, r⟩ := S.at_ i d e1
  refine ⟨v, e3, ?_⟩
  have h' : Lift X.K T ⟨ι, F, H⟩ (frzK d G) Q := h
  unfold frzK at h'
  clear h
  split at h'
  · split at h'
    · rename_i ds eg
      obtain ⟨a, vs, rfl, ea, nf, h1, h2⟩ := cell_at R r eg
      exact h'.to (Ex2.freeze (List.mem_of_getElem? ea)) (R.freeze ea) ⟨a, vs, rfl, ⟨.inr rfl, h1⟩, h2.ext Ext.freeze⟩
    · exact h'.no
  · exact h'.no
end Mp
set_option Elab.async false
set_option linter.all false
set_option autoImplicit false
set_option maxRecDepth 100000
set_option maxHeartbeats 1000000
/-! Mp, part 13: texts read as mini expressions -/
namespace Mp
open PySem PySem.Spec L2 GxR
open PyProof.Rows hiding St

def ixOf (N : List Str) (x : Str) : Option Nat := N.findIdx? fun z => decide (z = x)
theorem ixOf_get {N : List Str} {x : Str} {i : Nat} (h : ixOf N x = some i) : N[i]? = some x := by
  obtain ⟨hi, hp, _⟩ := List.findIdx?_eq_some_iff_getElem.mp h
  rw [List.getElem?_eq_getElem hi]
  exact congrArg some (of_decide_eq_true hp)
def okNm (x : Str) : Bool := !(x == ("__debug__" : Str)) && !(x == ("__classdict__" : Str)) && !decide (x = "__name__")
theorem okNm_at {x : Str} (h : okNm x = true) : (x == ("__debug__" : Str)) = false ∧ (x == ("__classdict__" : Str)) = false ∧ x ≠ "__name__" := by
  unfold okNm at h
  simp only [Bool.and_eq_true, Bool.not_eq_true', decide_eq_false_iff_not] at h
  exact ⟨h.1.1, h.1.2, h.2⟩
def visK : Option NameKind → Bool
  | some .local => true
  | some .cell => true
  | some .free => true
  | _ => false
theorem visK_at {sc : Scope} {x : Str} (h : visK (sc.names.lookup x) = true) : Vis sc x := by
  unfold Vis
  revert h
  cases sc.names.lookup x with
  | none => intro h; cases h
  | some k => cases k <;> intro h <;> first | (cases h; done) | simp
def cName (cc : CC) (y : Str) : E :=
  if okNm y then
    if visK (cc.names.lookup y) then (match ixOf cc.N y with | some i => .v i | none => .bad)
    else if cc.names.lookup y = some .globalImplicit then (match cc.consts.lookup y with | some d => .k d | none => .bad)
    else .bad
  else .bad
def cConst : Const → E
  | .int i => .k (.int i)
  | .bool b => .k (.bl b)
  | .none => .k .non
  | .str s => .k (.str s.cps.toList)
  | _ => .bad
def bopOf : Operator → Option Bop
  | .Add => some .add | .Sub => some .sub | .Mult => some .mul | .FloorDiv => some .fdiv | .Mod => some .mod | .Pow => some .pow
  | _ => none
theorem bopOf_py {op : Operator} {o : Bop} (h : bopOf op = some o) : o.py = op := by
  cases op <;> simp only [bopOf] at h <;> first | (cases h; rfl) | (cases h)
def copOf : CmpOp → Option Cop
  | .Eq => some .eq | .NotEq => some .ne | .Lt => some .lt | .LtE => some .le | .Gt => some .gt | .GtE => some .ge | .In => some .in_ | .NotIn => some .nin | .Is => some .is_ | .IsNot => some .isn
theorem copOf_py {op : CmpOp} {o : Cop} (h : copOf op = some o) : o.py = op := by
  cases op <;> simp only [copOf] at h <;> first | (cases h; rfl) | (cases h)
def plainIxB : Expr → Bool
  | .Slice .. => false
  | _ => true
theorem plainIx_ok {b : Expr} (h : plainIxB b = true) : PlainIx b := by
  intro o i
  cases b <;> first | rfl | (cases h)
def noStar (es : List Expr) : Bool := es.all fun e => !isStar e

abbrev Rec := CC → Bool → Expr → E
def cArgs (f : Expr → E) : List Expr → E
  | [] => .nil
  | a :: as => if isStar a then .bad else .cons (f a) (cArgs f as)
def cAnd (f : Expr → E) : List Expr → E
  | [] => .bad
  | [a] => f a
  | a :: as => .and (f a) (cAnd f as)
def cOr (f : Expr → E) : List Expr → E
  | [] => .bad
  | [a] => f a
  | a :: as => .or (f a) (cOr f as)
def cOpt (f : Expr → E) : Option Expr → Option E
  | none => some .nil
  | some e => if isNil (f e) then none else some (f e)
/-! targets -/
def cTgs (f : Expr → Option Tg) : List Expr → Option Tg
  | [] => some .nil
  | e :: es => if isStar e then none else (f e).bind fun a => (cTgs f es).map fun b => .cons a b
def cTg (cc : CC) : Nat → Expr → Option Tg
  | 0, _ => none
  | n + 1, x => match x with
    | .Name y _ => if cc.names.lookup y = some .local ∨ (cc.names.lookup y = some .cell ∧ y ∈ cc.cells) then (ixOf cc.N y).map .nm else none
    | .Tuple es _ _ => (cTgs (cTg cc n) es).map .tp
    | _ => none
/-! blocks -/
def ownOf (N : List Str) (names : List (Str × NameKind)) : List (Str × Nat) := names.filterMap fun p => if p.2 = .local ∨ p.2 = .cell then (ixOf N p.1).map fun i => (p.1, i) else none
def blkB (N : List Str) (names : List (Str × NameKind)) (scope : Scope) : Bool :=
  decide (scope.kind = .function) && scope.names.all (fun y => decide (scope.names.lookup y.1 = some y.2)) &&
  scope.names.all (fun y => decide (y.2 = .free → names.lookup y.1 = some .cell ∨ names.lookup y.1 = some .free)) &&
  scope.names.all (fun y => decide (y.2 = .local ∨ y.2 = .cell → y.1 ∈ (ownOf N scope.names).map (·.1) ∨ y.1 ∉ N))
theorem ownOf_ix {N : List Str} {names : List (Str × NameKind)} : ∀ p ∈ ownOf N names, N[p.2]? = some p.1 := by
  intro p hp
  obtain ⟨q, _, hq⟩ := List.mem_filterMap.mp hp
  split at hq
  · cases e : ixOf N q.1 with
    | none => rw [e] at hq; cases hq
    | some i => rw [e] at hq; cases hq; exact ixOf_get e
  · cases hq
theorem blkB_ok {N : List Str} {sc scope : Scope} (h : blkB N sc.names scope = true) : BlkOk N sc scope (ownOf N scope.names) := by
  unfold blkB at h
  simp only [Bool.and_eq_true, decide_eq_true_eq, List.all_eq_true] at h
  exact ⟨h.1.1.1, h.1.1.2, ownOf_ix, h.1.2, h.2⟩
def relN (names outer : List (Str × NameKind)) : List (Str × NameKind) := names.map fun (n, k) => if (k == .free && outer.lookup n == some .cell) then (n, .cell) else (n, k)
def cellsOf (names : List (Str × NameKind)) : List Str := (names.filter fun p => decide (names.lookup p.1 = some .cell)).map (·.1)
def ccComp (cc : CC) (scope : Scope) : CC := { cc with names := relN scope.names cc.names, cells := cellsOf scope.names, muts := [] }
def ccGen (cc : CC) (scope : Scope) : CC := { cc with names := scope.names, cells := [], muts := [], tab := false }
/-! iterables -/
def notSet : Expr → Bool
  | .Set .. => false
  | _ => true
def notSL : Expr → Bool
  | .Set .. => false
  | .List .. => false
  | _ => true
def isTupE : Expr → Bool
  | .Tuple .. => true
  | _ => false
def cIter (rec : Rec) (cc : CC) (tg x : Expr) : E := match x with
  | .Call (.Name f _) as [] _ =>
    if cc.names.lookup f = some .globalImplicit ∧ noStar as = true then
      if f = "range" then (match as with | [_] => .irng 1 (cArgs (rec cc false) as) | [_, _] => .irng 2 (cArgs (rec cc false) as) | [_, _, _] => .irng 3 (cArgs (rec cc false) as) | _ => .bad)
      else if f = "zip" then (match as with | [_, _] => if isTupE tg then .izip (cArgs (rec cc false) as) else .bad | _ => .bad)
      else if f = "enumerate" then (match as with | [_] => if isTupE tg then .ienum (cArgs (rec cc false) as) else .bad | _ => .bad)
      else .iseq (rec cc false x)
    else .iseq (rec cc false x)
  | x => .iseq (rec cc false x)
def cIfs (f : Expr → E) : List Expr → E
  | [] => .yes
  | [c] => f c
  | _ => .bad
def cComp (rec : Rec) (cc : CC) (m : Bool) (elt tg it : Expr) (ifs : List Expr) (scope : Scope) : E :=
  match cTg (ccComp cc scope) 4 tg with
  | none => .bad
  | some t => if blkB cc.N cc.names scope = true ∧ notSet it = true ∧ (∀ i ∈ t.ix, i ∈ (ownOf cc.N scope.names).map (·.2)) then
      .comp m t ((ownOf cc.N scope.names).map (·.2)) (cIter rec cc tg it) (cIfs (rec (ccComp cc scope) false) ifs) (rec (ccComp cc scope) false elt)
    else .bad
def cGen (rec : Rec) (cc : CC) (sb : Bool) (elt tg it : Expr) (scope : Scope) : E :=
  match cTg (ccGen cc scope) 4 tg with
  | none => .bad
  | some t => if cc.tab = true ∧ blkB cc.N cc.names scope = true ∧ notSL it = true ∧ (∀ i ∈ t.ix, i ∈ (ownOf cc.N scope.names).map (·.2)) ∧ scope.isCoroutine = false ∧ (∀ y ∈ scope.names, y.2 ≠ .cell) ∧ scope.names.lookup (".0" : Str) = some .local then
      .gen sb t ((ownOf cc.N scope.names).map (·.2)) (cIter rec cc tg it) (rec (ccGen cc scope) false elt)
    else .bad
/-! calls -/
def tyOf (x : Str) : Option Ty := if x = "tuple" then some .tuple else if x = "list" then some .list else if x = "int" then some .int else if x = "bool" then some .bool else if x = "str" then some .str else if x = "dict" then some .dict else none
theorem tyOf_nm {x : Str} {t : Ty} (h : tyOf x = some t) : x = Str.ofString t.nm := by
  unfold tyOf at h
  repeat' split at h
  all_goals first | (cases h; assumption) | (cases h)
def bltOf (x : Str) (n : Nat) (m : Bool) : Option Blt :=
  if x = "len" then some .len else if x = "abs" then some .abs else if x = "min" then (if n = 1 then some .minL else some .min2) else if x = "max" then (if n = 1 then some .maxL else some .max2)
  else if x = "int" then some .int else if x = "sum" then some .sum else if x = "list" then some (.list m) else if x = "tuple" then some .tuple else if x = "dict" then some .dict else none
theorem bltOf_nm {x : Str} {n : Nat} {m : Bool} {b : Blt} (h : bltOf x n m = some b) : x = b.nm := by
  unfold bltOf at h
  repeat' split at h
  all_goals first | (cases h; assumption) | (cases h)
def mthOf (x : Str) : Option Mth := if x = "append" then some .append else if x = "extend" then some .extend else if x = "pop" then some .pop else if x = "index" then some .index else if x = "join" then some .join else none
theorem mthOf_nm {x : Str} {b : Mth} (h : mthOf x = some b) : x = b.nm := by
  unfold mthOf at h
  repeat' split at h
  all_goals first | (cases h; assumption) | (cases h)
def cCallG (rec : Rec) (cc : CC) (m : Bool) (f : Str) (as : List Expr) : E :=
  match bltOf f as.length m with
  | some b => (match as with | [] => .bad | _ :: _ => .blt b (cArgs (rec cc false) as))
  | none => match cc.funs.lookup f with
    | some (j, n) => (match as with | [] => if n = 0 then .call0 j else .bad | _ :: _ => .call j n (cArgs (rec cc false) as))
    | none => .bad
def cCallN (rec : Rec) (cc : CC) (m : Bool) (f : Str) (as : List Expr) : E := match as with
  | [.Call (.Name g p1) bs [] p2] => if f = "list" ∧ cc.names.lookup g = some .globalImplicit ∧ noStar bs = true then
      if g = "range" then (match bs with | [_] => .lrg m 1 (cArgs (rec cc false) bs) | [_, _] => .lrg m 2 (cArgs (rec cc false) bs) | [_, _, _] => .lrg m 3 (cArgs (rec cc false) bs) | _ => .bad)
      else if g = "reversed" then (match bs with | [b] => .lrev m (rec cc false b) | _ => .bad)
      else cCallG rec cc m f [.Call (.Name g p1) bs [] p2]
    else cCallG rec cc m f [.Call (.Name g p1) bs [] p2]
  | [.GeneratorExp elt [⟨tg, it, [], 0⟩] scope _] => if f = "all" then cGen rec cc false elt tg it scope else if f = "any" then cGen rec cc true elt tg it scope else .bad
  | [a, .Name t p1] => if f = "isinstance" then (match tyOf t with | some c => if cc.names.lookup t = some .globalImplicit ∧ isStar a = false then .isi c (rec cc false a) else .bad | none => .bad) else cCallG rec cc m f [a, .Name t p1]
  | as => cCallG rec cc m f as
def cMeth (rec : Rec) (cc : CC) (o : Expr) (name : Str) (apos : Pos) (as : List Expr) (pos : Pos) : E :=
  match mthOf name with
  | none => .bad
  | some b => if plainBase o = true ∧ (apos.endLine == pos.line) = true ∧ noStar as = true ∧ as.length < 30 then
      (match as with | [] => .mth0 b (rec cc false o) | _ :: _ => .mth b (rec cc false o) (cArgs (rec cc false) as))
    else .bad
def cSub (rec : Rec) (cc : CC) (m : Bool) (a b : Expr) : E := match b with
  | .Slice none none (some (.UnaryOp .USub (.Constant (.int 1) _ _) _)) _ => .rev m (rec cc false a)
  | .Slice lo hi none _ => (match cOpt (rec cc false) lo, cOpt (rec cc false) hi with | some l, some h => .sl m (rec cc false a) l h | _, _ => .bad)
  | b => if plainIxB b = true then .idx (rec cc false a) (rec cc false b) else .bad
def cStep (rec : Rec) (cc : CC) (m : Bool) : Expr → E
  | .Name y _ => cName cc y
  | .Constant c _ _ => cConst c
  | .BinOp a op b _ => (match bopOf op with | some o => (if m = true ∧ op = .Add then .catM (rec cc false a) (rec cc false b) else .bin o (rec cc false a) (rec cc false b)) | none => .bad)
  | .UnaryOp .USub a _ => .neg (rec cc false a)
  | .UnaryOp .Not a _ => .not (rec cc false a)
  | .Compare a [op] [b] _ => (match copOf op with | some o => if behindInMarks op b = true then .bad else .cmp o (rec cc false a) (rec cc false b) | none => .bad)
  | .Compare a [op, op'] [b, c] _ => (match copOf op, copOf op' with | some o, some o' => if lastMarks [op, op'] [b, c] = true then .bad else .chain o o' (rec cc false a) (rec cc false b) (rec cc false c) | _, _ => .bad)
  | .BoolOp .And es _ => cAnd (rec cc false) es
  | .BoolOp .Or es _ => cOr (rec cc false) es
  | .IfExp c a b _ => .ite (rec cc false c) (rec cc m a) (rec cc m b)
  | .Tuple es _ _ => .tup (cArgs (rec cc false) es)
  | .List es _ => .lst m (cArgs (rec cc false) es)
  | .Subscript a b _ => cSub rec cc m a b
  | .Call (.Name f _) as [] _ => if cc.names.lookup f = some .globalImplicit ∧ okNm f = true ∧ noStar as = true then cCallN rec cc m f as else .bad
  | .Call (.Attribute o name apos) as [] pos => cMeth rec cc o name apos as pos
  | .ListComp elt [⟨tg, it, ifs, 0⟩] scope _ => cComp rec cc m elt tg it ifs scope
  | _ => .bad
def cE : Nat → Rec
  | 0 => fun _ _ _ => .bad
  | n + 1 => cStep (cE n)
end Mp
set_option Elab.async false
set_option linter.all false
set_option autoImplicit false
set_option maxRecDepth 100000
set_option maxHeartbeats 1000000
/-! Mp, part 14: what is read is what runs (expressions) -/
namespace Mp
open PySem PySem.Spec L2 GxR GxM
open PyProof.Rows hiding St

variable {T : List Addr} {cl : Nat → List D → Hs → Rs}
def RecOk (T : List Addr) (cl : Nat → List D → Hs → Rs) (rec : Rec) : Prop := ∀ (X : Cx) (k r : Nat) (cc : CC), XOk X T cl k r cc → ∀ m x, Good X T cl x (rec cc m x)

section
variable {X : Cx} {k r : Nat} {cc : CC} {rec : Rec}
theorem XOk.vis (ok : XOk X T cl k r cc) {x : Str} (h : visK (cc.names.lookup x) = true) : Vis X.env.scope x := visK_at (by rw [ok.look]; exact h)
theorem name_ok (ok : XOk X T cl k r cc) {y : Str} {p : Pos} : Good X T cl (.Name y p) (cName cc y) := by
  unfold cName
  split
  · rename_i h1
    obtain ⟨n1, n2, n3⟩ := okNm_at h1
    split
    · rename_i h2
      split
      · rename_i i hi
        exact good_wi (le_v (by rw [ok.N]; exact ixOf_get hi) (ok.vis h2) n1 n2) rfl rfl
      · exact good_bad
    · split
      · rename_i h3
        split
        · rename_i d hd
          obtain ⟨u, v, e1, e2, e3⟩ := ok.consts _ (PySem.mem_of_lookup hd)
          exact good_wi (le_c (pe_glob (ok.gl h3) e1 e2 n1) e3) rfl rfl
        · exact good_bad
      · exact good_bad
  · exact good_bad
theorem const_ok {c : Const} {j : Nat} {p : Pos} : Good X T cl (.Constant c j p) (cConst c) := by
  cases c <;> first
    | exact good_wi (le_c pe_int (.int _)) rfl rfl
    | exact good_wi (le_c pe_bl (.bl _)) rfl rfl
    | exact good_wi (le_c pe_non .non) rfl rfl
    | skip
  all_goals first
    | exact good_bad
    | exact good_wi (le_c pe_str (by rename_i s; have := CV.str s.cps.toList; simpa using this)) rfl rfl
theorem args_ok (f : Expr → E) (hf : ∀ x, Good X T cl x (f x)) : ∀ es : List Expr, PA X es (LA X.K T (ev cl (cArgs f es)).1)
  | [] => la_nil
  | a :: as => by
    unfold cArgs
    split
    · exact pa_no fun _ _ => rfl
    · rename_i h
      exact la_cons (hf a).pe (args_ok f hf as) (star_1 (by simpa using h))
/-- a stronger reading of fewer results -/
theorem le_sub {x : Expr} {f f' : Fn} (h : PE X x (LE X.K T f)) (m : ∀ ς G v, f' ς G = some v → f ς G = some v) : PE X x (LE X.K T f') :=
  h.imp fun σ H Q ⟨ι, F, ς, G, R, S, d, G', e, q⟩ => ⟨ι, F, ς, G, R, S, d, G', m _ _ _ e, q⟩
theorem and_ok (f : Expr → E) (hf : ∀ x, Good X T cl x (f x)) {p : Pos} : ∀ es : List Expr, PE X (.BoolOp .And es p) (LE X.K T (ev cl (cAnd f es)).1) ∧ PW X (.BoolOp .And es p) (LT X.K T (ev cl (cAnd f es)).2)
  | [] => ⟨pe_no fun _ _ => rfl, ⟨fun _ pins s σ H Q I ⟨ι, F, ς, G, R, S, b, G', e, q⟩ => by cases e⟩⟩
  | [a] => ⟨pe_one (hf a).pe, pw_and1 (hf a).pt⟩
  | a :: b :: as => by
    obtain ⟨h1, h2⟩ := and_ok f hf (p := p) (b :: as)
    exact ⟨le_and (hf a).pe h1, lw_and (hf a).pt h2⟩
theorem or_ok (f : Expr → E) (hf : ∀ x, Good X T cl x (f x)) {p : Pos} : ∀ es : List Expr, PE X (.BoolOp .Or es p) (LE X.K T (ev cl (cOr f es)).1) ∧ PW X (.BoolOp .Or es p) (LT X.K T (ev cl (cOr f es)).2)
  | [] => ⟨pe_no fun _ _ => rfl, ⟨fun _ pins s σ H Q I ⟨ι, F, ς, G, R, S, b, G', e, q⟩ => by cases e⟩⟩
  | [a] => ⟨pe_one (hf a).pe, pw_or1 (hf a).pt⟩
  | a :: b :: as => by
    obtain ⟨h1, h2⟩ := or_ok f hf (p := p) (b :: as)
    exact ⟨le_or (hf a).pe h1, lw_or (hf a).pt h2⟩
theorem opt_ok (f : Expr → E) (hf : ∀ x, Good X T cl x (f x)) {o : Option Expr} {e : E} (h : cOpt f o = some e) : PO X o (LO X.K T (if isNil e then none else some (ev cl e).1)) := by
  cases o with
  | none => cases h; exact lo_none
  | some x =>
    simp only [cOpt] at h
    split at h
    · cases h
    · rename_i hn
      cases h
      rw [if_neg hn]
      exact lo_some (hf x).pe
theorem sub_ok (f : Expr → E) (hf : ∀ x, Good X T cl x (f x)) (ok : XOk X T cl k r cc) {rec : Rec} (hr : f = rec cc false) {m : Bool} {a b : Expr} {p : Pos} : Good X T cl (.Subscript a b p) (cSub rec cc m a b) := by
  subst hr
  unfold cSub
  split
  · exact good_wi (le_rev m (hf a).pe) rfl rfl
  · split
    · rename_i l h el eh
      exact good_wi (le_sl m (hf a).pe (opt_ok _ hf el) (opt_ok _ hf eh)) rfl rfl
    · exact good_bad
  · split
    · rename_i hp
      exact good_wi (le_ix ok.hu (hf a).pe (hf b).pe (plainIx_ok hp)) rfl rfl
    · exact good_bad
/-! targets -/
theorem tgs_ok {f : Expr → Option Tg} (hf : ∀ x t, f x = some t → PG X x (GT X.K T t)) : ∀ {es : List Expr} {t : Tg}, cTgs f es = some t → PGs X es (GTs X.K T t) ∧ t.isL = true ∧ t.len = es.length ∧ es.all (fun e => !isStar e) = true
  | [], t, h => by cases h; exact ⟨gts_nil, rfl, rfl, rfl⟩
  | e :: es, t, h => by
    simp only [cTgs] at h
    split at h
    · cases h
    · rename_i hs
      have hs : isStar e = false := by simpa using hs
      cases ea : f e with
      | none => rw [ea] at h; cases h
      | some a =>
        rw [ea] at h
        simp only [Option.bind_some, Option.map_eq_some_iff] at h
        obtain ⟨b, eb, rfl⟩ := h
        obtain ⟨h1, h2, h3, h4⟩ := tgs_ok hf eb
        exact ⟨gts_cons (hf e a ea) h1 hs, h2, congrArg (· + 1) h3, by simp only [List.all_cons, hs, h4]; rfl⟩
structure TOk (X : Cx) (cc : CC) : Prop where
  N : X.N = cc.N
  nd : X.N.Nodup
  names : X.env.scope.names = cc.names
  calm : X.calm = true
  cells : ∀ x ∈ cc.cells, X.fn x = true
theorem XOk.tok (ok : XOk X T cl k r cc) : TOk X cc := ⟨ok.N, ok.nd, ok.names, ok.calm, ok.cells⟩
theorem tg_ok (ok : TOk X cc) : ∀ (n : Nat) {x : Expr} {t : Tg}, cTg cc n x = some t → PG X x (GT X.K T t)
  | 0, _, _, h => by cases h
  | n + 1, x, t, h => by
    unfold cTg at h
    split at h
    · split at h
      · rename_i y _ hy
        cases e : ixOf cc.N y with
        | none => rw [e] at h; cases h
        | some i =>
          rw [e] at h; cases h
          refine gt_nm ok.nd (by rw [ok.N]; exact ixOf_get e) ?_ ?_
          · unfold L2.Loc
            rw [ok.names]
            exact hy.imp id fun q => q.1
          · rw [ok.names]
            exact hy.elim .inr fun q => .inl (ok.cells _ q.2)
      · cases h
    · rename_i es _ _
      cases e : cTgs (cTg cc n) es with
      | none => rw [e] at h; cases h
      | some l =>
        rw [e] at h; cases h
        obtain ⟨h1, h2, h3, h4⟩ := tgs_ok (fun x t hx => tg_ok ok n hx) e
        exact gt_tup ok.calm h1 h2 h3 h4
    · cases h
/-! iterables -/
theorem iter_ok (hr : RecOk T cl rec) (ok : XOk X T cl k r cc) {tg x : Expr} : PI X tg x (LI X.K T (ev cl (cIter rec cc tg x)).1) := by
  have hf : ∀ x, Good X T cl x (rec cc false x) := fun x => hr X k r cc ok false x
  have seq : PI X tg x (LI X.K T (ev cl (.iseq (rec cc false x))).1) := li_seq (hf x).pe
  unfold cIter
  split
  · rename_i f p as pos
    split
    · rename_i hg
      obtain ⟨hg, hs⟩ := hg
      split
      · rename_i e
        subst e
        split
        · rename_i a
          have hs1 : isStar a = false := by simpa [noStar] using hs
          exact li_rng1 (ok.gl hg) (ok.blt _ (by decide)) (args_ok _ hf _) hs1
        · rename_i a b
          have hs1 : isStar a = false ∧ isStar b = false := by simpa [noStar] using hs
          exact li_rng2 (ok.gl hg) (ok.blt _ (by decide)) (args_ok _ hf _) hs1.1 hs1.2
        · exact li_rng3 (ok.gl hg) (ok.blt _ (by decide)) (args_ok _ hf _) hs
        · exact pi_no fun _ _ => rfl
      · split
        · rename_i e
          subst e
          split
          · rename_i a b
            have hs1 : isStar a = false ∧ isStar b = false := by simpa [noStar] using hs
            split
            · rename_i ht
              cases tg <;> first | (cases ht; done) | exact li_zip (ok.gl hg) (ok.blt _ (by decide)) (args_ok _ hf _) hs1.1 hs1.2
            · exact pi_no fun _ _ => rfl
          · exact pi_no fun _ _ => rfl
        · split
          · rename_i e
            subst e
            split
            · rename_i a
              have hs1 : isStar a = false := by simpa [noStar] using hs
              split
              · rename_i ht
                cases tg <;> first | (cases ht; done) | exact li_enum (ok.gl hg) (ok.blt _ (by decide)) (args_ok _ hf _) hs1
              · exact pi_no fun _ _ => rfl
            · exact pi_no fun _ _ => rfl
          · exact seq
    · exact seq
  · exact seq
theorem notSet_ok {x : Expr} {env : Env} (h : notSet x = true) (v : Value) : foldedSetIterable x env v = pure v := by
  cases x <;> first | rfl | (cases h)
theorem notSL_ok {x : Expr} {env : Env} (h : notSL x = true) (v : Value) : genFold x env v = pure v := by
  cases x <;> first | rfl | (cases h)
/-! blocks -/
theorem lookup_cell {names : List (Str × NameKind)} {x : Str} (h : x ∈ cellsOf names) : names.lookup x = some .cell := by
  unfold cellsOf at h
  obtain ⟨p, hp, rfl⟩ := List.mem_map.mp h
  exact of_decide_eq_true (List.mem_filter.mp hp).2
theorem xok_comp (ok : XOk X T cl k r cc) {scope : Scope} (hb : blkB cc.N cc.names scope = true) (s : Shared) (H : Hp) (C : Addr) (cs : List (Str × Addr)) (fp : List Addr) :
    XOk (X.blk s H scope (compEnvC scope cs C X.env) fp) T cl k r (ccComp cc scope) where
  N := ok.N
  nd := ok.nd
  names := by
    show (relabel scope X.env).names = relN scope.names cc.names
    unfold relabel relN
    simp only [ok.kind, Env.kindOf, ok.names]
    congr 1
    funext ⟨n, q⟩
    simp
  kind := by
    have := (blkB_ok (sc := X.env.scope) (N := cc.N) (scope := scope) (by rw [ok.names]; exact hb)).kind
    exact this
  calm := ok.calm
  room := ok.room
  le := ok.le
  cells := fun x hx => by
    show (scope.names.lookup x == some .cell) = true
    rw [lookup_cell hx]; rfl
  blt := ok.blt
  consts := ok.consts
  funs := fun p hp => ⟨(ok.funs p hp).ex⟩
  tab := ok.tab
theorem xok_gen (ok : XOk X T cl k r cc) {scope : Scope} (hb : blkB cc.N cc.names scope = true) (A : Around) (s : Shared) (H : Hp) (cs : List (Str × Addr)) (C : Addr) (code : Value) (fp : List Addr) (hr : Room k A) :
    XOk (gcx X A s H (genEnv scope cs C code builtinsNs X.env) fp) T cl k k (ccGen cc scope) where
  N := ok.N
  nd := ok.nd
  names := rfl
  kind := (blkB_ok (sc := X.env.scope) (N := cc.N) (scope := scope) (by rw [ok.names]; exact hb)).kind
  calm := ok.calm
  room := hr
  le := Nat.le_refl _
  cells := fun x hx => by cases hx
  blt := ok.blt
  consts := ok.consts
  funs := fun p hp => ⟨(ok.funs p hp).ex⟩
  tab := fun h => by cases h
theorem ifs_ok (f : Expr → E) (hf : ∀ x, Good X T cl x (f x)) (ifs : List Expr) : PTs X ifs (LT X.K T (ev cl (cIfs f ifs)).2) := by
  unfold cIfs
  split
  · exact lts_nil
  · exact pts_one (hf _).pt
  · exact ⟨fun pins s σ H Q I ⟨ι, F, ς, G, R, S, b, G', e, q⟩ => by cases e⟩
/-- what cComp found -/
theorem comp_at {m : Bool} {elt tg it : Expr} {ifs : List Expr} {scope : Scope} : cComp rec cc m elt tg it ifs scope = .bad ∨ ∃ t, cTg (ccComp cc scope) 4 tg = some t ∧ blkB cc.N cc.names scope = true ∧ notSet it = true ∧ (∀ i ∈ t.ix, i ∈ (ownOf cc.N scope.names).map (·.2)) ∧
    cComp rec cc m elt tg it ifs scope = .comp m t ((ownOf cc.N scope.names).map (·.2)) (cIter rec cc tg it) (cIfs (rec (ccComp cc scope) false) ifs) (rec (ccComp cc scope) false elt) := by
  unfold cComp
  split
  · exact .inl rfl
  · rename_i t ht
    split
    · rename_i h
      exact .inr ⟨t, ht, h.1, h.2.1, h.2.2, rfl⟩
    · exact .inl rfl
theorem comp_ok (hr : RecOk T cl rec) (ok : XOk X T cl k r cc) {m : Bool} {elt tg it : Expr} {ifs : List Expr} {scope : Scope} {p : Pos} : Good X T cl (.ListComp elt [⟨tg, it, ifs, 0⟩] scope p) (cComp rec cc m elt tg it ifs scope) := by
  rcases comp_at (rec := rec) (cc := cc) (m := m) (elt := elt) (tg := tg) (it := it) (ifs := ifs) (scope := scope) with h | ⟨t, ht, hb, hs, hix, e⟩
  · rw [h]; exact good_bad
  · rw [e]
    have blk : BlkOk X.N X.env.scope scope (ownOf cc.N scope.names) := by rw [ok.N]; exact blkB_ok (by rw [ok.names]; exact hb)
    exact good_wi (le_comp m ok.calm ok.nd (iter_ok hr ok) blk (fun s H C cs fp => tg_ok (xok_comp ok hb s H C cs fp).tok 4 ht) (fun s H C cs fp => ifs_ok _ (fun x => hr _ k r _ (xok_comp ok hb s H C cs fp) false x) ifs)
      (fun s H C cs fp => (hr _ k r _ (xok_comp ok hb s H C cs fp) false elt).pe) (notSet_ok hs) hix) rfl rfl
theorem gen_ok (hr : RecOk T cl rec) (ok : XOk X T cl k r cc) {sb : Bool} {elt tg it : Expr} {scope : Scope} {p pos gp : Pos} {f : Str} (hg : cc.names.lookup f = some .globalImplicit) (hf : f = "all" ∧ sb = false ∨ f = "any" ∧ sb = true) :
    Good X T cl (.Call (.Name f p) [.GeneratorExp elt [⟨tg, it, [], 0⟩] scope gp] [] pos) (cGen rec cc sb elt tg it scope) := by
  unfold cGen
  split
  · exact good_bad
  · rename_i t ht
    split
    · rename_i h
      obtain ⟨htab, hb, hs, hix, hco, hcell, hdot⟩ := h
      obtain ⟨hk, c, P, TB, hcode, hP⟩ := ok.tab htab
      have blk : BlkOk X.N X.env.scope scope (ownOf cc.N scope.names) := by rw [ok.N]; exact blkB_ok (by rw [ok.names]; exact hb)
      have gs : GxS scope := ⟨hco, hcell, hdot⟩
      have hroom : Room (k + 2) X.A := ok.room.mono hk
      have hi : PI X tg it (LI X.K T (ev cl (cIter rec cc tg it)).1) := iter_ok hr ok
      -- the target in the generator's frame needs no room
      have hpg : ∀ (A : Around) (s : Shared) (H : Hp) (cs : List (Str × Addr)) (C : Addr) (code : Value) (fp : List Addr), PG (gcx X A s H (genEnv scope cs C code builtinsNs X.env) fp) tg (GT X.K T t) := by
        intro A s H cs C code fp
        exact tg_ok (X := gcx X A s H (genEnv scope cs C code builtinsNs X.env) fp) (cc := ccGen cc scope) ⟨ok.N, ok.nd, rfl, ok.calm, fun x hx => by cases hx⟩ 4 ht
      have hpe : ∀ (A : Around) (s : Shared) (H : Hp) (cs : List (Str × Addr)) (C : Addr) (code : Value) (fp : List Addr), Room k A → PE (gcx X A s H (genEnv scope cs C code builtinsNs X.env) fp) elt (LE X.K T (ev cl (rec (ccGen cc scope) false elt)).1) :=
        fun A s H cs C code fp hA => (hr _ k k _ (xok_gen ok hb A s H cs C code fp hA) false elt).pe
      rcases hf with ⟨rfl, rfl⟩ | ⟨rfl, rfl⟩
      · exact good_wi ((pe_all hroom (ok.gl hg) (ok.blt _ (by decide)) (by decide +kernel) TB hcode ok.nd ok.calm hi blk gs hpg hpe (notSL_ok hs)).imp fun σ H Q h => gen_in (X := X) hP hix h) rfl rfl
      · exact good_wi ((pe_any hroom (ok.gl hg) (ok.blt _ (by decide)) (by decide +kernel) TB hcode ok.nd ok.calm hi blk gs hpg hpe (notSL_ok hs)).imp fun σ H Q h => gen_in (X := X) hP hix h) rfl rfl
    · exact good_bad
end
end Mp
set_option Elab.async false
set_option linter.all false
set_option autoImplicit false
set_option maxRecDepth 100000
set_option maxHeartbeats 1000000
/-! Mp, part 15: what is read is what runs (calls; the whole of it) -/
namespace Mp
open PySem PySem.Spec L2 GxR GxM
open PyProof.Rows hiding St

variable {T : List Addr} {cl : Nat → List D → Hs → Rs}
section
variable {X : Cx} {k r : Nat} {cc : CC} {rec : Rec}
theorem blt_ok (ok : XOk X T cl k r cc) (b : Blt) {e : Expr} {es : List Expr} {f : Fn} {p pos : Pos} (hg : cc.names.lookup b.nm = some .globalImplicit) (ha : PA X (e :: es) (LA X.K T f)) (hs : noStar (e :: es) = true) :
    PE X (.Call (.Name b.nm p) (e :: es) [] pos) (LE X.K T (argD f b.k)) := by
  cases b with
  | len => exact le_callB call_lenD (ok.gl hg) (ok.blt _ (by decide)) (by decide +kernel) ha hs (by decide) (by decide)
  | abs => exact le_callB call_absD (ok.gl hg) (ok.blt _ (by decide)) (by decide +kernel) ha hs (by decide) (by decide)
  | min2 => exact le_callB (call_min2D ok.calm) (ok.gl hg) (ok.blt _ (by decide)) (by decide +kernel) ha hs (by decide) (by decide)
  | max2 => exact le_callB (call_max2D ok.calm) (ok.gl hg) (ok.blt _ (by decide)) (by decide +kernel) ha hs (by decide) (by decide)
  | minL => exact le_callB (call_minL ok.calm) (ok.gl hg) (ok.blt _ (by decide)) (by decide +kernel) ha hs (by decide) (by decide)
  | maxL => exact le_callB (call_maxL ok.calm) (ok.gl hg) (ok.blt _ (by decide)) (by decide +kernel) ha hs (by decide) (by decide)
  | int => exact le_callTy call_intD (ok.gl hg) (ok.blt _ (by decide)) (by decide +kernel) ha hs (by decide) (by decide)
  | sum => exact le_callB (call_sumD ok.calm) (ok.gl hg) (ok.blt _ (by decide)) (by decide +kernel) ha hs (by decide) (by decide)
  | list m => exact le_callTy (x := "list") (call_listD m) (ok.gl hg) (ok.blt _ (by decide)) (by decide +kernel) ha hs (by decide) (by decide)
  | tuple => exact le_callTy call_tupD (ok.gl hg) (ok.blt _ (by decide)) (by decide +kernel) ha hs (by decide) (by decide)
  | dict => exact le_callTy (call_dictD ok.calm) (ok.gl hg) (ok.blt _ (by decide)) (by decide +kernel) ha hs (by decide) (by decide)
theorem callG_ok (hr : RecOk T cl rec) (ok : XOk X T cl k r cc) {m : Bool} {f : Str} {as : List Expr} {p pos : Pos} (hg : cc.names.lookup f = some .globalImplicit) (hn : okNm f = true) (hs : noStar as = true) :
    Good X T cl (.Call (.Name f p) as [] pos) (cCallG rec cc m f as) := by
  have hf : ∀ x, Good X T cl x (rec cc false x) := fun x => hr X k r cc ok false x
  obtain ⟨n1, n2, n3⟩ := okNm_at hn
  unfold cCallG
  split
  · rename_i b hb
    have e := bltOf_nm hb
    subst e
    split
    · exact good_bad
    · exact good_wi (blt_ok ok b hg (args_ok _ hf _) hs) rfl rfl
  · split
    · rename_i j n hj
      have ow := ok.funs _ (PySem.mem_of_lookup hj)
      have hroom : Room k X.A := ok.room.mono ok.le
      split
      · split
        · rename_i h0
          subst h0
          exact good_wi (le_call0 ow hroom (ok.gl hg) n1) rfl rfl
        · exact good_bad
      · exact good_wi (le_call ow hroom (ok.gl hg) (args_ok _ hf _) hs n1) rfl rfl
    · exact good_bad
theorem bnd_sub {f : Fn} {k k' : List D → Hs → Rs} {ς : Env'} {G : Hs} {v : D × Hs} (m : ∀ ds G1 v, f ς G = some (.tup ds, G1) → k' ds G1 = some v → k ds G1 = some v) (h : argD f k' ς G = some v) : argD f k ς G = some v := by
  obtain ⟨ds, G1, e1, e2⟩ := argE h
  unfold argD bnd
  rw [e1]
  exact m ds G1 v e1 e2
theorem callN_ok (hr : RecOk T cl rec) (ok : XOk X T cl k r cc) {m : Bool} {f : Str} {as : List Expr} {p pos : Pos} (hg : cc.names.lookup f = some .globalImplicit) (hn : okNm f = true) (hs : noStar as = true) :
    Good X T cl (.Call (.Name f p) as [] pos) (cCallN rec cc m f as) := by
  have hf : ∀ x, Good X T cl x (rec cc false x) := fun x => hr X k r cc ok false x
  obtain ⟨n1, n2, n3⟩ := okNm_at hn
  unfold cCallN
  split
  · rename_i g p1 bs p2
    split
    · rename_i h
      obtain ⟨rfl, hg2, hs2⟩ := h
      split
      · rename_i e
        subst e
        split
        · rename_i a
          have hs1 : isStar a = false := by simpa [noStar] using hs2
          refine good_wi (le_sub (le_lrg1 m ok.calm (ok.gl hg) (ok.blt _ (by decide)) (ok.gl hg2) (ok.blt _ (by decide)) (hf a).pe hs1) fun ς G v h => ?_) rfl rfl
          have e1 : (ev cl (cArgs (rec cc false) [a])).1 = consD (ev cl (rec cc false a)).1 fun _ G => some (.tup [], G) := by
            simp only [cArgs, hs1, Bool.false_eq_true, if_false]; rfl
          rw [e1] at h
          refine bnd_sub (fun ds G1 v _ h => ?_) h
          split at h
          · exact h
          · cases h
        · rename_i a b
          have hs1 : isStar a = false ∧ isStar b = false := by simpa [noStar] using hs2
          refine good_wi (le_sub (le_lrg2 m ok.calm (ok.gl hg) (ok.blt _ (by decide)) (ok.gl hg2) (ok.blt _ (by decide)) (hf a).pe (hf b).pe hs1.1 hs1.2) fun ς G v h => ?_) rfl rfl
          have e1 : (ev cl (cArgs (rec cc false) [a, b])).1 = consD (ev cl (rec cc false a)).1 (consD (ev cl (rec cc false b)).1 fun _ G => some (.tup [], G)) := by
            simp only [cArgs, hs1.1, hs1.2, Bool.false_eq_true, if_false]; rfl
          rw [e1] at h
          refine bnd_sub (fun ds G1 v _ h => ?_) h
          split at h
          · exact h
          · cases h
        · exact good_wi (le_lrg3 m ok.calm (ok.gl hg) (ok.blt _ (by decide)) (ok.gl hg2) (ok.blt _ (by decide)) (args_ok _ hf _) hs2) rfl rfl
        · exact good_bad
      · split
        · rename_i e
          subst e
          split
          · rename_i b
            have hs1 : isStar b = false := by simpa [noStar] using hs2
            exact good_wi (le_lrev m ok.calm (ok.gl hg) (ok.blt _ (by decide)) (ok.gl hg2) (ok.blt _ (by decide)) (hf b).pe hs1) rfl rfl
          · exact good_bad
        · exact callG_ok hr ok hg hn hs
    · exact callG_ok hr ok hg hn hs
  · split
    · rename_i e
      exact gen_ok hr ok hg (.inl ⟨e, rfl⟩)
    · split
      · rename_i e
        exact gen_ok hr ok hg (.inr ⟨e, rfl⟩)
      · exact good_bad
  · split
    · rename_i e
      subst e
      split
      · rename_i c hc
        have e2 := tyOf_nm hc
        subst e2
        split
        · rename_i h
          refine good_wi (le_isi c (ok.gl hg) (ok.blt _ (by decide)) (by decide +kernel) (ok.gl h.1) (ok.blt _ ?_) ?_ (hf _).pe h.2 ?_ ?_) rfl rfl <;> cases c <;> first | decide | decide +kernel
        · exact good_bad
      · exact good_bad
    · exact callG_ok hr ok hg hn hs
  · exact callG_ok hr ok hg hn hs
theorem meth_ok (hr : RecOk T cl rec) (ok : XOk X T cl k r cc) {o : Expr} {name : Str} {apos pos : Pos} {as : List Expr} : Good X T cl (.Call (.Attribute o name apos) as [] pos) (cMeth rec cc o name apos as pos) := by
  have hf : ∀ x, Good X T cl x (rec cc false x) := fun x => hr X k r cc ok false x
  unfold cMeth
  split
  · exact good_bad
  · rename_i b hb
    have e := mthOf_nm hb
    subst e
    split
    · rename_i h
      obtain ⟨h1, h2, h3, h4⟩ := h
      split
      · cases b with
        | append => exact good_wi (le_mth0 (t := .list) PySem.F.plainAttrs_list PySem.F.slot_list_append PySem.F.type_list_append mt_appendD (hf o).pe h1 h2) rfl rfl
        | extend => exact good_wi (le_mth0 (t := .list) PySem.F.plainAttrs_list PySem.F.slot_list_extend PySem.F.type_list_extend mt_extendD (hf o).pe h1 h2) rfl rfl
        | pop => exact good_wi (le_mth0 (t := .list) PySem.F.plainAttrs_list PySem.F.slot_list_pop PySem.F.type_list_pop mt_popD (hf o).pe h1 h2) rfl rfl
        | index => exact good_wi (le_mth0 (t := .list) PySem.F.plainAttrs_list PySem.F.slot_list_index PySem.F.type_list_index (mt_indexM ok.hu) (hf o).pe h1 h2) rfl rfl
        | join => exact good_wi (le_mth0 (t := .str) PySem.F.plainAttrs_str PySem.F.slot_str_join PySem.F.type_str_join mt_joinD (hf o).pe h1 h2) rfl rfl
      · cases b with
        | append => exact good_wi (le_mth (t := .list) PySem.F.plainAttrs_list PySem.F.slot_list_append PySem.F.type_list_append mt_appendD (hf o).pe (args_ok _ hf _) h1 h3 h4 h2) rfl rfl
        | extend => exact good_wi (le_mth (t := .list) PySem.F.plainAttrs_list PySem.F.slot_list_extend PySem.F.type_list_extend mt_extendD (hf o).pe (args_ok _ hf _) h1 h3 h4 h2) rfl rfl
        | pop => exact good_wi (le_mth (t := .list) PySem.F.plainAttrs_list PySem.F.slot_list_pop PySem.F.type_list_pop mt_popD (hf o).pe (args_ok _ hf _) h1 h3 h4 h2) rfl rfl
        | index => exact good_wi (le_mth (t := .list) PySem.F.plainAttrs_list PySem.F.slot_list_index PySem.F.type_list_index (mt_indexM ok.hu) (hf o).pe (args_ok _ hf _) h1 h3 h4 h2) rfl rfl
        | join => exact good_wi (le_mth (t := .str) PySem.F.plainAttrs_str PySem.F.slot_str_join PySem.F.type_str_join mt_joinD (hf o).pe (args_ok _ hf _) h1 h3 h4 h2) rfl rfl
    · exact good_bad
theorem step_ok (hr : RecOk T cl rec) : RecOk T cl (cStep rec) := by
  intro X k r cc ok m x
  have hf : ∀ m x, Good X T cl x (rec cc m x) := fun m x => hr X k r cc ok m x
  unfold cStep
  split
  · exact name_ok ok
  · exact const_ok
  · split
    · rename_i o ho
      have e := bopOf_py ho
      subst e
      split
      · rename_i h
        rw [h.2]
        exact good_wi (le_catM (hf _ _).pe (hf _ _).pe) rfl rfl
      · exact good_wi (le_bin o (hf _ _).pe (hf _ _).pe) rfl rfl
    · exact good_bad
  · exact good_wi (le_neg (hf _ _).pe) rfl rfl
  · exact ⟨le_not (hf _ _).pe, lt_not (hf _ _).pt⟩
  · split
    · rename_i o ho
      have e := copOf_py ho
      subst e
      split
      · exact good_bad
      · rename_i h
        exact ⟨le_cmp ok.hu o (hf _ _).pe (hf _ _).pe (by simpa using h), lt_cmp ok.hu o (hf _ _).pe (hf _ _).pe (by simpa using h)⟩
    · exact good_bad
  · split
    · rename_i o o' ho ho'
      have e := copOf_py ho
      have e' := copOf_py ho'
      subst e e'
      split
      · exact good_bad
      · rename_i h
        exact ⟨le_chain ok.hu o o' (hf _ _).pe (hf _ _).pe (hf _ _).pe (by simpa using h), lt_chain ok.hu o o' (hf _ _).pe (hf _ _).pe (hf _ _).pe (by simpa using h)⟩
    · exact good_bad
  · obtain ⟨h1, h2⟩ := and_ok (T := T) (cl := cl) (rec cc false) (fun x => hf false x) (X := X) _
    exact ⟨h1, h2.pt⟩
  · obtain ⟨h1, h2⟩ := or_ok (T := T) (cl := cl) (rec cc false) (fun x => hf false x) (X := X) _
    exact ⟨h1, h2.pt⟩
  · exact ⟨le_ite (hf _ _).pt (hf _ _).pe (hf _ _).pe, pt_no fun _ _ => rfl⟩
  · exact good_wi (le_tup (args_ok _ (fun x => hf false x) _)) rfl rfl
  · exact good_wi (le_lst m (args_ok _ (fun x => hf false x) _)) rfl rfl
  · exact sub_ok _ (fun x => hf false x) ok rfl
  · split
    · rename_i h
      exact callN_ok hr ok h.1 h.2.1 h.2.2
    · exact good_bad
  · exact meth_ok hr ok
  · exact comp_ok hr ok
  · exact good_bad
theorem cE_ok : ∀ n, RecOk T cl (cE n)
  | 0 => fun _ _ _ _ _ _ _ => good_bad
  | n + 1 => step_ok (cE_ok n)
end
end Mp
set_option Elab.async false
set_option linter.all false
set_option autoImplicit false
set_option maxRecDepth 100000
set_option maxHeartbeats 1000000
/-! Mp, part 16: statements, read and run -/
namespace Mp
open PySem PySem.Spec L2 GxR GxM
open PyProof.Rows hiding St

inductive S where
  | bad | skip | seq (a b : S) | set (i : Nat) (e : E) | tgt (t : Tg) (e : E) | par2 (i j : Nat) (e : E) | par3 (i j l : Nat) (e : E)
  | setIx (o i e : E) | aug (i : Nat) (o : Aop) (e : E) | drop (e : E) | ret (e : E) | retN | brk | cont
  | ife (c : E) (a b : S) | whl (n : Nat) (c : E) (b : S) | for_ (t : Tg) (it : E) (b : S)
section
variable (cl : Nat → List D → Hs → Rs)
def evS : S → FS
  | .bad => fun _ _ => none
  | .skip => skipS
  | .seq a b => seqS (evS a) (evS b)
  | .set i e => setS i (ev cl e).1
  | .tgt t e => tgtS t (ev cl e).1
  | .par2 i j e => par2S i j (ev cl e).1
  | .par3 i j l e => par3S i j l (ev cl e).1
  | .setIx o i e => setIxS (ev cl o).1 (ev cl i).1 (ev cl e).1
  | .aug i o e => augS i o (ev cl e).1
  | .drop e => dropS (ev cl e).1
  | .ret e => retS (ev cl e).1
  | .retN => fun _ G => some (.rt .non G)
  | .brk => fun ς G => some (.bk ς G)
  | .cont => fun ς G => some (.ct ς G)
  | .ife c a b => ifS (ev cl c).2 (evS a) (evS b)
  | .whl n c b => loopW (ev cl c).2 (evS b) n
  | .for_ t it b => forS t (ev cl it).1 (evS b)
end
def stoB (cc : CC) (y : Str) : Bool := decide (cc.names.lookup y = some .local ∨ (cc.names.lookup y = some .cell ∧ y ∈ cc.cells))
def aopOf : Operator → Option Aop
  | .Add => some .add | .Sub => some .sub | .Mult => some .mul
  | _ => none
theorem aopOf_py {op : Operator} {o : Aop} (h : aopOf op = some o) : o.py = op := by
  cases op <;> simp only [aopOf] at h <;> first | (cases h; rfl) | (cases h)
def fE : Nat := 30
def isLC : Expr → Bool
  | .ListComp .. => true
  | _ => false
def isMut (cc : CC) (y : Str) : Bool := match ixOf cc.N y with | some i => cc.muts.contains i | none => false
/-- name = e -/
def cSet (cc : CC) (y : Str) (py : Pos) (e : Expr) (pos : Pos) : S :=
  match ixOf cc.N y with
  | none => .bad
  | some i => if stoB cc y = true then
      (match e with
        | .ListComp elt [⟨tg, it, ifs, 0⟩] scope p =>
          if swapC cc.names scope y py.line p.line = true then (if cc.names.lookup y = some .local then .set i (cComp (cE fE) cc (isMut cc y) elt tg it ifs scope) else .bad)
          else .set i (cComp (cE fE) cc (isMut cc y) elt tg it ifs scope)
        | e => if isComp e = true then .bad else .set i (cE fE cc (isMut cc y) e))
    else .bad
/-- a, b = x, y: the stores from the right -/
def cPar (cc : CC) (ts vs : List Expr) : Option S := match ts, vs with
  | [.Name y py, .Name z pz], [a, b] =>
    (match ixOf cc.N y, ixOf cc.N z with
      | some i, some j => if cc.names.lookup y = some .local ∧ cc.names.lookup z = some .local ∧ py.line = pz.line ∧ y ≠ z ∧ i ≠ j ∧ isStar a = false ∧ isStar b = false ∧ [a, b].all (foldedForSure 8) = false ∧ [a, b].all (constantsAlone 8) = false then
          some (.par2 i j (.cons (cE fE cc (isMut cc y) a) (.cons (cE fE cc (isMut cc z) b) .nil))) else none
      | _, _ => none)
  | [.Name y py, .Name z pz, .Name u pu], [a, b, c] =>
    (match ixOf cc.N y, ixOf cc.N z, ixOf cc.N u with
      | some i, some j, some l => if cc.names.lookup y = some .local ∧ cc.names.lookup z = some .local ∧ cc.names.lookup u = some .local ∧ py.line = pz.line ∧ py.line = pu.line ∧ y ≠ z ∧ y ≠ u ∧ z ≠ u ∧ i ≠ j ∧ i ≠ l ∧ j ≠ l ∧ isStar a = false ∧ isStar b = false ∧ isStar c = false ∧
            [a, b, c].all (foldedForSure 8) = false ∧ [a, b, c].all (constantsAlone 8) = false then
          some (.par3 i j l (.cons (cE fE cc (isMut cc y) a) (.cons (cE fE cc (isMut cc z) b) (.cons (cE fE cc (isMut cc u) c) .nil)))) else none
      | _, _, _ => none)
  | _, _ => none
def isTup (x : Expr) : Bool := match x with | .Tuple .. => true | _ => false
/-- by its targets: is the thing for a slot that is written -/
def tupM (cc : CC) (f : Bool → Expr → E) : List Expr → List Expr → E
  | .Name y _ :: ts, v :: vs => if isStar v = true then .bad else .cons (f (isMut cc y) v) (tupM cc f ts vs)
  | _ :: ts, v :: vs => if isStar v = true then .bad else .cons (f false v) (tupM cc f ts vs)
  | _, [] => .nil
  | [], v :: vs => if isStar v = true then .bad else .cons (f false v) (tupM cc f [] vs)
def cTup (cc : CC) (ts : List Expr) (k : Nat) (p : Pos) (e : Expr) : S :=
  match e with
  | .Tuple vs _ _ => match cPar cc ts vs with
    | some s => s
    | none => if vs.all (foldedForSure 8) = true ∨ ts.any (fun t => !localT cc.names t) = true then
        (match cTg cc 4 (.Tuple ts k p) with | some t => .tgt t (.tup (tupM cc (cE fE cc) ts vs)) | none => .bad) else .bad
  | e => if isComp e = true then .bad else match cTg cc 4 (.Tuple ts k p) with | some t => .tgt t (cE fE cc false e) | none => .bad
def cS (cc : CC) : Nat → Stmt → S
  | 0, _ => .bad
  | n + 1, st => match st with
    | .Pass _ => .skip
    | .Break _ => .brk
    | .Continue _ => .cont
    | .Expr (.Constant (.str _) _ _) _ => .skip
    | .Expr e _ => if isComp e = true then .bad else .drop (cE fE cc false e)
    | .Return none _ => .retN
    | .Return (some e) _ => (match e with
        | .Name y p => if isMut cc y = true ∧ cc.retM = false ∧ okNm y = true ∧ visK (cc.names.lookup y) = true then (match ixOf cc.N y with | some i => .ret (.frz i) | none => .bad) else .ret (cE fE cc cc.retM (.Name y p))
        | e => .ret (cE fE cc cc.retM e))
    | .Assign [.Name y py] e pos => cSet cc y py e pos
    | .Assign [.Tuple ts k p] e _ => cTup cc ts k p e
    | .Assign [.Subscript o i _] e _ => if isComp e = true ∨ plainIxB i = false then .bad else .setIx (cE fE cc false o) (cE fE cc false i) (cE fE cc false e)
    | .AugAssign (.Name y _) op e _ => (match aopOf op, ixOf cc.N y with | some o, some i => if stoB cc y = true then .aug i o (cE fE cc false e) else .bad | _, _ => .bad)
    | .If c a b _ => .ife (cE fE cc false c) (a.foldr (fun s r => .seq (cS cc n s) r) .skip) (b.foldr (fun s r => .seq (cS cc n s) r) .skip)
    | .While c a [] _ => .whl 100000 (cE fE cc false c) (a.foldr (fun s r => .seq (cS cc n s) r) .skip)
    | .For tg it a [] _ => (match cTg cc 4 tg with | some t => if notSet it = true then .for_ t (cIter (cE fE) cc tg it) (a.foldr (fun s r => .seq (cS cc n s) r) .skip) else .bad | none => .bad)
    | _ => .bad
def cB (cc : CC) (n : Nat) (l : List Stmt) : S := l.foldr (fun s r => .seq (cS cc n s) r) .skip

variable {T : List Addr} {cl : Nat → List D → Hs → Rs} {X : Cx} {k r : Nat} {cc : CC}
theorem stoB_at (ok : XOk X T cl k r cc) {y : Str} (h : stoB cc y = true) : L2.Loc X.env.scope y ∧ (X.fn y = true ∨ X.env.scope.names.lookup y = some .local) := by
  have h := of_decide_eq_true h
  unfold L2.Loc
  rw [ok.look]
  exact ⟨h.imp id fun q => q.1, h.elim .inr fun q => .inl (ok.cells _ q.2)⟩
theorem set_ok (ok : XOk X T cl k r cc) {y : Str} {py : Pos} {e : Expr} {pos : Pos} : PS X (.Assign [.Name y py] e pos) (LS X.K T (evS cl (cSet cc y py e pos))) := by
  have hr := cE_ok (T := T) (cl := cl) fE
  have hf : ∀ m x, Good X T cl x (cE fE cc m x) := fun m x => hr X k r cc ok m x
  unfold cSet
  split
  · exact ls_bad
  · rename_i i hi
    have hN : X.N[i]? = some y := by rw [ok.N]; exact ixOf_get hi
    split
    · rename_i hs
      obtain ⟨l1, l2⟩ := stoB_at ok hs
      split
      · rename_i elt tg it ifs scope p
        have hsw := swaps_lc (elt := elt) (gs := [⟨tg, it, ifs, 0⟩]) (scope := scope) (pos := p) (py := py) (y := y) (line := pos.line) (env := X.env) (names := cc.names) ok.kind ok.names
        split
        · rename_i hc
          rw [hc] at hsw
          split
          · rename_i hl
            rcases comp_at (rec := cE fE) (cc := cc) (m := isMut cc y) (elt := elt) (tg := tg) (it := it) (ifs := ifs) (scope := scope) with h | ⟨t, ht, hb, hs', hix, h⟩
            · rw [h]; exact ls_bad.imp fun D σ H ⟨ι, F, ς, G, R, S, q⟩ => ⟨ι, F, ς, G, R, S, q⟩
            · rw [h]
              have blk : BlkOk X.N X.env.scope scope (ownOf cc.N scope.names) := by rw [ok.N]; exact blkB_ok (by rw [ok.names]; exact hb)
              exact ls_setLc (isMut cc y) ok.calm ok.nd hN (by rw [ok.look]; exact hl) hsw (iter_ok hr ok) blk (fun s H C cs fp => tg_ok (xok_comp ok hb s H C cs fp).tok 4 ht) (fun s H C cs fp => ifs_ok _ (fun x => hr _ k r _ (xok_comp ok hb s H C cs fp) false x) ifs)
                (fun s H C cs fp => (hr _ k r _ (xok_comp ok hb s H C cs fp) false elt).pe) (notSet_ok hs') hix
          · exact ls_bad
        · rename_i hc
          rw [show swapC cc.names scope y py.line p.line = false by simpa using hc] at hsw
          exact ls_set ok.nd hN l1 (comp_ok hr ok).pe hsw l2
      · split
        · exact ls_bad
        · rename_i hc
          exact ls_set ok.nd hN l1 (hf _ _).pe (swaps_no (by simpa using hc)) l2
    · exact ls_bad
theorem tupM_ok (ok : XOk X T cl k r cc) {f : Bool → Expr → E} (hf : ∀ m x, Good X T cl x (f m x)) : ∀ (ts vs : List Expr), PA X vs (LA X.K T (ev cl (tupM cc f ts vs)).1)
  | ts, [] => by
    have : tupM cc f ts [] = .nil := by cases ts with | nil => rfl | cons t r => cases t <;> rfl
    rw [this]; exact la_nil
  | [], v :: vs => by
    unfold tupM
    split
    · exact pa_no fun _ _ => rfl
    · rename_i h
      exact la_cons (hf _ v).pe (tupM_ok ok hf [] vs) (star_1 (by simpa using h))
  | t :: ts, v :: vs => by
    have ih := tupM_ok ok hf ts vs
    unfold tupM
    split
    · rename_i h0 h1
      split
      · exact pa_no fun _ _ => rfl
      · rename_i h
        cases h0; cases h1
        exact la_cons (hf _ v).pe ih (star_1 (by simpa using h))
    · rename_i h0 h1
      split
      · exact pa_no fun _ _ => rfl
      · rename_i h
        cases h0; cases h1
        exact la_cons (hf _ v).pe ih (star_1 (by simpa using h))
    · rename_i h1; cases h1
    · rename_i h0 h1; cases h0
theorem sole_no {t x : Expr} {line : Nat} {env : Env} (h : isComp x = false) : swapsWithSole [t] x line env = pure false := swaps_no h
theorem par_ok (ok : XOk X T cl k r cc) {ts vs : List Expr} {s : S} {kt k2 : Nat} {pt pt2 pos : Pos} (h : cPar cc ts vs = some s) : PS X (.Assign [.Tuple ts kt pt] (.Tuple vs k2 pt2) pos) (LS X.K T (evS cl s)) := by
  have hf : ∀ m x, Good X T cl x (cE fE cc m x) := fun m x => cE_ok fE X k r cc ok m x
  unfold cPar at h
  split at h
  · split at h
    · rename_i i j hi hj
      split at h
      · rename_i hc
        cases h
        obtain ⟨c1, c2, c3, c4, c5, c6, c7, c8, c9⟩ := hc
        exact ls_par2 ok.calm ok.nd (by rw [ok.N]; exact ixOf_get hi) (by rw [ok.N]; exact ixOf_get hj) c5 (by rw [ok.look]; exact c1) (by rw [ok.look]; exact c2)
          (la_cons (hf _ _).pe (la_cons (hf _ _).pe la_nil (star_1 c7)) (star_1 c6)) (swapped_2 ok.kind (by rw [ok.names]; exact c1) (by rw [ok.names]; exact c2) c3 c4 c6 c7 c8 c9)
      · cases h
    · cases h
  · split at h
    · rename_i i j l hi hj hl
      split at h
      · rename_i hc
        cases h
        obtain ⟨c1, c2, c3, c4, c5, c6, c7, c8, c9, c10, c11, c12, c13, c14, c15, c16⟩ := hc
        exact ls_par3 ok.calm ok.nd (by rw [ok.N]; exact ixOf_get hi) (by rw [ok.N]; exact ixOf_get hj) (by rw [ok.N]; exact ixOf_get hl) c9 c10 c11 (by rw [ok.look]; exact c1) (by rw [ok.look]; exact c2) (by rw [ok.look]; exact c3)
          (la_cons (hf _ _).pe (la_cons (hf _ _).pe (la_cons (hf _ _).pe la_nil (star_1 c14)) (star_1 c13)) (star_1 c12)) (swapped_3 ok.kind (by rw [ok.names]; exact c1) (by rw [ok.names]; exact c2) (by rw [ok.names]; exact c3) c4 c5 c6 c7 c8 c12 c13 c14 c15 c16)
      · cases h
    · cases h
  · cases h
theorem tup_ok (ok : XOk X T cl k r cc) {ts : List Expr} {kt : Nat} {p pos : Pos} {e : Expr} : PS X (.Assign [.Tuple ts kt p] e pos) (LS X.K T (evS cl (cTup cc ts kt p e))) := by
  have hf : ∀ m x, Good X T cl x (cE fE cc m x) := fun m x => cE_ok fE X k r cc ok m x
  unfold cTup
  split
  · split
    · rename_i s hs
      exact par_ok ok hs
    · split
      · rename_i hc
        split
        · rename_i t ht
          refine ls_tgt (le_tup (tupM_ok ok hf _ _)) (tg_ok ok.tok 4 ht) (sole_no rfl) ?_ rfl
          rcases hc with hc | hc
          · exact swapped_const hc
          · exact swapped_left ok.names hc
        · exact ls_bad
      · exact ls_bad
  · rename_i hne
    split
    · exact ls_bad
    · rename_i hc
      have hc : isComp e = false := by simpa using hc
      split
      · rename_i t ht
        refine ls_tgt (hf _ _).pe (tg_ok ok.tok 4 ht) (sole_no hc) (swapped_no ?_) rfl
        cases e <;> first | rfl | exact absurd rfl (hne _ _ _)
      · exact ls_bad
theorem blk_ok {f : Stmt → S} (hf : ∀ st, PS X st (LS X.K T (evS cl (f st)))) : ∀ l : List Stmt, PSs X l (LS X.K T (evS cl (l.foldr (fun s r => .seq (f s) r) .skip)))
  | [] => ls_nil
  | s :: l => ls_cons (hf s) (blk_ok hf l)
theorem cS_ok (ok : XOk X T cl k r cc) (hp : PassesOwn (model X.prog X.w) X.A X.env X.xe) : ∀ (n : Nat) (st : Stmt), PS X st (LS X.K T (evS cl (cS cc n st)))
  | 0, _ => ls_bad
  | n + 1, st => by
    have hr := cE_ok (T := T) (cl := cl) fE
    have hf : ∀ m x, Good X T cl x (cE fE cc m x) := fun m x => hr X k r cc ok m x
    have hb : ∀ l : List Stmt, PSs X l (LS X.K T (evS cl (l.foldr (fun s r => .seq (cS cc n s) r) .skip))) := blk_ok fun st => cS_ok ok hp n st
    unfold cS
    split
    · exact ls_pass
    · exact ls_break
    · exact ls_cont
    · exact ls_doc
    · split
      · exact ls_bad
      · rename_i h
        exact ls_expr (hf _ _).pe (swaps_no (by simpa using h))
    · exact ls_retN
    · split
      · split
        · rename_i h
          obtain ⟨h1, h2, h3, h4⟩ := h
          obtain ⟨n1, n2, n3⟩ := okNm_at h3
          split
          · rename_i i hi
            exact ls_ret (le_frz (by rw [ok.N]; exact ixOf_get hi) (ok.vis h4) n1 n2)
          · exact ls_bad
        · exact ls_ret (hf _ _).pe
      · exact ls_ret (hf _ _).pe
    · exact set_ok ok
    · exact tup_ok ok
    · split
      · exact ls_bad
      · rename_i h
        rw [not_or] at h
        have hc := h.1
        have hi := h.2
        rename_i oE iE _ eE _
        have hi : plainIxB iE = true := by simpa using hi
        refine ls_setIx ok.hu (hf _ _).pe (hf _ _).pe (hf _ _).pe (fun v => ?_) (sole_no (by simpa using hc))
        cases iE <;> first | rfl | (cases hi)
    · split
      · rename_i o i ho hi
        have e := aopOf_py ho
        subst e
        split
        · rename_i hs
          obtain ⟨l1, l2⟩ := stoB_at ok hs
          exact ls_aug o ok.nd (by rw [ok.N]; exact ixOf_get hi) l1 (hf _ _).pe l2
        · exact ls_bad
      · exact ls_bad
    · exact ls_if (hf _ _).pt (hb _) (hb _)
    · exact ls_while _ hp (hf _ _).pt (hb _)
    · split
      · rename_i t ht
        split
        · rename_i hs
          exact ls_for hp ok.calm (iter_ok hr ok) (tg_ok ok.tok 4 ht) (hb _) (notSet_ok hs)
        · exact ls_bad
      · exact ls_bad
    · exact ls_bad
theorem cB_ok (ok : XOk X T cl k r cc) (hp : PassesOwn (model X.prog X.w) X.A X.env X.xe) (n : Nat) (l : List Stmt) : PSs X l (LS X.K T (evS cl (cB cc n l))) := blk_ok (fun st => cS_ok ok hp n st) l
end Mp
set_option Elab.async false
set_option linter.all false
set_option autoImplicit false
set_option maxRecDepth 100000
set_option maxHeartbeats 1000000
/-! Mp, part 17: defs and their calls -/
namespace Mp
open PySem PySem.Spec L2 GxR GxM
open PyProof.Rows hiding St

/-- a def: its name, its text, its slots (the parameters first), how many parameters, the slots whose lists are written, does it hand out such a list, has it generator expressions -/
structure Def where
  name : Str
  st : Stmt
  N : List Str
  np : Nat
  muts : List Nat := []
  retM : Bool := false
  tab : Bool := false
def Def.ps (d : Def) : List Str := d.N.take d.np
def funsOf (ds : List Def) : List (Str × Nat × Nat) := ds.zipIdx.map fun q => (q.1.name, q.2, q.1.np)
def ccOf (consts : List (Str × D)) (ds : List Def) (d : Def) : CC :=
  { N := d.N, names := (defScope d.st).names, cells := cellsOf (defScope d.st).names, consts := consts, funs := funsOf ds, muts := d.muts, retM := d.retM, tab := d.tab }
abbrev Tb := Nat → Option (Nat × Nat × S)
def tbOf (consts : List (Str × D)) (ds : List Def) : Tb := fun j => (ds[j]?).map fun d => (d.np, d.N.length, cB (ccOf consts ds d) 20 (defBody d.st))
def outD : Res → Rs
  | .rt d G => some (d, G)
  | .nx _ G => some (.non, G)
  | _ => none
def callF (tb : Tb) : Nat → Nat → List D → Hs → Rs
  | 0, _, _, _ => none
  | n + 1, f, ds, G => (tb f).bind fun q => if ds.length = q.1 then (evS (callF tb n) q.2.2 (ds.map some ++ List.replicate (q.2.1 - q.1) none) G).bind outD else none

/-- what is known of a def's text -/
structure DefOk (d : Def) : Prop where
  sc : FnScope d.N d.ps (defScope d.st)
  np : d.np ≤ d.N.length
  bind : ∀ (kV doc pm : Value) (an : Option Addr) (cdv ct : Value) (us : List Value), us.length = d.ps.length →
    bindArgs (PySem.W.fnOf d.name d.name (defArgs d.st) (defBody d.st) (defScope d.st) .none kV doc pm an cdv ct) ⟨us, []⟩ = pure (d.ps.zip us)
structure PF (K : PySem.W.Frag) (mg : Str → Option Value) (base : Heap) (T : List Addr) (consts : List (Str × D)) (ds : List Def) (fa : Def → Addr) (fdF : Def → FuncData) : Prop where
  fn : ∀ d ∈ ds, FunD K d.name d.name (defArgs d.st) (defBody d.st) (defScope d.st) [] [] (fa d) (fdF d) ∧ mg d.name = some (.ref (fa d)) ∧ (d.tab = true → ∃ c P, (fdF d).code = .ref c ∧ P ∈ T ∧ TabB base mg c P)
  blt : ∀ x ∈ usedB, mg x = none
  consts : ∀ p ∈ consts, ∃ u v, mg p.1 = some u ∧ RelV v u ∧ CV p.2 v

variable {P : Program} {w : World} {K : PySem.W.Frag} {mg : Str → Option Value} {base : Heap} {T : List Addr} {consts : List (Str × D)} {ds : List Def}
theorem rs_start {w' : Wd} : ∀ {as : List D} {vs : List V}, RVs K w' as vs → ∀ n, RS K w' (as.map some ++ List.replicate n none) (vs.map some ++ List.replicate n none) := by
  intro as vs r n
  refine ⟨by simp [r.len], fun i d e => ?_⟩
  by_cases hi : i < as.length
  · rw [List.getElem?_append_left (by simpa using hi), List.getElem?_map] at e
    cases ea : as[i]? with
    | none => rw [ea] at e; cases e
    | some a =>
      rw [ea] at e
      have e : some (some a) = some (some d) := e
      cases e
      obtain ⟨v, ev, rv⟩ := r.get ea
      refine ⟨v, ?_, rv⟩
      rw [List.getElem?_append_left (by rw [List.length_map, ← r.len]; exact hi), List.getElem?_map, ev]; rfl
  · rw [List.getElem?_append_right (by simpa using hi), List.getElem?_replicate] at e
    split at e
    · cases e
    · cases e
theorem fns_ok {fa : Def → Addr} {fdF : Def → FuncData} (F : PF K mg base T consts ds fa fdF) (hd : ∀ d ∈ ds, DefOk d) : ∀ (n j : Nat) d, ds[j]? = some d → FnOk P w K mg base CX0 (3 * n) (fa d) (fdF d) d.ps (spD K T d.np (callF (tbOf consts ds) n j)) ∧ mg d.name = some (.ref (fa d)) ∧ PySem.W.keepIn K (.ref (fa d)) = true ∧ Binds K (fdF d) d.ps []
  | n, j, d, hj => by
    obtain ⟨FD, hm, htab⟩ := F.fn d (List.mem_of_getElem? hj)
    have dok := hd d (List.mem_of_getElem? hj)
    generalize fa d = f at *
    generalize fdF d = fd at *
    have hps : d.ps.length = d.np := by unfold Def.ps; rw [List.length_take]; exact Nat.min_eq_left dok.np
    have hb : Binds K fd d.ps [] := FD.bindsN dok.bind
    have hk := FD.kp
    obtain ⟨oc, od, dV, kV, doc, pm, an, cdv, ct, osl, rfl, lk, hcd, hD, hK⟩ := FD.ex
    refine ⟨?_, hm, hk, hb⟩
    cases n with
    | zero =>
      refine ⟨fun vs H Q E h => by rw [hps]; exact h.1, fun A outer s H args us vs Q E hr he hbd hv h => ?_⟩
      obtain ⟨_, ι, Fz, G, as, R, r, q⟩ := h
      exact q.no
    | succ n =>
      show FnOk P w K mg base CX0 (3 * n + 2 + 1) _ _ _ _
      refine fn_of lk hcd dok.sc (fun vs H Q E h => by rw [hps]; exact h.1) fun A outer s H vs Q E hr hsp => ?_
      obtain ⟨hl, ι, Fz, G, as, R, r, q⟩ := hsp
      have ok : XOk (cxOf CX0 P w K mg base d.N d.name (defScope d.st) f cdv A outer s H E).nox T (callF (tbOf consts ds) n) (3 * n) (3 * n + 2) (ccOf consts ds d) :=
        { N := rfl, nd := dok.sc.nd, names := rfl, kind := dok.sc.kind, calm := rfl, room := hr, le := Nat.le_add_right _ _, cells := fun _ _ => rfl, blt := F.blt, consts := F.consts
          funs := fun p hp => by
            obtain ⟨q, hq, rfl⟩ := List.mem_map.mp hp
            obtain ⟨e, i⟩ := q
            have hq' := List.mem_zipIdx_iff_getElem?.mp hq
            obtain ⟨F1, F2, F3, F4⟩ := fns_ok F hd n i e hq'
            exact ⟨_, _, e.ps, F1, F2, F3, F4⟩
          tab := fun ht => by
            obtain ⟨c, Pz, e1, e2, e3⟩ := htab ht
            exact ⟨Nat.le_refl _, c, Pz, e3, e1, e2⟩ }
      refine ⟨_, (cB_ok ok PassesOwn.never 20 (defBody d.st)).nox, ι, Fz, as.map some ++ List.replicate (d.N.length - d.np) none, G, R, ?_, ?_⟩
      · have := rs_start r (d.N.length - d.np)
        rw [show L2.start d.N vs = vs.map some ++ List.replicate (d.N.length - d.np) none from by unfold L2.start; rw [hl]]
        exact this
      · have e1 : tbOf consts ds j = some (d.np, d.N.length, cB (ccOf consts ds d) 20 (defBody d.st)) := by unfold tbOf; rw [hj]; rfl
        have q : Lift K T ⟨ι, Fz, H⟩ (callF (tbOf consts ds) (n + 1) j as G) Q := q
        have hal : as.length = d.np := by rw [r.len]; exact hl
        simp only [callF, e1, Option.bind_some, hal, if_true] at q
        cases eo : evS (callF (tbOf consts ds) n) (cB (ccOf consts ds d) 20 (defBody d.st)) (as.map some ++ List.replicate (d.N.length - d.np) none) G with
        | none => rw [eo] at q; exact q.no
        | some o =>
          rw [eo] at q
          refine ⟨o, rfl, ?_⟩
          cases o with
          | nx ς' G' => exact fun w' σ' x R' S' => q.to x R' rfl
          | rt dr G' => exact fun w' v x R' r' => q.to x R' r'
          | bk ς' G' => exact q.no
          | ct ς' G' => exact q.no
end Mp
set_option Elab.async false
set_option linter.all false
set_option autoImplicit false
set_option maxRecDepth 100000
set_option maxHeartbeats 1000000
/-! Mp, part 18: the end: a law's def, from what the head tells -/
namespace Mp
open PySem PySem.Spec L2 GxR GxM
open PyProof.Rows hiding St

def fnD (d : Def) : He.DefD := ⟨(d.name, none), d.name, d.name, defArgs d.st, defBody d.st, defScope d.st, [], []⟩
def faC : Str × D → He.Fa
  | (x, .int i) => .int x i
  | (x, .str cs) => .str x ⟨cs.toArray⟩
  | (x, _) => .free x
def faOf (consts : List (Str × D)) (ds : List Def) : List He.Fa := ds.map (fun d => .glo d.name) ++ (usedB.map .free ++ consts.map faC)
def tfOf (ds : List Def) : List He.Defn := (ds.filter (·.tab)).map fun d => (d.name, none)
/-- the constants are ints and texts -/
def cOk (consts : List (Str × D)) : Bool := consts.all fun p => match p.2 with | .int _ => true | .str _ => true | _ => false

variable {K : PySem.W.Frag} {mg : Str → Option Value} {consts : List (Str × D)} {ds : List Def} {w : World} {h : Heap}
theorem faC_ok (X : K.In h) (G : h.Ns mainGlobals mg) {p : Str × D} (hc : (match p.2 with | .int _ => true | .str _ => true | _ => false) = true) (c : (faC p).ok K = true) : ∃ u v, mg p.1 = some u ∧ RelV v u ∧ CV p.2 v := by
  obtain ⟨x, d⟩ := p
  cases d with
  | int i => obtain ⟨t, e⟩ := He.int_ok X G c; exact ⟨_, .int i, e, ⟨t, rfl⟩, .int i⟩
  | str cs => obtain ⟨t, e⟩ := He.str_ok X G c; exact ⟨_, .str ⟨cs.toArray⟩, e, ⟨t, rfl⟩, .str cs⟩
  | _ => cases hc
theorem intsRv {w' : Wd} : ∀ l : List Int, RVs K w' (l.map D.int) (l.map V.int)
  | [] => rfl
  | x :: r => ⟨_, _, rfl, rfl, intsRv r⟩
theorem law_end {l : PySem.W.OpenLaw} {fa : Addr} {ex : PySem.W.Frag → Bool} {jl : Nat} {dl : Def} {x : Str} {n0 : Nat} (hj : ds[jl]? = some dl) (hps : dl.ps = [x]) (hnp : dl.np = 1)
    (X : K.In h) (G : h.Ns mainGlobals mg) (hfa : mg dl.name = some (.ref fa)) (c : He.SaysX (faOf consts ds) (ds.map fnD) [] (tfOf ds) ex w h K) (hc : cOk consts = true) (hd : ∀ d ∈ ds, DefOk d)
    (hrun : ∀ mk : List D → D, (mk = .lst ∨ mk = .fz) → ∀ ns : List Int, ns.length ≤ 63 → (∀ z ∈ ns, Builtin.Int.intBits z ≤ 1048576) → ∃ G', callF (tbOf consts ds) n0 jl [mk (ns.map .int)] [] = some (.bl true, G')) :
    LamX.LawAtS l w K CX0 (3 * n0) 63 x mg fa h := by
  have cd : He.SaysD (faOf consts ds) (ds.map fnD) K := c.t.d
  have mem : dl ∈ ds := List.mem_of_getElem? hj
  have each : ∀ d : Def, d ∈ ds → ∃ fd, FunD K d.name d.name (defArgs d.st) (defBody d.st) (defScope d.st) [] [] (He.ga K d.name) fd := fun d hm => cd.defs (d := fnD d) (List.mem_map.mpr ⟨d, hm, rfl⟩)
  obtain ⟨fdl, _⟩ := each dl mem
  have each' : ∀ d : Def, ∃ fd, d ∈ ds → FunD K d.name d.name (defArgs d.st) (defBody d.st) (defScope d.st) [] [] (He.ga K d.name) fd := fun d => by
    by_cases hm : d ∈ ds
    · obtain ⟨fd, q⟩ := each d hm; exact ⟨fd, fun _ => q⟩
    · exact ⟨fdl, fun q => absurd q hm⟩
  obtain ⟨fdF, hF⟩ := Classical.axiomOfChoice each'
  have glo : ∀ {h' : Heap}, K.In h' → h'.Ns mainGlobals mg → ∀ d ∈ ds, mg d.name = some (.ref (He.ga K d.name)) := fun X' G' d hm => He.glo_ok X' G' (cd.facts (f := .glo d.name) (List.mem_append_left _ (List.mem_map.mpr ⟨d, hm, rfl⟩)))
  have efa : fa = He.ga K dl.name := by
    have e := glo X G dl mem
    rw [hfa] at e; cases e; rfl
  have dok := hd dl mem
  have bindl := FunD.bindsA (ps := dl.ps) (hF dl mem) dok.bind
  refine ⟨fdF dl, (tfOf ds).map (He.cT K), spD K (((tfOf ds).map (He.cT K)).map (·.2)) 1 (callF (tbOf consts ds) n0 jl), ?_, ?_, ?_, ?_, ?_, ?_⟩
  · intro p hp
    obtain ⟨q, hq, rfl⟩ := List.mem_map.mp hp
    exact c.empty q hq
  · intro p hp
    obtain ⟨q, hq, rfl⟩ := List.mem_map.mp hp
    exact c.out q hq
  · intro p hp
    obtain ⟨q, hq, rfl⟩ := List.mem_map.mp hp
    exact PySem.W.codeHd_of_K X (c.hd q hq)
  · intro s u
    have := bindl s [u] (by rw [hps]; rfl)
    rw [hps] at this
    exact this
  · intro H a ns hlen hbits hT hS
    have tabs : ∀ P ∈ ((tfOf ds).map (He.cT K)).map (·.2), TabG H P := fun P hP => by
      obtain ⟨p, hp, rfl⟩ := List.mem_map.mp hP
      exact ⟨#[], hT p hp, trivial⟩
    have rvs : ∀ (w' : Wd) (l : List Int), RVs K w' (l.map .int) (l.map V.int) := fun w' l => intsRv l
    refine ⟨rfl, ?_⟩
    rcases hS with (hS | ⟨o, hS⟩) | hS
    · obtain ⟨G', e⟩ := hrun .lst (.inl rfl) ns hlen hbits
      refine ⟨[], fun b => b = a, [], [.lst (ns.map .int)], ⟨rfl, .nil, fun n c b e => by simp at e, fun b hb => by rw [hb]; show H a ≠ none; rw [hS]; simp, fun b hb => absurd hb List.not_mem_nil, tabs⟩, ⟨_, [], rfl, ⟨a, _, rfl, ⟨rfl, hS⟩, rvs _ _⟩, rfl⟩, .bl true, G', e, fun w' v x R r => r⟩
    · obtain ⟨G', e⟩ := hrun .fz (.inr rfl) ns hlen hbits
      refine ⟨[], fun _ => False, [], [.fz (ns.map .int)], ⟨rfl, .nil, fun n c b e => by simp at e, fun b hb => hb.elim, fun b hb => absurd hb List.not_mem_nil, tabs⟩, ⟨_, [], rfl, ⟨a, _, rfl, .inl ⟨o, hS⟩, rvs _ _⟩, rfl⟩, .bl true, G', e, fun w' v x R r => r⟩
    · obtain ⟨G', e⟩ := hrun .fz (.inr rfl) ns hlen hbits
      refine ⟨[], fun _ => False, [], [.fz (ns.map .int)], ⟨rfl, .nil, fun n c b e => by simp at e, fun b hb => hb.elim, fun b hb => absurd hb List.not_mem_nil, tabs⟩, ⟨_, [], rfl, ⟨a, _, rfl, .inr hS, rvs _ _⟩, rfl⟩, .bl true, G', e, fun w' v x R r => r⟩
  · intro base KB GB TB
    have F : PF K mg base (((tfOf ds).map (He.cT K)).map (·.2)) consts ds (fun d => He.ga K d.name) fdF := by
      refine ⟨fun d hm => ⟨hF d hm, glo KB GB d hm, fun ht => ?_⟩, fun y hy => ?_, fun p hp => ?_⟩
      · have hq : ((d.name, none) : He.Defn) ∈ tfOf ds := List.mem_map.mpr ⟨d, List.mem_filter.mpr ⟨hm, ht⟩, rfl⟩
        obtain ⟨oc, od, dV, kV, doc, pm, an, cdv, ct, osl, efd, lk, hcd, _, _⟩ := (hF d hm).ex
        obtain ⟨cc, rfl⟩ := He.codeIn_ref hcd
        have e1 : He.codeOf K (d.name, none) = cc := He.codeOf_eq (p := (d.name, none)) lk (by rw [efd])
        have hm2 : He.cT K (d.name, none) ∈ (tfOf ds).map (He.cT K) := List.mem_map.mpr ⟨_, hq, rfl⟩
        have tb := TB _ hm2
        refine ⟨cc, (He.cT K (d.name, none)).2, by rw [efd], List.mem_map.mpr ⟨_, hm2, rfl⟩, ?_⟩
        have e2 : (He.cT K (d.name, none)).1 = cc := e1
        rw [e2] at tb
        exact ⟨tb.1, tb.2, tb.3⟩
      · exact He.free_ok KB GB (cd.facts (f := .free y) (List.mem_append_right _ (List.mem_append_left _ (List.mem_map.mpr ⟨y, hy, rfl⟩))))
      · refine faC_ok KB GB ?_ (cd.facts (f := faC p) (List.mem_append_right _ (List.mem_append_right _ (List.mem_map.mpr ⟨p, hp, rfl⟩))))
        exact List.all_eq_true.mp hc p hp
    obtain ⟨F1, _⟩ := fns_ok (P := l.prog) (w := w) F hd n0 jl dl hj
    rw [hps, hnp] at F1
    rw [efa]
    exact F1
end Mp
set_option Elab.async false
set_option linter.all false
set_option autoImplicit false
set_option maxRecDepth 100000
set_option maxHeartbeats 0
namespace K01
open PySem PySem.Spec L2 Mp
open PyProof.Rows hiding St
def topS (i : Nat) : Stmt := PySem.Challenge.pw_editsagree_k01_whole_signs_that_keep_the.main.body.getD i (.Pass ⟨0, 0, 0, 0⟩)
def consts : List (Str × D) := [("MOST_SIGNS", .int 2000), ("MOST_EDITS", .int 200), ("FIRST_SIGN", .str [32]), ("LAST_SIGN", .str [126]), ("LINE_END", .str [10]), ("LEFT", .str [108, 101, 102, 116]), ("MOST_CELLS", .int 60000)]
def d0 : Def := { name := "is_number", st := topS 5, N := ["value", "least", "most"], np := 3 }
def d1 : Def := { name := "is_signs", st := topS 12, N := ["value", "sign"], np := 1, tab := true }
def d2 : Def := { name := "is_text", st := topS 13, N := ["value"], np := 1 }
def d3 : Def := { name := "is_change", st := topS 14, N := ["text", "value"], np := 2 }
def d4 : Def := { name := "is_edit", st := topS 15, N := ["text", "value"], np := 2 }
def d5 : Def := { name := "put_in", st := topS 16, N := ["text", "edit", "place", "gone", "come"], np := 2 }
def d6 : Def := { name := "applied", st := topS 17, N := ["text", "edit"], np := 2 }
def d7 : Def := { name := "inverse", st := topS 18, N := ["text", "edit", "place", "gone", "come"], np := 2 }
def d8 : Def := { name := "common_ahead", st := topS 19, N := ["old", "new", "found"], np := 2 }
def d9 : Def := { name := "common_behind", st := topS 20, N := ["old", "new", "most", "found"], np := 3 }
def d10 : Def := { name := "between", st := topS 21, N := ["old", "new", "ahead", "behind"], np := 2 }
def d11 : Def := { name := "joined", st := topS 22, N := ["text", "first", "second", "middle", "last", "begin", "end", "gone"], np := 3 }
def d12 : Def := { name := "are_edits", st := topS 23, N := ["text", "value", "one", "at", "_", "gone", "come"], np := 2, tab := true }
def d13 : Def := { name := "check_edits", st := topS 24, N := ["text", "edits"], np := 2 }
def d14 : Def := { name := "all_applied", st := topS 25, N := ["text", "edits", "edit"], np := 2 }
def d15 : Def := { name := "in_turn", st := topS 26, N := ["text", "edits", "found", "more", "place", "gone", "come"], np := 2, muts := [2] }
def d16 : Def := { name := "all_inverse", st := topS 27, N := ["text", "edits", "found", "place", "_", "come", "old", "gone"], np := 2, muts := [2] }
def d17 : Def := { name := "one_for", st := topS 28, N := ["text", "edits", "begin", "end", "last"], np := 2 }
def d18 : Def := { name := "moved", st := topS 31, N := ["mark", "edit", "place", "side", "begin", "gone", "come"], np := 2 }
def d19 : Def := { name := "moved_through", st := topS 32, N := ["mark", "edits", "edit"], np := 2 }
def d20 : Def := { name := "moved_at_once", st := topS 33, N := ["text", "mark", "edits"], np := 3 }
def d21 : Def := { name := "touching", st := topS 34, N := ["first", "second"], np := 2 }
def d22 : Def := { name := "carried", st := topS 35, N := ["edit", "other", "first", "place", "gone", "come", "begin", "lost", "put", "end", "more", "rest", "ahead"], np := 3 }
def d23 : Def := { name := "check_both", st := topS 36, N := ["text", "one", "other"], np := 3 }
def d24 : Def := { name := "check_room", st := topS 37, N := ["text", "edits"], np := 2 }
def d25 : Def := { name := "both_done", st := topS 38, N := ["text", "one", "other", "middle", "edits"], np := 3 }
def d26 : Def := { name := "undone", st := topS 39, N := ["text", "first", "second", "middle", "edits"], np := 3 }
def d27 : Def := { name := "without", st := topS 40, N := ["text", "first", "second", "last"], np := 3 }
def d28 : Def := { name := "hold_of", st := topS 41, N := ["text", "edits", "found", "more", "at", "place", "gone", "come", "old"], np := 2, muts := [2] }
def d29 : Def := { name := "cost_of", st := topS 44, N := ["edits", "_", "gone", "come"], np := 1 }
def d30 : Def := { name := "cost_rows", st := topS 45, N := ["old", "new", "last", "found", "sign", "row", "at"], np := 2, muts := [3, 5] }
def d31 : Def := { name := "steps_of", st := topS 46, N := ["old", "new", "rows", "found", "here", "there", "goes"], np := 2, muts := [3] }
def d32 : Def := { name := "edits_by", st := topS 47, N := ["steps", "new", "more", "found", "here", "there", "goes", "place", "gone", "come", "sign"], np := 3, muts := [3] }
def d33 : Def := { name := "middle_of", st := topS 48, N := ["old", "new", "place", "gone", "come"], np := 2 }
def d34 : Def := { name := "least_edits", st := topS 49, N := ["old", "new", "first", "second", "place", "found"], np := 2 }
def d35 : Def := { name := "least_cost", st := topS 50, N := ["old", "new"], np := 2 }
def d36 : Def := { name := "_law_draws", st := topS 52, N := ["script", "draws", "cell", "number", "first", "k", "seed"], np := 1, muts := [1], retM := true }
def d37 : Def := { name := "_law_take", st := topS 53, N := ["draws", "bound"], np := 2 }
def d38 : Def := { name := "_law_alike", st := topS 54, N := ["found", "due", "k"], np := 2 }
def d39 : Def := { name := "_law_signs", st := topS 55, N := ["draws", "many", "k"], np := 2 }
def d40 : Def := { name := "_law_edit", st := topS 56, N := ["draws", "long", "place"], np := 2 }
def d41 : Def := { name := "_law_edits", st := topS 57, N := ["draws", "long", "found", "place", "gone"], np := 2, muts := [2] }
def d42 : Def := { name := "_law_behind", st := topS 58, N := ["names", "edits", "numbers_on", "found", "place", "begin", "gone", "come", "k"], np := 3 }
def d43 : Def := { name := "_law_pairs", st := topS 59, N := ["names", "later", "k"], np := 2 }
def d44 : Def := { name := "_law_put_behind", st := topS 60, N := ["one", "other", "there", "here", "mid"], np := 2 }
def d45 : Def := { name := "_law_merged", st := topS 61, N := ["names", "first", "second", "one", "other", "found", "place"], np := 5, muts := [5] }
def d46 : Def := { name := "_law_rows", st := topS 62, N := ["draws", "text", "names", "now", "pairs", "k", "first", "numbers_on", "spent", "turn", "edits", "later", "after", "own", "held", "pair", "one", "turns", "steps", "edit", "here", "there", "fewest"], np := 2 }
def d47 : Def := { name := "_law_joined", st := topS 63, N := ["draws", "text", "names", "one", "middle", "numbers_on", "other", "last", "both", "after", "pair", "turned_round", "taken", "due", "k", "told", "edits", "signs", "name"], np := 2 }
def d48 : Def := { name := "_law_hands", st := topS 64, N := ["draws", "text", "names", "one", "other", "mine", "theirs", "k", "due", "signs", "both", "name", "first", "second", "ahead", "middle", "edits", "return_pairs"], np := 2 }
def d49 : Def := { name := "law", st := topS 65, N := ["script", "draws", "turn", "text"], np := 1 }
def defs : List Def := [d0, d1, d2, d3, d4, d5, d6, d7, d8, d9, d10, d11, d12, d13, d14, d15, d16, d17, d18, d19, d20, d21, d22, d23, d24, d25, d26, d27, d28, d29, d30, d31, d32, d33, d34, d35, d36, d37, d38, d39, d40, d41, d42, d43, d44, d45, d46, d47, d48, d49]
-- 0 is_number
-- 1 is_signs
-- 2 is_text
-- 3 is_change
-- 4 is_edit
-- 5 put_in
-- 6 applied
-- 7 inverse
-- 8 common_ahead
-- 9 common_behind
-- 10 between
-- 11 joined
-- 12 are_edits
-- 13 check_edits
-- 14 all_applied
-- 15 in_turn
-- 16 all_inverse
-- 17 one_for
-- 18 moved
-- 19 moved_through
-- 20 moved_at_once
-- 21 touching
-- 22 carried
-- 23 check_both
-- 24 check_room
-- 25 both_done
-- 26 undone
-- 27 without
-- 28 hold_of
-- 29 cost_of
-- 30 cost_rows
-- 31 steps_of
-- 32 edits_by
-- 33 middle_of
-- 34 least_edits
-- 35 least_cost
-- 36 _law_draws
-- 37 _law_take
-- 38 _law_alike
-- 39 _law_signs
-- 40 _law_edit
-- 41 _law_edits
-- 42 _law_behind
-- 43 _law_pairs
-- 44 _law_put_behind
-- 45 _law_merged
-- 46 _law_rows
-- 47 _law_joined
-- 48 _law_hands
-- 49 law
end K01
set_option Elab.async false
set_option linter.all false
set_option autoImplicit false
set_option maxRecDepth 100000
set_option maxHeartbeats 0
namespace K01
open PySem PySem.Spec L2 Mp
open PyProof.Rows hiding St
def b0 : S := S.seq (S.ret (E.and (E.isi Ty.int (E.v 0)) (E.and (E.not (E.isi Ty.bool (E.v 0))) (E.chain Cop.le Cop.le (E.v 1) (E.v 0) (E.v 2))))) S.skip
theorem t0 : tbOf consts defs 0 = some (3, 3, b0) := by kernel_rfl
def b1 : S := S.seq (S.ret (E.and (E.isi Ty.str (E.v 0)) (E.gen false (Tg.nm 1) [1] (E.iseq (E.v 0)) (E.or (E.cmp Cop.eq (E.v 1) (E.k (D.str [10]))) (E.chain Cop.le Cop.le (E.k (D.str [32])) (E.v 1) (E.k (D.str [126]))))))) S.skip
theorem t1 : tbOf consts defs 1 = some (1, 2, b1) := by kernel_rfl
def b2 : S := S.seq (S.ret (E.and (E.call 1 1 (E.cons (E.v 0) E.nil)) (E.cmp Cop.le (E.blt Blt.len (E.cons (E.v 0) E.nil)) (E.k (D.int 2000))))) S.skip
theorem t2 : tbOf consts defs 2 = some (1, 1, b2) := by kernel_rfl
def b3 : S := S.seq (S.ife (E.or (E.not (E.isi Ty.tuple (E.v 1))) (E.or (E.cmp Cop.ne (E.blt Blt.len (E.cons (E.v 1) E.nil)) (E.k (D.int 3))) (E.not (E.call 2 1 (E.cons (E.idx (E.v 1) (E.k (D.int 2))) E.nil))))) (S.seq (S.ret (E.k (D.bl false))) S.skip) S.skip) (S.seq (S.ret (E.and (E.call 0 3 (E.cons (E.idx (E.v 1) (E.k (D.int 0))) (E.cons (E.k (D.int 0)) (E.cons (E.blt Blt.len (E.cons (E.v 0) E.nil)) E.nil)))) (E.call 0 3 (E.cons (E.idx (E.v 1) (E.k (D.int 1))) (E.cons (E.k (D.int 0)) (E.cons (E.bin Bop.sub (E.blt Blt.len (E.cons (E.v 0) E.nil)) (E.idx (E.v 1) (E.k (D.int 0)))) E.nil)))))) S.skip)
theorem t3 : tbOf consts defs 3 = some (2, 2, b3) := by kernel_rfl
def b4 : S := S.seq (S.ret (E.and (E.call 3 2 (E.cons (E.v 0) (E.cons (E.v 1) E.nil))) (E.cmp Cop.le (E.bin Bop.add (E.bin Bop.sub (E.blt Blt.len (E.cons (E.v 0) E.nil)) (E.idx (E.v 1) (E.k (D.int 1)))) (E.blt Blt.len (E.cons (E.idx (E.v 1) (E.k (D.int 2))) E.nil))) (E.k (D.int 2000))))) S.skip
theorem t4 : tbOf consts defs 4 = some (2, 2, b4) := by kernel_rfl
def b5 : S := S.seq (S.tgt (Tg.tp (Tg.cons (Tg.nm 2) (Tg.cons (Tg.nm 3) (Tg.cons (Tg.nm 4) Tg.nil)))) (E.v 1)) (S.seq (S.ret (E.bin Bop.add (E.bin Bop.add (E.sl false (E.v 0) E.nil (E.v 2)) (E.v 4)) (E.sl false (E.v 0) (E.bin Bop.add (E.v 2) (E.v 3)) E.nil))) S.skip)
theorem t5 : tbOf consts defs 5 = some (2, 5, b5) := by kernel_rfl
def b6 : S := S.seq (S.ife (E.not (E.call 4 2 (E.cons (E.v 0) (E.cons (E.v 1) E.nil)))) (S.seq S.bad S.skip) S.skip) (S.seq (S.ret (E.call 5 2 (E.cons (E.v 0) (E.cons (E.v 1) E.nil)))) S.skip)
theorem t6 : tbOf consts defs 6 = some (2, 2, b6) := by kernel_rfl
def b7 : S := S.seq (S.ife (E.not (E.call 4 2 (E.cons (E.v 0) (E.cons (E.v 1) E.nil)))) (S.seq S.bad S.skip) S.skip) (S.seq (S.tgt (Tg.tp (Tg.cons (Tg.nm 2) (Tg.cons (Tg.nm 3) (Tg.cons (Tg.nm 4) Tg.nil)))) (E.v 1)) (S.seq (S.ret (E.tup (E.cons (E.v 2) (E.cons (E.blt Blt.len (E.cons (E.v 4) E.nil)) (E.cons (E.sl false (E.v 0) (E.v 2) (E.bin Bop.add (E.v 2) (E.v 3))) E.nil))))) S.skip))
theorem t7 : tbOf consts defs 7 = some (2, 5, b7) := by kernel_rfl
def b8 : S := S.seq (S.set 2 (E.k (D.int 0))) (S.seq (S.whl 100000 (E.and (E.cmp Cop.lt (E.v 2) (E.blt Blt.min2 (E.cons (E.blt Blt.len (E.cons (E.v 0) E.nil)) (E.cons (E.blt Blt.len (E.cons (E.v 1) E.nil)) E.nil)))) (E.cmp Cop.eq (E.idx (E.v 0) (E.v 2)) (E.idx (E.v 1) (E.v 2)))) (S.seq (S.aug 2 Aop.add (E.k (D.int 1))) S.skip)) (S.seq (S.ret (E.v 2)) S.skip))
theorem t8 : tbOf consts defs 8 = some (2, 3, b8) := by kernel_rfl
def b9 : S := S.seq (S.set 3 (E.k (D.int 0))) (S.seq (S.whl 100000 (E.and (E.cmp Cop.lt (E.v 3) (E.v 2)) (E.cmp Cop.eq (E.idx (E.v 0) (E.bin Bop.sub (E.bin Bop.sub (E.blt Blt.len (E.cons (E.v 0) E.nil)) (E.k (D.int 1))) (E.v 3))) (E.idx (E.v 1) (E.bin Bop.sub (E.bin Bop.sub (E.blt Blt.len (E.cons (E.v 1) E.nil)) (E.k (D.int 1))) (E.v 3))))) (S.seq (S.aug 3 Aop.add (E.k (D.int 1))) S.skip)) (S.seq (S.ret (E.v 3)) S.skip))
theorem t9 : tbOf consts defs 9 = some (3, 4, b9) := by kernel_rfl
def b10 : S := S.seq (S.set 2 (E.call 8 2 (E.cons (E.v 0) (E.cons (E.v 1) E.nil)))) (S.seq (S.set 3 (E.call 9 3 (E.cons (E.v 0) (E.cons (E.v 1) (E.cons (E.bin Bop.sub (E.blt Blt.min2 (E.cons (E.blt Blt.len (E.cons (E.v 0) E.nil)) (E.cons (E.blt Blt.len (E.cons (E.v 1) E.nil)) E.nil))) (E.v 2)) E.nil))))) (S.seq (S.ret (E.tup (E.cons (E.v 2) (E.cons (E.bin Bop.sub (E.bin Bop.sub (E.blt Blt.len (E.cons (E.v 0) E.nil)) (E.v 2)) (E.v 3)) (E.cons (E.sl false (E.v 1) (E.v 2) (E.bin Bop.sub (E.blt Blt.len (E.cons (E.v 1) E.nil)) (E.v 3))) E.nil))))) S.skip))
theorem t10 : tbOf consts defs 10 = some (2, 4, b10) := by kernel_rfl
def b11 : S := S.seq (S.set 3 (E.call 6 2 (E.cons (E.v 0) (E.cons (E.v 1) E.nil)))) (S.seq (S.set 4 (E.call 6 2 (E.cons (E.v 3) (E.cons (E.v 2) E.nil)))) (S.seq (S.set 5 (E.blt Blt.min2 (E.cons (E.idx (E.v 1) (E.k (D.int 0))) (E.cons (E.idx (E.v 2) (E.k (D.int 0))) E.nil)))) (S.seq (S.set 6 (E.blt Blt.max2 (E.cons (E.bin Bop.add (E.idx (E.v 1) (E.k (D.int 0))) (E.blt Blt.len (E.cons (E.idx (E.v 1) (E.k (D.int 2))) E.nil))) (E.cons (E.bin Bop.add (E.idx (E.v 2) (E.k (D.int 0))) (E.idx (E.v 2) (E.k (D.int 1)))) E.nil)))) (S.seq (S.set 7 (E.bin Bop.sub (E.bin Bop.add (E.bin Bop.sub (E.v 6) (E.blt Blt.len (E.cons (E.idx (E.v 1) (E.k (D.int 2))) E.nil))) (E.idx (E.v 1) (E.k (D.int 1)))) (E.v 5))) (S.seq (S.ret (E.tup (E.cons (E.v 5) (E.cons (E.v 7) (E.cons (E.sl false (E.v 4) (E.v 5) (E.bin Bop.add (E.bin Bop.sub (E.v 6) (E.idx (E.v 2) (E.k (D.int 1)))) (E.blt Blt.len (E.cons (E.idx (E.v 2) (E.k (D.int 2))) E.nil)))) E.nil))))) S.skip)))))
theorem t11 : tbOf consts defs 11 = some (3, 8, b11) := by kernel_rfl
def b12 : S := S.seq (S.ife (E.or (E.not (E.isi Ty.tuple (E.v 1))) (E.or (E.cmp Cop.gt (E.blt Blt.len (E.cons (E.v 1) E.nil)) (E.k (D.int 200))) (E.not (E.gen false (Tg.nm 2) [2] (E.iseq (E.v 1)) (E.call 3 2 (E.cons (E.v 0) (E.cons (E.v 2) E.nil))))))) (S.seq (S.ret (E.k (D.bl false))) S.skip) S.skip) (S.seq (S.ife (E.not (E.gen false (Tg.nm 3) [3] (E.irng 2 (E.cons (E.k (D.int 1)) (E.cons (E.blt Blt.len (E.cons (E.v 1) E.nil)) E.nil))) (E.cmp Cop.lt (E.bin Bop.add (E.idx (E.idx (E.v 1) (E.bin Bop.sub (E.v 3) (E.k (D.int 1)))) (E.k (D.int 0))) (E.idx (E.idx (E.v 1) (E.bin Bop.sub (E.v 3) (E.k (D.int 1)))) (E.k (D.int 1)))) (E.idx (E.idx (E.v 1) (E.v 3)) (E.k (D.int 0)))))) (S.seq (S.ret (E.k (D.bl false))) S.skip) S.skip) (S.seq (S.ret (E.cmp Cop.le (E.bin Bop.add (E.blt Blt.len (E.cons (E.v 0) E.nil)) (E.blt Blt.sum (E.cons (E.comp false (Tg.tp (Tg.cons (Tg.nm 4) (Tg.cons (Tg.nm 5) (Tg.cons (Tg.nm 6) Tg.nil)))) [4, 5, 6] (E.iseq (E.v 1)) E.yes (E.bin Bop.sub (E.blt Blt.len (E.cons (E.v 6) E.nil)) (E.v 5))) E.nil))) (E.k (D.int 2000)))) S.skip))
theorem t12 : tbOf consts defs 12 = some (2, 7, b12) := by kernel_rfl
def b13 : S := S.seq (S.ife (E.not (E.call 12 2 (E.cons (E.v 0) (E.cons (E.v 1) E.nil)))) (S.seq S.bad S.skip) S.skip) S.skip
theorem t13 : tbOf consts defs 13 = some (2, 2, b13) := by kernel_rfl
def b14 : S := S.seq (S.drop (E.call 13 2 (E.cons (E.v 0) (E.cons (E.v 1) E.nil)))) (S.seq (S.for_ (Tg.nm 2) (E.iseq (E.rev false (E.v 1))) (S.seq (S.set 0 (E.call 5 2 (E.cons (E.v 0) (E.cons (E.v 2) E.nil)))) S.skip)) (S.seq (S.ret (E.v 0)) S.skip))
theorem t14 : tbOf consts defs 14 = some (2, 3, b14) := by kernel_rfl
def b15 : S := S.seq (S.drop (E.call 13 2 (E.cons (E.v 0) (E.cons (E.v 1) E.nil)))) (S.seq (S.set 2 (E.lst true E.nil)) (S.seq (S.set 3 (E.k (D.int 0))) (S.seq (S.for_ (Tg.tp (Tg.cons (Tg.nm 4) (Tg.cons (Tg.nm 5) (Tg.cons (Tg.nm 6) Tg.nil)))) (E.iseq (E.v 1)) (S.seq (S.drop (E.mth Mth.append (E.v 2) (E.cons (E.tup (E.cons (E.bin Bop.add (E.v 4) (E.v 3)) (E.cons (E.v 5) (E.cons (E.v 6) E.nil)))) E.nil))) (S.seq (S.aug 3 Aop.add (E.bin Bop.sub (E.blt Blt.len (E.cons (E.v 6) E.nil)) (E.v 5))) S.skip))) (S.seq (S.ret (E.blt Blt.tuple (E.cons (E.v 2) E.nil))) S.skip))))
theorem t15 : tbOf consts defs 15 = some (2, 7, b15) := by kernel_rfl
def b16 : S := S.seq (S.drop (E.call 13 2 (E.cons (E.v 0) (E.cons (E.v 1) E.nil)))) (S.seq (S.set 2 (E.lst true E.nil)) (S.seq (S.for_ (Tg.tp (Tg.cons (Tg.tp (Tg.cons (Tg.nm 3) (Tg.cons (Tg.nm 4) (Tg.cons (Tg.nm 5) Tg.nil)))) (Tg.cons (Tg.tp (Tg.cons (Tg.nm 6) (Tg.cons (Tg.nm 7) (Tg.cons (Tg.nm 4) Tg.nil)))) Tg.nil))) (E.izip (E.cons (E.call 15 2 (E.cons (E.v 0) (E.cons (E.v 1) E.nil))) (E.cons (E.v 1) E.nil))) (S.seq (S.drop (E.mth Mth.append (E.v 2) (E.cons (E.tup (E.cons (E.v 3) (E.cons (E.blt Blt.len (E.cons (E.v 5) E.nil)) (E.cons (E.sl false (E.v 0) (E.v 6) (E.bin Bop.add (E.v 6) (E.v 7))) E.nil)))) E.nil))) S.skip)) (S.seq (S.ret (E.blt Blt.tuple (E.cons (E.v 2) E.nil))) S.skip)))
theorem t16 : tbOf consts defs 16 = some (2, 8, b16) := by kernel_rfl
def b17 : S := S.seq (S.drop (E.call 13 2 (E.cons (E.v 0) (E.cons (E.v 1) E.nil)))) (S.seq (S.ife (E.cmp Cop.eq (E.blt Blt.len (E.cons (E.v 1) E.nil)) (E.k (D.int 0))) (S.seq (S.ret (E.tup (E.cons (E.k (D.int 0)) (E.cons (E.k (D.int 0)) (E.cons (E.k (D.str [])) E.nil))))) S.skip) S.skip) (S.seq (S.par2 2 3 (E.cons (E.idx (E.idx (E.v 1) (E.k (D.int 0))) (E.k (D.int 0))) (E.cons (E.bin Bop.add (E.idx (E.idx (E.v 1) (E.neg (E.k (D.int 1)))) (E.k (D.int 0))) (E.idx (E.idx (E.v 1) (E.neg (E.k (D.int 1)))) (E.k (D.int 1)))) E.nil))) (S.seq (S.set 4 (E.call 14 2 (E.cons (E.v 0) (E.cons (E.v 1) E.nil)))) (S.seq (S.ret (E.tup (E.cons (E.v 2) (E.cons (E.bin Bop.sub (E.v 3) (E.v 2)) (E.cons (E.sl false (E.v 4) (E.v 2) (E.bin Bop.sub (E.blt Blt.len (E.cons (E.v 4) E.nil)) (E.bin Bop.sub (E.blt Blt.len (E.cons (E.v 0) E.nil)) (E.v 3)))) E.nil))))) S.skip))))
theorem t17 : tbOf consts defs 17 = some (2, 5, b17) := by kernel_rfl
def b18 : S := S.seq (S.tgt (Tg.tp (Tg.cons (Tg.nm 2) (Tg.cons (Tg.nm 3) Tg.nil))) (E.v 0)) (S.seq (S.tgt (Tg.tp (Tg.cons (Tg.nm 4) (Tg.cons (Tg.nm 5) (Tg.cons (Tg.nm 6) Tg.nil)))) (E.v 1)) (S.seq (S.ife (E.cmp Cop.lt (E.v 2) (E.v 4)) (S.seq (S.ret (E.v 0)) S.skip) S.skip) (S.seq (S.ife (E.cmp Cop.gt (E.v 2) (E.bin Bop.add (E.v 4) (E.v 5))) (S.seq (S.ret (E.tup (E.cons (E.bin Bop.sub (E.bin Bop.add (E.v 2) (E.blt Blt.len (E.cons (E.v 6) E.nil))) (E.v 5)) (E.cons (E.v 3) E.nil)))) S.skip) S.skip) (S.seq (S.ret (E.tup (E.cons (E.ite (E.cmp Cop.eq (E.v 3) (E.k (D.str [108, 101, 102, 116]))) (E.v 4) (E.bin Bop.add (E.v 4) (E.blt Blt.len (E.cons (E.v 6) E.nil)))) (E.cons (E.v 3) E.nil)))) S.skip))))
theorem t18 : tbOf consts defs 18 = some (2, 7, b18) := by kernel_rfl
def b19 : S := S.seq (S.for_ (Tg.nm 2) (E.iseq (E.v 1)) (S.seq (S.set 0 (E.call 18 2 (E.cons (E.v 0) (E.cons (E.v 2) E.nil)))) S.skip)) (S.seq (S.ret (E.v 0)) S.skip)
theorem t19 : tbOf consts defs 19 = some (2, 3, b19) := by kernel_rfl
def b20 : S := S.seq (S.ret (E.call 19 2 (E.cons (E.v 1) (E.cons (E.call 15 2 (E.cons (E.v 0) (E.cons (E.v 2) E.nil))) E.nil)))) S.skip
theorem t20 : tbOf consts defs 20 = some (3, 3, b20) := by kernel_rfl
def b21 : S := S.seq (S.ife (E.cmp Cop.eq (E.bin Bop.add (E.idx (E.v 0) (E.k (D.int 0))) (E.idx (E.v 0) (E.k (D.int 1)))) (E.idx (E.v 1) (E.k (D.int 0)))) (S.seq (S.ret (E.tup (E.cons (E.tup (E.cons (E.idx (E.v 0) (E.k (D.int 0))) (E.cons (E.bin Bop.add (E.idx (E.v 0) (E.k (D.int 1))) (E.idx (E.v 1) (E.k (D.int 1)))) (E.cons (E.bin Bop.add (E.idx (E.v 0) (E.k (D.int 2))) (E.idx (E.v 1) (E.k (D.int 2)))) E.nil)))) E.nil))) S.skip) S.skip) (S.seq (S.ret (E.tup (E.cons (E.v 0) (E.cons (E.v 1) E.nil)))) S.skip)
theorem t21 : tbOf consts defs 21 = some (2, 2, b21) := by kernel_rfl
def b22 : S := S.seq (S.tgt (Tg.tp (Tg.cons (Tg.nm 3) (Tg.cons (Tg.nm 4) (Tg.cons (Tg.nm 5) Tg.nil)))) (E.v 0)) (S.seq (S.tgt (Tg.tp (Tg.cons (Tg.nm 6) (Tg.cons (Tg.nm 7) (Tg.cons (Tg.nm 8) Tg.nil)))) (E.v 1)) (S.seq (S.set 9 (E.bin Bop.add (E.v 6) (E.v 7))) (S.seq (S.set 10 (E.bin Bop.sub (E.blt Blt.len (E.cons (E.v 8) E.nil)) (E.v 7))) (S.seq (S.set 11 (E.blt Blt.max2 (E.cons (E.k (D.int 0)) (E.cons (E.bin Bop.sub (E.bin Bop.add (E.v 3) (E.v 4)) (E.blt Blt.max2 (E.cons (E.v 3) (E.cons (E.v 9) E.nil)))) E.nil)))) (S.seq (S.ife (E.cmp Cop.gt (E.v 3) (E.v 9)) (S.seq (S.ret (E.tup (E.cons (E.tup (E.cons (E.bin Bop.add (E.v 3) (E.v 10)) (E.cons (E.v 4) (E.cons (E.v 5) E.nil)))) E.nil))) S.skip) S.skip) (S.seq (S.ife (E.or (E.cmp Cop.gt (E.v 3) (E.v 6)) (E.and (E.cmp Cop.eq (E.v 3) (E.v 6)) (E.not (E.v 2)))) (S.seq (S.ret (E.tup (E.cons (E.tup (E.cons (E.bin Bop.add (E.v 6) (E.blt Blt.len (E.cons (E.v 8) E.nil))) (E.cons (E.v 11) (E.cons (E.v 5) E.nil)))) E.nil))) S.skip) S.skip) (S.seq (S.set 12 (E.tup (E.cons (E.v 3) (E.cons (E.blt Blt.min2 (E.cons (E.v 4) (E.cons (E.bin Bop.sub (E.v 6) (E.v 3)) E.nil))) (E.cons (E.v 5) E.nil))))) (S.seq (S.ret (E.ite (E.cmp Cop.eq (E.v 11) (E.k (D.int 0))) (E.tup (E.cons (E.v 12) E.nil)) (E.call 21 2 (E.cons (E.v 12) (E.cons (E.tup (E.cons (E.bin Bop.add (E.v 6) (E.blt Blt.len (E.cons (E.v 8) E.nil))) (E.cons (E.v 11) (E.cons (E.k (D.str [])) E.nil)))) E.nil))))) S.skip))))))))
theorem t22 : tbOf consts defs 22 = some (3, 13, b22) := by kernel_rfl
def b23 : S := S.seq (S.ife (E.or (E.not (E.call 4 2 (E.cons (E.v 0) (E.cons (E.v 1) E.nil)))) (E.not (E.call 4 2 (E.cons (E.v 0) (E.cons (E.v 2) E.nil))))) (S.seq S.bad S.skip) S.skip) S.skip
theorem t23 : tbOf consts defs 23 = some (3, 3, b23) := by kernel_rfl
def b24 : S := S.seq (S.ife (E.not (E.call 12 2 (E.cons (E.v 0) (E.cons (E.v 1) E.nil)))) (S.seq S.bad S.skip) S.skip) S.skip
theorem t24 : tbOf consts defs 24 = some (2, 2, b24) := by kernel_rfl
def b25 : S := S.seq (S.drop (E.call 23 3 (E.cons (E.v 0) (E.cons (E.v 1) (E.cons (E.v 2) E.nil))))) (S.seq (S.par2 3 4 (E.cons (E.call 6 2 (E.cons (E.v 0) (E.cons (E.v 2) E.nil))) (E.cons (E.call 22 3 (E.cons (E.v 1) (E.cons (E.v 2) (E.cons (E.k (D.bl true)) E.nil)))) E.nil))) (S.seq (S.drop (E.call 24 2 (E.cons (E.v 3) (E.cons (E.v 4) E.nil)))) (S.seq (S.ret (E.call 14 2 (E.cons (E.v 3) (E.cons (E.v 4) E.nil)))) S.skip)))
theorem t25 : tbOf consts defs 25 = some (3, 5, b25) := by kernel_rfl
def b26 : S := S.seq (S.set 3 (E.call 6 2 (E.cons (E.v 0) (E.cons (E.v 1) E.nil)))) (S.seq (S.ife (E.not (E.call 4 2 (E.cons (E.v 3) (E.cons (E.v 2) E.nil)))) (S.seq S.bad S.skip) S.skip) (S.seq (S.set 4 (E.call 22 3 (E.cons (E.call 7 2 (E.cons (E.v 0) (E.cons (E.v 1) E.nil))) (E.cons (E.v 2) (E.cons (E.k (D.bl true)) E.nil))))) (S.seq (S.drop (E.call 24 2 (E.cons (E.call 6 2 (E.cons (E.v 3) (E.cons (E.v 2) E.nil))) (E.cons (E.v 4) E.nil)))) (S.seq (S.ret (E.v 4)) S.skip))))
theorem t26 : tbOf consts defs 26 = some (3, 5, b26) := by kernel_rfl
def b27 : S := S.seq (S.set 3 (E.call 6 2 (E.cons (E.call 6 2 (E.cons (E.v 0) (E.cons (E.v 1) E.nil))) (E.cons (E.v 2) E.nil)))) (S.seq (S.ret (E.call 14 2 (E.cons (E.v 3) (E.cons (E.call 26 3 (E.cons (E.v 0) (E.cons (E.v 1) (E.cons (E.v 2) E.nil)))) E.nil)))) S.skip)
theorem t27 : tbOf consts defs 27 = some (3, 4, b27) := by kernel_rfl
def b28 : S := S.seq (S.drop (E.call 13 2 (E.cons (E.v 0) (E.cons (E.v 1) E.nil)))) (S.seq (S.set 2 (E.lst true E.nil)) (S.seq (S.tgt (Tg.tp (Tg.cons (Tg.nm 3) (Tg.cons (Tg.nm 4) Tg.nil))) (E.tup (E.cons (E.k (D.int 0)) (E.cons (E.k (D.int 0)) E.nil)))) (S.seq (S.for_ (Tg.tp (Tg.cons (Tg.nm 5) (Tg.cons (Tg.nm 6) (Tg.cons (Tg.nm 7) Tg.nil)))) (E.iseq (E.v 1)) (S.seq (S.drop (E.mth Mth.extend (E.v 2) (E.cons (E.comp false (Tg.nm 8) [8] (E.irng 2 (E.cons (E.v 4) (E.cons (E.v 5) E.nil))) E.yes (E.tup (E.cons (E.v 8) (E.cons (E.bin Bop.add (E.v 8) (E.v 3)) E.nil)))) E.nil))) (S.seq (S.tgt (Tg.tp (Tg.cons (Tg.nm 3) (Tg.cons (Tg.nm 4) Tg.nil))) (E.tup (E.cons (E.bin Bop.sub (E.bin Bop.add (E.v 3) (E.blt Blt.len (E.cons (E.v 7) E.nil))) (E.v 6)) (E.cons (E.bin Bop.add (E.v 5) (E.v 6)) E.nil)))) S.skip))) (S.seq (S.drop (E.mth Mth.extend (E.v 2) (E.cons (E.comp false (Tg.nm 8) [8] (E.irng 2 (E.cons (E.v 4) (E.cons (E.blt Blt.len (E.cons (E.v 0) E.nil)) E.nil))) E.yes (E.tup (E.cons (E.v 8) (E.cons (E.bin Bop.add (E.v 8) (E.v 3)) E.nil)))) E.nil))) (S.seq (S.ret (E.blt Blt.tuple (E.cons (E.v 2) E.nil))) S.skip)))))
theorem t28 : tbOf consts defs 28 = some (2, 9, b28) := by kernel_rfl
def b29 : S := S.seq (S.ret (E.blt Blt.sum (E.cons (E.comp false (Tg.tp (Tg.cons (Tg.nm 1) (Tg.cons (Tg.nm 2) (Tg.cons (Tg.nm 3) Tg.nil)))) [1, 2, 3] (E.iseq (E.v 0)) E.yes (E.bin Bop.add (E.v 2) (E.blt Blt.len (E.cons (E.v 3) E.nil)))) E.nil))) S.skip
theorem t29 : tbOf consts defs 29 = some (1, 4, b29) := by kernel_rfl
def b30 : S := S.seq (S.set 2 (E.lrg false 3 (E.cons (E.blt Blt.len (E.cons (E.v 1) E.nil)) (E.cons (E.neg (E.k (D.int 1))) (E.cons (E.neg (E.k (D.int 1))) E.nil))))) (S.seq (S.set 3 (E.lst true (E.cons (E.v 2) E.nil))) (S.seq (S.for_ (Tg.nm 4) (E.iseq (E.rev false (E.v 0))) (S.seq (S.set 5 (E.lst true (E.cons (E.bin Bop.add (E.idx (E.v 2) (E.neg (E.k (D.int 1)))) (E.k (D.int 1))) E.nil))) (S.seq (S.for_ (Tg.nm 6) (E.irng 3 (E.cons (E.bin Bop.sub (E.blt Blt.len (E.cons (E.v 1) E.nil)) (E.k (D.int 1))) (E.cons (E.neg (E.k (D.int 1))) (E.cons (E.neg (E.k (D.int 1))) E.nil)))) (S.seq (S.drop (E.mth Mth.append (E.v 5) (E.cons (E.ite (E.cmp Cop.eq (E.idx (E.v 1) (E.v 6)) (E.v 4)) (E.idx (E.v 2) (E.bin Bop.add (E.v 6) (E.k (D.int 1)))) (E.bin Bop.add (E.k (D.int 1)) (E.blt Blt.min2 (E.cons (E.idx (E.v 2) (E.v 6)) (E.cons (E.idx (E.v 5) (E.neg (E.k (D.int 1)))) E.nil))))) E.nil))) S.skip)) (S.seq (S.set 2 (E.rev false (E.v 5))) (S.seq (S.drop (E.mth Mth.append (E.v 3) (E.cons (E.v 2) E.nil))) S.skip))))) (S.seq (S.ret (E.rev false (E.v 3))) S.skip)))
theorem t30 : tbOf consts defs 30 = some (2, 7, b30) := by kernel_rfl
def b31 : S := S.seq (S.par2 2 3 (E.cons (E.call 30 2 (E.cons (E.v 0) (E.cons (E.v 1) E.nil))) (E.cons (E.lst true E.nil) E.nil))) (S.seq (S.tgt (Tg.tp (Tg.cons (Tg.nm 4) (Tg.cons (Tg.nm 5) Tg.nil))) (E.tup (E.cons (E.k (D.int 0)) (E.cons (E.k (D.int 0)) E.nil)))) (S.seq (S.whl 100000 (E.or (E.cmp Cop.lt (E.v 4) (E.blt Blt.len (E.cons (E.v 0) E.nil))) (E.cmp Cop.lt (E.v 5) (E.blt Blt.len (E.cons (E.v 1) E.nil)))) (S.seq (S.ife (E.and (E.cmp Cop.lt (E.v 4) (E.blt Blt.len (E.cons (E.v 0) E.nil))) (E.and (E.cmp Cop.lt (E.v 5) (E.blt Blt.len (E.cons (E.v 1) E.nil))) (E.cmp Cop.eq (E.idx (E.v 0) (E.v 4)) (E.idx (E.v 1) (E.v 5))))) (S.seq (S.par2 4 5 (E.cons (E.bin Bop.add (E.v 4) (E.k (D.int 1))) (E.cons (E.bin Bop.add (E.v 5) (E.k (D.int 1))) E.nil))) S.skip) (S.seq (S.set 6 (E.or (E.cmp Cop.eq (E.v 5) (E.blt Blt.len (E.cons (E.v 1) E.nil))) (E.and (E.cmp Cop.lt (E.v 4) (E.blt Blt.len (E.cons (E.v 0) E.nil))) (E.cmp Cop.le (E.idx (E.idx (E.v 2) (E.bin Bop.add (E.v 4) (E.k (D.int 1)))) (E.v 5)) (E.idx (E.idx (E.v 2) (E.v 4)) (E.bin Bop.add (E.v 5) (E.k (D.int 1)))))))) (S.seq (S.drop (E.mth Mth.append (E.v 3) (E.cons (E.tup (E.cons (E.v 4) (E.cons (E.v 5) (E.cons (E.v 6) E.nil)))) E.nil))) (S.seq (S.tgt (Tg.tp (Tg.cons (Tg.nm 4) (Tg.cons (Tg.nm 5) Tg.nil))) (E.ite (E.v 6) (E.tup (E.cons (E.bin Bop.add (E.v 4) (E.k (D.int 1))) (E.cons (E.v 5) E.nil))) (E.tup (E.cons (E.v 4) (E.cons (E.bin Bop.add (E.v 5) (E.k (D.int 1))) E.nil))))) S.skip)))) S.skip)) (S.seq (S.ret (E.frz 3)) S.skip)))
theorem t31 : tbOf consts defs 31 = some (2, 7, b31) := by kernel_rfl
def b32 : S := S.seq (S.set 3 (E.lst true E.nil)) (S.seq (S.for_ (Tg.tp (Tg.cons (Tg.nm 4) (Tg.cons (Tg.nm 5) (Tg.cons (Tg.nm 6) Tg.nil)))) (E.iseq (E.v 0)) (S.seq (S.tgt (Tg.tp (Tg.cons (Tg.nm 7) (Tg.cons (Tg.nm 8) (Tg.cons (Tg.nm 9) Tg.nil)))) (E.ite (E.cmp Cop.gt (E.blt Blt.len (E.cons (E.v 3) E.nil)) (E.k (D.int 0))) (E.idx (E.v 3) (E.neg (E.k (D.int 1)))) (E.tup (E.cons (E.k (D.int 0)) (E.cons (E.neg (E.k (D.int 1))) (E.cons (E.k (D.str [])) E.nil)))))) (S.seq (S.set 10 (E.ite (E.v 6) (E.k (D.str [])) (E.idx (E.v 1) (E.v 5)))) (S.seq (S.ife (E.and (E.cmp Cop.ge (E.v 8) (E.k (D.int 0))) (E.cmp Cop.eq (E.bin Bop.add (E.v 7) (E.v 8)) (E.bin Bop.add (E.v 4) (E.v 2)))) (S.seq (S.setIx (E.v 3) (E.neg (E.k (D.int 1))) (E.tup (E.cons (E.v 7) (E.cons (E.bin Bop.add (E.v 8) (E.ite (E.v 6) (E.k (D.int 1)) (E.k (D.int 0)))) (E.cons (E.bin Bop.add (E.v 9) (E.v 10)) E.nil))))) S.skip) (S.seq (S.drop (E.mth Mth.append (E.v 3) (E.cons (E.tup (E.cons (E.bin Bop.add (E.v 4) (E.v 2)) (E.cons (E.ite (E.v 6) (E.k (D.int 1)) (E.k (D.int 0))) (E.cons (E.v 10) E.nil)))) E.nil))) S.skip)) S.skip)))) (S.seq (S.ret (E.blt Blt.tuple (E.cons (E.v 3) E.nil))) S.skip))
theorem t32 : tbOf consts defs 32 = some (3, 11, b32) := by kernel_rfl
def b33 : S := S.seq (S.tgt (Tg.tp (Tg.cons (Tg.nm 2) (Tg.cons (Tg.nm 3) (Tg.cons (Tg.nm 4) Tg.nil)))) (E.call 10 2 (E.cons (E.v 0) (E.cons (E.v 1) E.nil)))) (S.seq (S.ife (E.cmp Cop.gt (E.bin Bop.mul (E.bin Bop.add (E.v 3) (E.k (D.int 1))) (E.bin Bop.add (E.blt Blt.len (E.cons (E.v 4) E.nil)) (E.k (D.int 1)))) (E.k (D.int 60000))) (S.seq S.bad S.skip) S.skip) (S.seq (S.ret (E.tup (E.cons (E.sl false (E.v 0) (E.v 2) (E.bin Bop.add (E.v 2) (E.v 3))) (E.cons (E.v 4) (E.cons (E.v 2) E.nil))))) S.skip))
theorem t33 : tbOf consts defs 33 = some (2, 5, b33) := by kernel_rfl
def b34 : S := S.seq (S.tgt (Tg.tp (Tg.cons (Tg.nm 2) (Tg.cons (Tg.nm 3) (Tg.cons (Tg.nm 4) Tg.nil)))) (E.call 33 2 (E.cons (E.v 0) (E.cons (E.v 1) E.nil)))) (S.seq (S.set 5 (E.call 32 3 (E.cons (E.call 31 2 (E.cons (E.v 2) (E.cons (E.v 3) E.nil))) (E.cons (E.v 3) (E.cons (E.v 4) E.nil))))) (S.seq (S.ife (E.cmp Cop.gt (E.blt Blt.len (E.cons (E.v 5) E.nil)) (E.k (D.int 200))) (S.seq S.bad S.skip) S.skip) (S.seq (S.ret (E.v 5)) S.skip)))
theorem t34 : tbOf consts defs 34 = some (2, 6, b34) := by kernel_rfl
def b35 : S := S.seq (S.ret (E.call 29 1 (E.cons (E.call 34 2 (E.cons (E.v 0) (E.cons (E.v 1) E.nil))) E.nil))) S.skip
theorem t35 : tbOf consts defs 35 = some (2, 2, b35) := by kernel_rfl
def b36 : S := S.seq (S.set 1 (E.lst true E.nil)) (S.seq (S.for_ (Tg.nm 2) (E.iseq (E.v 0)) (S.seq (S.set 3 (E.blt Blt.abs (E.cons (E.v 2) E.nil))) (S.seq (S.ife (E.cmp Cop.lt (E.v 3) (E.bin Bop.pow (E.k (D.int 10)) (E.k (D.int 18)))) (S.seq (S.set 4 (E.bin Bop.mod (E.blt Blt.int (E.cons (E.bin Bop.add (E.bin Bop.mul (E.v 3) (E.k (D.int 48271))) (E.k (D.int 11))) E.nil)) (E.k (D.int 2147483647)))) (S.seq (S.drop (E.mth Mth.append (E.v 1) (E.cons (E.bin Bop.mod (E.blt Blt.int (E.cons (E.bin Bop.add (E.bin Bop.mul (E.v 4) (E.k (D.int 69621))) (E.v 3)) E.nil)) (E.k (D.int 2147483629))) E.nil))) (S.seq (S.drop (E.mth Mth.append (E.v 1) (E.cons (E.bin Bop.mod (E.blt Blt.int (E.cons (E.bin Bop.add (E.v 4) (E.bin Bop.fdiv (E.v 3) (E.k (D.int 7)))) E.nil)) (E.k (D.int 1000003))) E.nil))) (S.seq (S.set 3 (E.k (D.int 0))) S.skip)))) S.skip) (S.seq (S.for_ (Tg.nm 5) (E.irng 1 (E.cons (E.k (D.int 60)) E.nil)) (S.seq (S.ife (E.cmp Cop.gt (E.v 3) (E.k (D.int 0))) (S.seq (S.drop (E.mth Mth.append (E.v 1) (E.cons (E.bin Bop.mod (E.blt Blt.int (E.cons (E.v 3) E.nil)) (E.k (D.int 997))) E.nil))) (S.seq (S.set 3 (E.bin Bop.fdiv (E.v 3) (E.k (D.int 997)))) S.skip)) S.skip) S.skip)) S.skip)))) (S.seq (S.set 6 (E.k (D.int 1))) (S.seq (S.ife (E.cmp Cop.gt (E.blt Blt.len (E.cons (E.v 0) E.nil)) (E.k (D.int 0))) (S.seq (S.set 6 (E.bin Bop.add (E.k (D.int 1)) (E.blt Blt.abs (E.cons (E.idx (E.v 0) (E.k (D.int 0))) E.nil)))) S.skip) S.skip) (S.seq (S.for_ (Tg.nm 5) (E.irng 1 (E.cons (E.k (D.int 900)) E.nil)) (S.seq (S.set 6 (E.bin Bop.mod (E.blt Blt.int (E.cons (E.bin Bop.add (E.bin Bop.mul (E.v 6) (E.k (D.int 48271))) (E.k (D.int 69621))) E.nil)) (E.k (D.int 2147483647)))) (S.seq (S.drop (E.mth Mth.append (E.v 1) (E.cons (E.bin Bop.fdiv (E.v 6) (E.k (D.int 5))) E.nil))) S.skip))) (S.seq (S.ret (E.lrev true (E.v 1))) S.skip)))))
theorem t36 : tbOf consts defs 36 = some (1, 7, b36) := by kernel_rfl
def b37 : S := S.seq (S.ife (E.cmp Cop.eq (E.blt Blt.len (E.cons (E.v 0) E.nil)) (E.k (D.int 0))) (S.seq (S.ret (E.k (D.int 0))) S.skip) S.skip) (S.seq (S.ret (E.bin Bop.mod (E.blt Blt.int (E.cons (E.mth0 Mth.pop (E.v 0)) E.nil)) (E.v 1))) S.skip)
theorem t37 : tbOf consts defs 37 = some (2, 2, b37) := by kernel_rfl
def b38 : S := S.seq (S.ife (E.or (E.isi Ty.list (E.v 1)) (E.isi Ty.tuple (E.v 1))) (S.seq (S.ife (E.or (E.cmp Cop.ne (E.isi Ty.list (E.v 0)) (E.isi Ty.list (E.v 1))) (E.cmp Cop.ne (E.isi Ty.tuple (E.v 0)) (E.isi Ty.tuple (E.v 1)))) (S.seq (S.ret (E.k (D.bl false))) S.skip) S.skip) (S.seq (S.ret (E.and (E.cmp Cop.eq (E.blt Blt.len (E.cons (E.v 0) E.nil)) (E.blt Blt.len (E.cons (E.v 1) E.nil))) (E.cmp Cop.eq (E.comp false (Tg.nm 2) [2] (E.irng 1 (E.cons (E.blt Blt.len (E.cons (E.v 1) E.nil)) E.nil)) (E.not (E.call 38 2 (E.cons (E.idx (E.v 0) (E.v 2)) (E.cons (E.idx (E.v 1) (E.v 2)) E.nil)))) (E.v 2)) (E.lst false E.nil)))) S.skip)) S.skip) (S.seq (S.ife (E.cmp Cop.is_ (E.v 1) (E.k D.non)) (S.seq (S.ret (E.cmp Cop.is_ (E.v 0) (E.k D.non))) S.skip) S.skip) (S.seq (S.ife (E.or (E.isi Ty.bool (E.v 1)) (E.isi Ty.bool (E.v 0))) (S.seq (S.ret (E.and (E.isi Ty.bool (E.v 0)) (E.and (E.isi Ty.bool (E.v 1)) (E.cmp Cop.eq (E.v 0) (E.v 1))))) S.skip) S.skip) (S.seq (S.ife (E.isi Ty.int (E.v 1)) (S.seq (S.ret (E.and (E.isi Ty.int (E.v 0)) (E.cmp Cop.eq (E.v 0) (E.v 1)))) S.skip) S.skip) (S.seq (S.ret (E.and (E.isi Ty.str (E.v 0)) (E.cmp Cop.eq (E.v 0) (E.v 1)))) S.skip))))
theorem t38 : tbOf consts defs 38 = some (2, 3, b38) := by kernel_rfl
def b39 : S := S.seq (S.ret (E.mth Mth.join (E.k (D.str [])) (E.cons (E.comp false (Tg.nm 2) [2] (E.irng 1 (E.cons (E.v 1) E.nil)) E.yes (E.idx (E.k (D.str [97, 98, 99, 32, 10])) (E.call 37 2 (E.cons (E.v 0) (E.cons (E.k (D.int 5)) E.nil))))) E.nil))) S.skip
theorem t39 : tbOf consts defs 39 = some (2, 3, b39) := by kernel_rfl
def b40 : S := S.seq (S.set 2 (E.call 37 2 (E.cons (E.v 0) (E.cons (E.bin Bop.add (E.v 1) (E.k (D.int 1))) E.nil)))) (S.seq (S.ret (E.tup (E.cons (E.v 2) (E.cons (E.blt Blt.min2 (E.cons (E.bin Bop.sub (E.v 1) (E.v 2)) (E.cons (E.idx (E.lst false (E.cons (E.k (D.int 0)) (E.cons (E.k (D.int 1)) (E.cons (E.k (D.int 2)) (E.cons (E.k (D.int 5)) E.nil))))) (E.call 37 2 (E.cons (E.v 0) (E.cons (E.k (D.int 4)) E.nil)))) E.nil))) (E.cons (E.call 39 2 (E.cons (E.v 0) (E.cons (E.idx (E.lst false (E.cons (E.k (D.int 0)) (E.cons (E.k (D.int 1)) (E.cons (E.k (D.int 2)) (E.cons (E.k (D.int 4)) E.nil))))) (E.call 37 2 (E.cons (E.v 0) (E.cons (E.k (D.int 4)) E.nil)))) E.nil))) E.nil))))) S.skip)
theorem t40 : tbOf consts defs 40 = some (2, 3, b40) := by kernel_rfl
def b41 : S := S.seq (S.par2 2 3 (E.cons (E.lst true E.nil) (E.cons (E.call 37 2 (E.cons (E.v 0) (E.cons (E.k (D.int 4)) E.nil))) E.nil))) (S.seq (S.whl 100000 (E.cmp Cop.le (E.v 3) (E.v 1)) (S.seq (S.set 4 (E.blt Blt.min2 (E.cons (E.bin Bop.sub (E.v 1) (E.v 3)) (E.cons (E.call 37 2 (E.cons (E.v 0) (E.cons (E.k (D.int 3)) E.nil))) E.nil)))) (S.seq (S.drop (E.mth Mth.append (E.v 2) (E.cons (E.tup (E.cons (E.v 3) (E.cons (E.v 4) (E.cons (E.call 39 2 (E.cons (E.v 0) (E.cons (E.call 37 2 (E.cons (E.v 0) (E.cons (E.k (D.int 3)) E.nil))) E.nil))) E.nil)))) E.nil))) (S.seq (S.set 3 (E.bin Bop.add (E.bin Bop.add (E.bin Bop.add (E.v 3) (E.v 4)) (E.k (D.int 1))) (E.call 37 2 (E.cons (E.v 0) (E.cons (E.k (D.int 5)) E.nil))))) S.skip)))) (S.seq (S.ret (E.blt Blt.tuple (E.cons (E.sl false (E.v 2) E.nil (E.k (D.int 6))) E.nil))) S.skip))
theorem t41 : tbOf consts defs 41 = some (2, 5, b41) := by kernel_rfl
def b42 : S := S.seq (S.par2 3 4 (E.cons (E.lst false E.nil) (E.cons (E.k (D.int 0)) E.nil))) (S.seq (S.for_ (Tg.tp (Tg.cons (Tg.nm 5) (Tg.cons (Tg.nm 6) (Tg.cons (Tg.nm 7) Tg.nil)))) (E.iseq (E.v 1)) (S.seq (S.set 3 (E.bin Bop.add (E.bin Bop.add (E.v 3) (E.sl false (E.v 0) (E.v 4) (E.v 5))) (E.comp false (Tg.nm 8) [8] (E.irng 1 (E.cons (E.blt Blt.len (E.cons (E.v 7) E.nil)) E.nil)) E.yes (E.bin Bop.add (E.v 2) (E.v 8))))) (S.seq (S.tgt (Tg.tp (Tg.cons (Tg.nm 4) (Tg.cons (Tg.nm 2) Tg.nil))) (E.tup (E.cons (E.bin Bop.add (E.v 5) (E.v 6)) (E.cons (E.bin Bop.add (E.v 2) (E.blt Blt.len (E.cons (E.v 7) E.nil))) E.nil)))) S.skip))) (S.seq (S.ret (E.tup (E.cons (E.bin Bop.add (E.v 3) (E.sl false (E.v 0) (E.v 4) E.nil)) (E.cons (E.v 2) E.nil)))) S.skip))
theorem t42 : tbOf consts defs 42 = some (3, 9, b42) := by kernel_rfl
def b43 : S := S.seq (S.ret (E.blt Blt.tuple (E.cons (E.comp false (Tg.nm 2) [2] (E.irng 1 (E.cons (E.blt Blt.len (E.cons (E.v 0) E.nil)) E.nil)) (E.cmp Cop.in_ (E.idx (E.v 0) (E.v 2)) (E.v 1)) (E.tup (E.cons (E.v 2) (E.cons (E.mth Mth.index (E.v 1) (E.cons (E.idx (E.v 0) (E.v 2)) E.nil)) E.nil)))) E.nil))) S.skip
theorem t43 : tbOf consts defs 43 = some (2, 3, b43) := by kernel_rfl
def b44 : S := S.seq (S.set 2 (E.blt Blt.dict (E.cons (E.blt (Blt.list false) (E.cons (E.v 1) E.nil)) E.nil))) (S.seq (S.ret (E.blt Blt.tuple (E.cons (E.comp false (Tg.tp (Tg.cons (Tg.nm 3) (Tg.cons (Tg.nm 4) Tg.nil))) [3, 4] (E.iseq (E.v 0)) (E.cmp Cop.in_ (E.v 4) (E.v 2)) (E.tup (E.cons (E.v 3) (E.cons (E.idx (E.v 2) (E.v 4)) E.nil)))) E.nil))) S.skip)
theorem t44 : tbOf consts defs 44 = some (2, 5, b44) := by kernel_rfl
def b45 : S := S.seq (S.set 5 (E.lst true E.nil)) (S.seq (S.for_ (Tg.nm 6) (E.irng 1 (E.cons (E.bin Bop.add (E.blt Blt.len (E.cons (E.v 0) E.nil)) (E.k (D.int 1))) E.nil)) (S.seq (S.set 5 (E.catM (E.bin Bop.add (E.v 5) (E.ite (E.cmp Cop.eq (E.idx (E.v 1) (E.k (D.int 0))) (E.v 6)) (E.v 3) (E.lst false E.nil))) (E.ite (E.cmp Cop.eq (E.idx (E.v 2) (E.k (D.int 0))) (E.v 6)) (E.v 4) (E.lst false E.nil)))) (S.seq (S.ife (E.and (E.cmp Cop.lt (E.v 6) (E.blt Blt.len (E.cons (E.v 0) E.nil))) (E.and (E.not (E.chain Cop.le Cop.lt (E.idx (E.v 1) (E.k (D.int 0))) (E.v 6) (E.bin Bop.add (E.idx (E.v 1) (E.k (D.int 0))) (E.idx (E.v 1) (E.k (D.int 1)))))) (E.not (E.chain Cop.le Cop.lt (E.idx (E.v 2) (E.k (D.int 0))) (E.v 6) (E.bin Bop.add (E.idx (E.v 2) (E.k (D.int 0))) (E.idx (E.v 2) (E.k (D.int 1)))))))) (S.seq (S.drop (E.mth Mth.append (E.v 5) (E.cons (E.idx (E.v 0) (E.v 6)) E.nil))) S.skip) S.skip) S.skip))) (S.seq (S.ret (E.frz 5)) S.skip))
theorem t45 : tbOf consts defs 45 = some (5, 7, b45) := by kernel_rfl
def b46 : S := S.seq (S.par3 2 3 4 (E.cons (E.lrg false 1 (E.cons (E.blt Blt.len (E.cons (E.v 1) E.nil)) E.nil)) (E.cons (E.v 1) (E.cons (E.blt Blt.tuple (E.cons (E.comp false (Tg.nm 5) [5] (E.irng 1 (E.cons (E.blt Blt.len (E.cons (E.v 1) E.nil)) E.nil)) E.yes (E.tup (E.cons (E.v 5) (E.cons (E.v 5) E.nil)))) E.nil)) E.nil)))) (S.seq (S.par3 6 7 8 (E.cons (E.blt (Blt.list false) (E.cons (E.v 2) E.nil)) (E.cons (E.k (D.int 1000)) (E.cons (E.k (D.int 0)) E.nil)))) (S.seq (S.for_ (Tg.nm 9) (E.irng 1 (E.cons (E.k (D.int 3)) E.nil)) (S.seq (S.set 10 (E.call 41 2 (E.cons (E.v 0) (E.cons (E.blt Blt.len (E.cons (E.v 3) E.nil)) E.nil)))) (S.seq (S.tgt (Tg.tp (Tg.cons (Tg.nm 11) (Tg.cons (Tg.nm 7) Tg.nil))) (E.call 42 3 (E.cons (E.v 2) (E.cons (E.v 10) (E.cons (E.v 7) E.nil))))) (S.seq (S.tgt (Tg.tp (Tg.cons (Tg.nm 12) (Tg.cons (Tg.nm 13) Tg.nil))) (E.tup (E.cons (E.call 14 2 (E.cons (E.v 3) (E.cons (E.v 10) E.nil))) (E.cons (E.call 43 2 (E.cons (E.v 2) (E.cons (E.v 11) E.nil))) E.nil)))) (S.seq (S.set 14 (E.call 28 2 (E.cons (E.v 3) (E.cons (E.v 10) E.nil)))) (S.seq (S.ife (E.or (E.not (E.call 38 2 (E.cons (E.v 14) (E.cons (E.v 13) E.nil)))) (E.or (E.cmp Cop.ne (E.blt Blt.len (E.cons (E.v 12) E.nil)) (E.blt Blt.len (E.cons (E.v 11) E.nil))) (E.not (E.call 38 2 (E.cons (E.call 28 2 (E.cons (E.v 12) (E.cons (E.call 16 2 (E.cons (E.v 3) (E.cons (E.v 10) E.nil))) E.nil))) (E.cons (E.blt Blt.tuple (E.cons (E.comp false (Tg.nm 15) [15] (E.iseq (E.v 13)) E.yes (E.rev false (E.v 15))) E.nil)) E.nil)))))) (S.seq (S.ret (E.k (D.bl false))) S.skip) S.skip) (S.seq (S.set 16 (E.call 17 2 (E.cons (E.v 3) (E.cons (E.v 10) E.nil)))) (S.seq (S.ife (E.or (E.cmp Cop.ne (E.call 6 2 (E.cons (E.v 3) (E.cons (E.v 16) E.nil))) (E.v 12)) (E.cmp Cop.ne (E.comp false (Tg.nm 15) [15] (E.iseq (E.call 28 2 (E.cons (E.v 3) (E.cons (E.tup (E.cons (E.v 16) E.nil)) E.nil)))) (E.cmp Cop.nin (E.v 15) (E.v 13)) (E.v 15)) (E.lst false E.nil))) (S.seq (S.ret (E.k (D.bl false))) S.skip) S.skip) (S.seq (S.par2 17 18 (E.cons (E.call 15 2 (E.cons (E.v 3) (E.cons (E.v 10) E.nil))) (E.cons (E.v 3) E.nil))) (S.seq (S.for_ (Tg.nm 19) (E.iseq (E.v 17)) (S.seq (S.set 18 (E.call 6 2 (E.cons (E.v 18) (E.cons (E.v 19) E.nil)))) S.skip)) (S.seq (S.ife (E.cmp Cop.ne (E.v 18) (E.v 12)) (S.seq (S.ret (E.k (D.bl false))) S.skip) S.skip) (S.seq (S.for_ (Tg.tp (Tg.cons (Tg.nm 20) (Tg.cons (Tg.nm 21) Tg.nil))) (E.iseq (E.v 13)) (S.seq (S.ife (E.or (E.cmp Cop.ne (E.idx (E.v 12) (E.v 21)) (E.idx (E.v 3) (E.v 20))) (E.or (E.cmp Cop.ne (E.call 20 3 (E.cons (E.v 3) (E.cons (E.tup (E.cons (E.v 20) (E.cons (E.k (D.str [114, 105, 103, 104, 116])) E.nil))) (E.cons (E.v 10) E.nil)))) (E.tup (E.cons (E.v 21) (E.cons (E.k (D.str [114, 105, 103, 104, 116])) E.nil)))) (E.cmp Cop.ne (E.call 20 3 (E.cons (E.v 3) (E.cons (E.tup (E.cons (E.bin Bop.add (E.v 20) (E.k (D.int 1))) (E.cons (E.k (D.str [108, 101, 102, 116])) E.nil))) (E.cons (E.v 10) E.nil)))) (E.tup (E.cons (E.bin Bop.add (E.v 21) (E.k (D.int 1))) (E.cons (E.k (D.str [108, 101, 102, 116])) E.nil)))))) (S.seq (S.ret (E.k (D.bl false))) S.skip) S.skip) (S.seq (S.ife (E.cmp Cop.ne (E.call 19 2 (E.cons (E.tup (E.cons (E.v 20) (E.cons (E.k (D.str [114, 105, 103, 104, 116])) E.nil))) (E.cons (E.v 17) E.nil))) (E.tup (E.cons (E.v 21) (E.cons (E.k (D.str [114, 105, 103, 104, 116])) E.nil)))) (S.seq (S.ret (E.k (D.bl false))) S.skip) S.skip) S.skip))) (S.seq (S.par2 4 8 (E.cons (E.call 44 2 (E.cons (E.v 4) (E.cons (E.v 14) E.nil))) (E.cons (E.bin Bop.add (E.v 8) (E.call 29 1 (E.cons (E.v 10) E.nil))) E.nil))) (S.seq (S.par2 2 3 (E.cons (E.v 11) (E.cons (E.v 12) E.nil))) S.skip)))))))))))))) (S.seq (S.ife (E.not (E.call 38 2 (E.cons (E.v 4) (E.cons (E.call 43 2 (E.cons (E.v 6) (E.cons (E.v 2) E.nil))) E.nil)))) (S.seq (S.ret (E.k (D.bl false))) S.skip) S.skip) (S.seq (S.set 22 (E.call 35 2 (E.cons (E.v 1) (E.cons (E.v 3) E.nil)))) (S.seq (S.ret (E.and (E.cmp Cop.le (E.v 22) (E.v 8)) (E.cmp Cop.ge (E.bin Bop.sub (E.bin Bop.add (E.blt Blt.len (E.cons (E.v 1) E.nil)) (E.blt Blt.len (E.cons (E.v 3) E.nil))) (E.v 22)) (E.bin Bop.mul (E.k (D.int 2)) (E.blt Blt.len (E.cons (E.v 4) E.nil)))))) S.skip)))))
theorem t46 : tbOf consts defs 46 = some (2, 23, b46) := by kernel_rfl
def b47 : S := S.seq (S.set 2 (E.lrg false 1 (E.cons (E.blt Blt.len (E.cons (E.v 1) E.nil)) E.nil))) (S.seq (S.set 3 (E.call 40 2 (E.cons (E.v 0) (E.cons (E.blt Blt.len (E.cons (E.v 1) E.nil)) E.nil)))) (S.seq (S.tgt (Tg.tp (Tg.cons (Tg.nm 4) (Tg.cons (Tg.nm 5) Tg.nil))) (E.call 42 3 (E.cons (E.v 2) (E.cons (E.tup (E.cons (E.v 3) E.nil)) (E.cons (E.k (D.int 1000)) E.nil))))) (S.seq (S.set 6 (E.call 40 2 (E.cons (E.v 0) (E.cons (E.blt Blt.len (E.cons (E.v 4) E.nil)) E.nil)))) (S.seq (S.set 7 (E.idx (E.call 42 3 (E.cons (E.v 4) (E.cons (E.tup (E.cons (E.v 6) E.nil)) (E.cons (E.v 5) E.nil)))) (E.k (D.int 0)))) (S.seq (S.par2 8 9 (E.cons (E.call 11 3 (E.cons (E.v 1) (E.cons (E.v 3) (E.cons (E.v 6) E.nil)))) (E.cons (E.call 6 2 (E.cons (E.call 6 2 (E.cons (E.v 1) (E.cons (E.v 3) E.nil))) (E.cons (E.v 6) E.nil))) E.nil))) (S.seq (S.ife (E.or (E.cmp Cop.ne (E.call 6 2 (E.cons (E.v 1) (E.cons (E.v 8) E.nil))) (E.v 9)) (E.cmp Cop.ne (E.comp false (Tg.nm 10) [10] (E.iseq (E.call 28 2 (E.cons (E.v 1) (E.cons (E.tup (E.cons (E.v 8) E.nil)) E.nil)))) (E.cmp Cop.nin (E.v 10) (E.call 43 2 (E.cons (E.v 2) (E.cons (E.v 7) E.nil)))) (E.v 10)) (E.lst false E.nil))) (S.seq (S.ret (E.k (D.bl false))) S.skip) S.skip) (S.seq (S.set 11 (E.call 7 2 (E.cons (E.v 1) (E.cons (E.v 3) E.nil)))) (S.seq (S.set 12 (E.sl false (E.v 2) (E.idx (E.v 3) (E.k (D.int 0))) (E.bin Bop.add (E.idx (E.v 3) (E.k (D.int 0))) (E.idx (E.v 3) (E.k (D.int 1)))))) (S.seq (S.set 13 (E.call 45 5 (E.cons (E.v 4) (E.cons (E.v 11) (E.cons (E.v 6) (E.cons (E.v 12) (E.cons (E.comp false (Tg.nm 14) [14] (E.irng 1 (E.cons (E.blt Blt.len (E.cons (E.idx (E.v 6) (E.k (D.int 2))) E.nil)) E.nil)) E.yes (E.bin Bop.add (E.v 5) (E.v 14))) E.nil))))))) (S.seq (S.par2 15 16 (E.cons (E.call 27 3 (E.cons (E.v 1) (E.cons (E.v 3) (E.cons (E.v 6) E.nil)))) (E.cons (E.call 26 3 (E.cons (E.v 1) (E.cons (E.v 3) (E.cons (E.v 6) E.nil)))) E.nil))) (S.seq (S.ife (E.or (E.cmp Cop.ne (E.call 14 2 (E.cons (E.v 9) (E.cons (E.v 16) E.nil))) (E.v 15)) (E.or (E.cmp Cop.ne (E.blt Blt.len (E.cons (E.v 15) E.nil)) (E.blt Blt.len (E.cons (E.v 13) E.nil))) (E.not (E.call 38 2 (E.cons (E.call 28 2 (E.cons (E.v 9) (E.cons (E.v 16) E.nil))) (E.cons (E.call 43 2 (E.cons (E.v 7) (E.cons (E.v 13) E.nil))) E.nil)))))) (S.seq (S.ret (E.k (D.bl false))) S.skip) S.skip) (S.seq (S.set 17 (E.blt Blt.dict (E.cons (E.bin Bop.add (E.comp false (Tg.nm 14) [14] (E.irng 1 (E.cons (E.blt Blt.len (E.cons (E.v 2) E.nil)) E.nil)) E.yes (E.tup (E.cons (E.idx (E.v 2) (E.v 14)) (E.cons (E.idx (E.v 1) (E.v 14)) E.nil)))) (E.comp false (Tg.nm 14) [14] (E.irng 1 (E.cons (E.blt Blt.len (E.cons (E.idx (E.v 6) (E.k (D.int 2))) E.nil)) E.nil)) E.yes (E.tup (E.cons (E.bin Bop.add (E.v 5) (E.v 14)) (E.cons (E.idx (E.idx (E.v 6) (E.k (D.int 2))) (E.v 14)) E.nil))))) E.nil))) (S.seq (S.ret (E.and (E.cmp Cop.eq (E.v 15) (E.mth Mth.join (E.k (D.str [])) (E.cons (E.comp false (Tg.nm 18) [18] (E.iseq (E.v 13)) E.yes (E.idx (E.v 17) (E.v 18))) E.nil))) (E.cmp Cop.eq (E.call 6 2 (E.cons (E.v 1) (E.cons (E.call 10 2 (E.cons (E.v 1) (E.cons (E.v 15) E.nil))) E.nil))) (E.v 15)))) S.skip)))))))))))))
theorem t47 : tbOf consts defs 47 = some (2, 19, b47) := by kernel_rfl
def b48 : S := S.seq (S.set 2 (E.lrg false 1 (E.cons (E.blt Blt.len (E.cons (E.v 1) E.nil)) E.nil))) (S.seq (S.tgt (Tg.tp (Tg.cons (Tg.nm 3) (Tg.cons (Tg.nm 4) Tg.nil))) (E.tup (E.cons (E.call 40 2 (E.cons (E.v 0) (E.cons (E.blt Blt.len (E.cons (E.v 1) E.nil)) E.nil))) (E.cons (E.call 40 2 (E.cons (E.v 0) (E.cons (E.blt Blt.len (E.cons (E.v 1) E.nil)) E.nil))) E.nil)))) (S.seq (S.par2 5 6 (E.cons (E.comp false (Tg.nm 7) [7] (E.irng 1 (E.cons (E.blt Blt.len (E.cons (E.idx (E.v 3) (E.k (D.int 2))) E.nil)) E.nil)) E.yes (E.bin Bop.add (E.k (D.int 1000)) (E.v 7))) (E.cons (E.comp false (Tg.nm 7) [7] (E.irng 1 (E.cons (E.blt Blt.len (E.cons (E.idx (E.v 4) (E.k (D.int 2))) E.nil)) E.nil)) E.yes (E.bin Bop.add (E.k (D.int 2000)) (E.v 7))) E.nil))) (S.seq (S.set 8 (E.call 45 5 (E.cons (E.v 2) (E.cons (E.v 3) (E.cons (E.v 4) (E.cons (E.v 5) (E.cons (E.v 6) E.nil))))))) (S.seq (S.set 9 (E.blt Blt.dict (E.cons (E.bin Bop.add (E.bin Bop.add (E.comp false (Tg.nm 7) [7] (E.iseq (E.v 2)) E.yes (E.tup (E.cons (E.v 7) (E.cons (E.idx (E.v 1) (E.v 7)) E.nil)))) (E.comp false (Tg.nm 7) [7] (E.irng 1 (E.cons (E.blt Blt.len (E.cons (E.v 5) E.nil)) E.nil)) E.yes (E.tup (E.cons (E.bin Bop.add (E.k (D.int 1000)) (E.v 7)) (E.cons (E.idx (E.idx (E.v 3) (E.k (D.int 2))) (E.v 7)) E.nil))))) (E.comp false (Tg.nm 7) [7] (E.irng 1 (E.cons (E.blt Blt.len (E.cons (E.v 6) E.nil)) E.nil)) E.yes (E.tup (E.cons (E.bin Bop.add (E.k (D.int 2000)) (E.v 7)) (E.cons (E.idx (E.idx (E.v 4) (E.k (D.int 2))) (E.v 7)) E.nil))))) E.nil))) (S.seq (S.set 10 (E.call 25 3 (E.cons (E.v 1) (E.cons (E.v 3) (E.cons (E.v 4) E.nil))))) (S.seq (S.ife (E.cmp Cop.ne (E.v 10) (E.mth Mth.join (E.k (D.str [])) (E.cons (E.comp false (Tg.nm 11) [11] (E.iseq (E.v 8)) E.yes (E.idx (E.v 9) (E.v 11))) E.nil))) (S.seq (S.ret (E.k (D.bl false))) S.skip) S.skip) (S.seq (S.for_ (Tg.tp (Tg.cons (Tg.nm 12) (Tg.cons (Tg.nm 13) (Tg.cons (Tg.nm 14) Tg.nil)))) (E.iseq (E.lst false (E.cons (E.tup (E.cons (E.v 3) (E.cons (E.v 4) (E.cons (E.k (D.bl false)) E.nil)))) (E.cons (E.tup (E.cons (E.v 4) (E.cons (E.v 3) (E.cons (E.k (D.bl true)) E.nil)))) E.nil)))) (S.seq (S.par2 15 16 (E.cons (E.call 6 2 (E.cons (E.v 1) (E.cons (E.v 12) E.nil))) (E.cons (E.call 22 3 (E.cons (E.v 13) (E.cons (E.v 12) (E.cons (E.v 14) E.nil)))) E.nil))) (S.seq (S.set 17 (E.call 44 2 (E.cons (E.call 28 2 (E.cons (E.v 1) (E.cons (E.tup (E.cons (E.v 12) E.nil)) E.nil))) (E.cons (E.call 28 2 (E.cons (E.v 15) (E.cons (E.v 16) E.nil))) E.nil)))) (S.seq (S.ife (E.or (E.cmp Cop.ne (E.call 14 2 (E.cons (E.v 15) (E.cons (E.v 16) E.nil))) (E.v 10)) (E.or (E.not (E.call 38 2 (E.cons (E.v 17) (E.cons (E.call 43 2 (E.cons (E.v 2) (E.cons (E.v 8) E.nil))) E.nil)))) (E.cmp Cop.nin (E.blt Blt.len (E.cons (E.v 16) E.nil)) (E.lst false (E.cons (E.k (D.int 1)) (E.cons (E.k (D.int 2)) E.nil)))))) (S.seq (S.ret (E.k (D.bl false))) S.skip) S.skip) S.skip)))) (S.seq (S.ret (E.k (D.bl true))) S.skip))))))))
theorem t48 : tbOf consts defs 48 = some (2, 18, b48) := by kernel_rfl
def b49 : S := S.seq (S.set 1 (E.call 36 1 (E.cons (E.v 0) E.nil))) (S.seq (S.for_ (Tg.nm 2) (E.irng 1 (E.cons (E.k (D.int 3)) E.nil)) (S.seq (S.set 3 (E.call 39 2 (E.cons (E.v 1) (E.cons (E.call 37 2 (E.cons (E.v 1) (E.cons (E.k (D.int 24)) E.nil))) E.nil)))) (S.seq (S.ife (E.or (E.not (E.call 46 2 (E.cons (E.v 1) (E.cons (E.v 3) E.nil)))) (E.or (E.not (E.call 47 2 (E.cons (E.v 1) (E.cons (E.v 3) E.nil)))) (E.not (E.call 48 2 (E.cons (E.v 1) (E.cons (E.v 3) E.nil)))))) (S.seq (S.ret (E.k (D.bl false))) S.skip) S.skip) S.skip))) (S.seq (S.ret (E.k (D.bl true))) S.skip))
theorem t49 : tbOf consts defs 49 = some (1, 4, b49) := by kernel_rfl
end K01
set_option Elab.async false
set_option linter.all false
set_option autoImplicit false
set_option maxRecDepth 100000
set_option maxHeartbeats 1000000
/-! running the mini program by simp -/
namespace Mp
open PySem PySem.Spec L2
open PyProof.Rows hiding St
section
variable {cl : Nat → List D → Hs → Rs} {ς : Env'} {G : Hs}
@[simp] theorem bnd_s {α β : Type} {a : α} {G : Hs} {k : α → Hs → Option β} : bnd (some (a, G)) k = k a G := by rfl
def consK (x : D) (xs : D) (G : Hs) : Rs := match xs with | .tup r => some (.tup (x :: r), G) | _ => none
def argK (k : List D → Hs → Rs) (xs : D) (G : Hs) : Rs := match xs with | .tup ds => k ds G | _ => none
@[simp] theorem consK_s {x : D} {r : List D} : consK x (.tup r) G = some (.tup (x :: r), G) := by rfl
@[simp] theorem argK_s {k : List D → Hs → Rs} {r : List D} : argK k (.tup r) G = k r G := by rfl
@[simp] theorem ev_k1 {d : D} : (ev cl (.k d)).1 ς G = some (d, G) := by rfl
@[simp] theorem ev_v1 {i : Nat} : (ev cl (.v i)).1 ς G = (ς[i]?).bind fun o => o.bind fun d => some (d, G) := by rfl
@[simp] theorem ev_v2 {i : Nat} : (ev cl (.v i)).2 ς G = bnd ((ς[i]?).bind fun o => o.bind fun d => some (d, G)) truD := by rfl
@[simp] theorem ev_bin1 {o : Bop} {a b : E} : (ev cl (.bin o a b)).1 ς G = bnd ((ev cl a).1 ς G) fun x G1 => bnd ((ev cl b).1 ς G1) fun y G2 => binD o x y G2 := by rfl
@[simp] theorem ev_catM1 {a b : E} : (ev cl (.catM a b)).1 ς G = bnd ((ev cl a).1 ς G) fun x G1 => bnd ((ev cl b).1 ς G1) fun y G2 => catM x y G2 := by rfl
@[simp] theorem ev_neg1 {a : E} : (ev cl (.neg a)).1 ς G = bnd ((ev cl a).1 ς G) negD := by rfl
@[simp] theorem ev_cmp1 {o : Cop} {a b : E} : (ev cl (.cmp o a b)).1 ς G = bnd ((ev cl a).1 ς G) fun x G1 => bnd ((ev cl b).1 ς G1) fun y G2 => cmpD o x y G2 := by rfl
@[simp] theorem ev_cmp2 {o : Cop} {a b : E} : (ev cl (.cmp o a b)).2 ς G = blB (bnd ((ev cl a).1 ς G) fun x G1 => bnd ((ev cl b).1 ς G1) fun y G2 => cmpD o x y G2) := by rfl
def chK (o' : Cop) (h3 : Fn) (y : D) (ς : Env') (G2 : Hs) (r : Option Bool) : Rs := r.bind fun b => if b then bnd (h3 ς G2) fun z G3 => cmpD o' y z G3 else some (.bl false, G2)
@[simp] theorem ev_chain1 {o o' : Cop} {a b c : E} : (ev cl (.chain o o' a b c)).1 ς G = bnd ((ev cl a).1 ς G) fun x G1 => bnd ((ev cl b).1 ς G1) fun y G2 => chK o' (ev cl c).1 y ς G2 (cmpB o x y G2) := by rfl
@[simp] theorem ev_chain2 {o o' : Cop} {a b c : E} : (ev cl (.chain o o' a b c)).2 ς G = blB (bnd ((ev cl a).1 ς G) fun x G1 => bnd ((ev cl b).1 ς G1) fun y G2 => chK o' (ev cl c).1 y ς G2 (cmpB o x y G2)) := by rfl
@[simp] theorem chK_t {o' : Cop} {h3 : Fn} {y : D} : chK o' h3 y ς G (some true) = bnd (h3 ς G) fun z G3 => cmpD o' y z G3 := by rfl
@[simp] theorem chK_f {o' : Cop} {h3 : Fn} {y : D} : chK o' h3 y ς G (some false) = some (.bl false, G) := by rfl
@[simp] theorem ev_and1 {a b : E} : (ev cl (.and a b)).1 ς G = bnd (blB ((ev cl a).1 ς G)) fun c G1 => if c then (ev cl b).1 ς G1 else some (.bl false, G1) := by rfl
@[simp] theorem ev_and2 {a b : E} : (ev cl (.and a b)).2 ς G = bnd ((ev cl a).2 ς G) fun c G1 => if c then (ev cl b).2 ς G1 else some (false, G1) := by rfl
@[simp] theorem ev_or1 {a b : E} : (ev cl (.or a b)).1 ς G = bnd (blB ((ev cl a).1 ς G)) fun c G1 => if c then some (.bl true, G1) else (ev cl b).1 ς G1 := by rfl
@[simp] theorem ev_or2 {a b : E} : (ev cl (.or a b)).2 ς G = bnd ((ev cl a).2 ς G) fun c G1 => if c then some (true, G1) else (ev cl b).2 ς G1 := by rfl
@[simp] theorem ev_not1 {a : E} : (ev cl (.not a)).1 ς G = bnd (blB ((ev cl a).1 ς G)) fun b G1 => some (.bl (!b), G1) := by rfl
@[simp] theorem ev_not2 {a : E} : (ev cl (.not a)).2 ς G = bnd ((ev cl a).2 ς G) fun b G1 => some (!b, G1) := by rfl
@[simp] theorem ev_ite1 {c a b : E} : (ev cl (.ite c a b)).1 ς G = bnd ((ev cl c).2 ς G) fun t G1 => if t then (ev cl a).1 ς G1 else (ev cl b).1 ς G1 := by rfl
@[simp] theorem ev_nil1 : (ev cl .nil).1 ς G = some (.tup [], G) := by rfl
@[simp] theorem ev_cons1 {a b : E} : (ev cl (.cons a b)).1 ς G = bnd ((ev cl a).1 ς G) fun x G1 => bnd ((ev cl b).1 ς G1) (consK x) := by rfl
@[simp] theorem ev_tup1 {a : E} : (ev cl (.tup a)).1 ς G = bnd ((ev cl a).1 ς G) (argK tupK) := by rfl
@[simp] theorem ev_lst1 {m : Bool} {a : E} : (ev cl (.lst m a)).1 ς G = bnd ((ev cl a).1 ς G) (argK (lstK m)) := by rfl
@[simp] theorem ev_idx1 {a b : E} : (ev cl (.idx a b)).1 ς G = bnd ((ev cl a).1 ς G) fun x G1 => bnd ((ev cl b).1 ς G1) fun y G2 => idxD x y G2 := by rfl
@[simp] theorem ev_sl1 {m : Bool} {a lo hi : E} : (ev cl (.sl m a lo hi)).1 ς G = slF m (ev cl a).1 (if isNil lo then none else some (ev cl lo).1) (if isNil hi then none else some (ev cl hi).1) ς G := by rfl
@[simp] theorem slF_s {m : Bool} {f : Fn} {lo hi : Option Fn} : slF m f lo hi ς G = bnd (f ς G) fun x G1 => bnd (partD lo ς G1) fun l G2 => bnd (partD hi ς G2) fun u G3 => slD m x l u G3 := by rfl
@[simp] theorem partD_n : partD none ς G = some (none, G) := by rfl
@[simp] theorem partD_s {f : Fn} : partD (some f) ς G = bnd (f ς G) partI := by rfl
@[simp] theorem partI_i {i : Int} : partI (.int i) G = some (some i, G) := by rfl
@[simp] theorem ev_rev1 {m : Bool} {a : E} : (ev cl (.rev m a)).1 ς G = bnd ((ev cl a).1 ς G) (revD m) := by rfl
@[simp] theorem ev_isi1 {t : Ty} {a : E} : (ev cl (.isi t a)).1 ς G = bnd ((ev cl a).1 ς G) (isiD t) := by rfl
@[simp] theorem ev_isi2 {t : Ty} {a : E} : (ev cl (.isi t a)).2 ς G = bnd (bnd ((ev cl a).1 ς G) (isiD t)) truD := by rfl
@[simp] theorem ev_blt1 {b : Blt} {a : E} : (ev cl (.blt b a)).1 ς G = bnd ((ev cl a).1 ς G) (argK b.k) := by rfl
@[simp] theorem ev_mth1 {b : Mth} {o a : E} : (ev cl (.mth b o a)).1 ς G = bnd ((ev cl o).1 ς G) fun o G1 => if hasTy b.ty o G1 = true then bnd ((ev cl a).1 ς G1) (argK (b.k o)) else none := by rfl
@[simp] theorem ev_mth01 {b : Mth} {o : E} : (ev cl (.mth0 b o)).1 ς G = bnd ((ev cl o).1 ς G) fun o G1 => if hasTy b.ty o G1 = true then b.k o [] G1 else none := by rfl
@[simp] theorem ev_call1 {f n : Nat} {a : E} : (ev cl (.call f n a)).1 ς G = bnd ((ev cl a).1 ς G) (argK fun ds G => if ds.length = n then cl f ds G else none) := by rfl
@[simp] theorem ev_call2 {f n : Nat} {a : E} : (ev cl (.call f n a)).2 ς G = bnd (bnd ((ev cl a).1 ς G) (argK fun ds G => if ds.length = n then cl f ds G else none)) truD := by rfl
@[simp] theorem ev_lrg1 {m : Bool} {n : Nat} {a : E} : (ev cl (.lrg m n a)).1 ς G = bnd ((ev cl a).1 ς G) (argK fun ds G => if ds.length = n then lrgK m ds G else none) := by rfl
@[simp] theorem ev_lrev1 {m : Bool} {a : E} : (ev cl (.lrev m a)).1 ς G = bnd ((ev cl a).1 ς G) (lrevK m) := by rfl
@[simp] theorem ev_comp1 {m : Bool} {t : Tg} {own : List Nat} {it c e : E} : (ev cl (.comp m t own it c e)).1 ς G = bnd ((ev cl it).1 ς G) (argK fun ds G1 => bnd (loopC (ev cl c).2 (ev cl e).1 t (wipeE ς own) ds [] G1) (newD m)) := by rfl
@[simp] theorem ev_gen1 {sb : Bool} {t : Tg} {own : List Nat} {it e : E} : (ev cl (.gen sb t own it e)).1 ς G = bnd ((ev cl it).1 ς G) (argK fun ds G1 => loopG sb (ev cl e).1 t (wipeE ς own) ds G1) := by rfl
@[simp] theorem ev_gen2 {sb : Bool} {t : Tg} {own : List Nat} {it e : E} : (ev cl (.gen sb t own it e)).2 ς G = bnd (bnd ((ev cl it).1 ς G) (argK fun ds G1 => loopG sb (ev cl e).1 t (wipeE ς own) ds G1)) truD := by rfl
@[simp] theorem ev_iseq1 {a : E} : (ev cl (.iseq a)).1 ς G = bnd ((ev cl a).1 ς G) seqK := by rfl
@[simp] theorem ev_irng1 {n : Nat} {a : E} : (ev cl (.irng n a)).1 ς G = bnd ((ev cl a).1 ς G) (argK (arity n rngK)) := by rfl
@[simp] theorem ev_izip1 {a : E} : (ev cl (.izip a)).1 ς G = bnd ((ev cl a).1 ς G) (argK zipK) := by rfl
@[simp] theorem ev_ienum1 {a : E} : (ev cl (.ienum a)).1 ς G = bnd ((ev cl a).1 ς G) (argK enumK) := by rfl
@[simp] theorem ev_yes2 : (ev cl .yes).2 ς G = some (true, G) := by rfl
@[simp] theorem ev_frz1 {i : Nat} : (ev cl (.frz i)).1 ς G = (ς[i]?).bind fun o => o.bind fun d => frzK d G := by rfl
@[simp] theorem isNil_nil : isNil .nil = true := by rfl
@[simp] theorem isNil_v {i : Nat} : isNil (.v i) = false := by rfl
@[simp] theorem isNil_k {d : D} : isNil (.k d) = false := by rfl
@[simp] theorem isNil_bin {o : Bop} {a b : E} : isNil (.bin o a b) = false := by rfl
@[simp] theorem isNil_idx {a b : E} : isNil (.idx a b) = false := by rfl
@[simp] theorem isNil_blt {f : Blt} {a : E} : isNil (.blt f a) = false := by rfl
/-! data -/
@[simp] theorem blB_b {b : Bool} : blB (some (.bl b, G)) = some (b, G) := by rfl
@[simp] theorem truD_b {b : Bool} : truD (.bl b) G = some (b, G) := by rfl
@[simp] theorem cmpD_s {o : Cop} {x y : D} : cmpD o x y G = (cmpB o x y G).map fun b => (.bl b, G) := by rfl
@[simp] theorem bin_addi {i j : Int} : binD .add (.int i) (.int j) G = some (.int (i + j), G) := by rfl
@[simp] theorem bin_subi {i j : Int} : binD .sub (.int i) (.int j) G = some (.int (i - j), G) := by rfl
@[simp] theorem bin_adds {a b : List Nat} : binD .add (.str a) (.str b) G = if a.length + b.length ≤ sizeLine then some (.str (a ++ b), G) else none := by rfl
@[simp] theorem bin_addt {a b : List D} : binD .add (.tup a) (.tup b) G = if a.length + b.length ≤ sizeLine then some (.tup (a ++ b), G) else none := by rfl
@[simp] theorem bin_addl {a b : List D} : binD .add (.lst a) (.lst b) G = if a.length + b.length ≤ sizeLine then some (.lst (a ++ b), G) else none := by rfl
@[simp] theorem cmp_ltI {i j : Int} : cmpB .lt (.int i) (.int j) G = some (decide (i < j)) := by rfl
@[simp] theorem cmp_leI {i j : Int} : cmpB .le (.int i) (.int j) G = some (decide (i ≤ j)) := by rfl
@[simp] theorem cmp_gtI {i j : Int} : cmpB .gt (.int i) (.int j) G = some (decide (j < i)) := by rfl
@[simp] theorem cmp_geI {i j : Int} : cmpB .ge (.int i) (.int j) G = some (decide (j ≤ i)) := by rfl
@[simp] theorem cmp_eqI {i j : Int} : cmpB .eq (.int i) (.int j) G = some (i == j) := by rfl
@[simp] theorem cmp_neI {i j : Int} : cmpB .ne (.int i) (.int j) G = some (!(i == j)) := by rfl
@[simp] theorem cmp_eqS {i j : List Nat} : cmpB .eq (.str i) (.str j) G = some (i == j) := by rfl
@[simp] theorem cmp_neS {i j : List Nat} : cmpB .ne (.str i) (.str j) G = some (!(i == j)) := by rfl
@[simp] theorem cmp_leS {i j : List Nat} : cmpB .le (.str i) (.str j) G = some (!decide (j < i)) := by rfl
@[simp] theorem tupK_s {ds : List D} : tupK ds G = if ds.length ≤ sizeLine then some (.tup ds, G) else none := by rfl
@[simp] theorem lstK_s {m : Bool} {ds : List D} : lstK m ds G = if ds.length ≤ sizeLine then newD m ds G else none := by rfl
@[simp] theorem newD_f {ds : List D} : newD false ds G = some (.lst ds, G) := by rfl
@[simp] theorem newD_t {ds : List D} : newD true ds G = some (.ref G.length, G ++ [.lst ds]) := by rfl
@[simp] theorem blt_len {ds : List D} : Blt.len.k ds G = one lenD ds G := by rfl
@[simp] theorem blt_min2 {ds : List D} : Blt.min2.k ds G = two min2D ds G := by rfl
@[simp] theorem blt_max2 {ds : List D} : Blt.max2.k ds G = two max2D ds G := by rfl
@[simp] theorem blt_int {ds : List D} : Blt.int.k ds G = one intD ds G := by rfl
@[simp] theorem blt_abs {ds : List D} : Blt.abs.k ds G = one absD ds G := by rfl
@[simp] theorem blt_sum {ds : List D} : Blt.sum.k ds G = one sumD ds G := by rfl
@[simp] theorem blt_list {m : Bool} {ds : List D} : (Blt.list m).k ds G = one (listD m) ds G := by rfl
@[simp] theorem blt_tuple {ds : List D} : Blt.tuple.k ds G = one tupD ds G := by rfl
@[simp] theorem blt_dict {ds : List D} : Blt.dict.k ds G = one dictD ds G := by rfl
@[simp] theorem one_s {f : D → Hs → Rs} {d : D} : one f [d] G = f d G := by rfl
@[simp] theorem two_s {f : D → D → Hs → Rs} {d e : D} : two f [d, e] G = f d e G := by rfl
@[simp] theorem len_str {cs : List Nat} : lenD (.str cs) G = if cs.length ≤ sizeLine then some (.int cs.length, G) else none := by rfl
@[simp] theorem len_tup {ds : List D} : lenD (.tup ds) G = some (.int ds.length, G) := by rfl
@[simp] theorem len_lst {ds : List D} : lenD (.lst ds) G = some (.int ds.length, G) := by rfl
@[simp] theorem min2_s {i j : Int} : min2D (.int i) (.int j) G = some (.int (if j < i then j else i), G) := by rfl
@[simp] theorem max2_s {i j : Int} : max2D (.int i) (.int j) G = some (.int (if j > i then j else i), G) := by rfl
@[simp] theorem int_s {i : Int} : intD (.int i) G = some (.int i, G) := by rfl
@[simp] theorem abs_s {i : Int} : absD (.int i) G = some (.int (if i < 0 then -i else i), G) := by rfl
@[simp] theorem tup_t {ds : List D} : tupD (.tup ds) G = some (.tup ds, G) := by rfl
@[simp] theorem tup_l {ds : List D} : tupD (.lst ds) G = some (.tup ds, G) := by rfl
@[simp] theorem idx_tup {ds : List D} {k : Int} : idxD (.tup ds) (.int k) G = (atI ds k).map fun d => (d, G) := by rfl
@[simp] theorem idx_lst {ds : List D} {k : Int} : idxD (.lst ds) (.int k) G = (atI ds k).map fun d => (d, G) := by rfl
@[simp] theorem idx_str {cs : List Nat} {k : Int} : idxD (.str cs) (.int k) G = if cs.length ≤ sizeLine then (atI cs k).map fun c => (.str [c], G) else none := by rfl
@[simp] theorem sl_str {m : Bool} {cs : List Nat} {lo hi : Option Int} : slD m (.str cs) lo hi G = if cs.length ≤ sizeLine then some (.str (cutN cs lo hi), G) else none := by rfl
@[simp] theorem sl_tup {m : Bool} {ds : List D} {lo hi : Option Int} : slD m (.tup ds) lo hi G = some (.tup (cutN ds lo hi), G) := by rfl
@[simp] theorem sl_lst {ds : List D} {lo hi : Option Int} : slD false (.lst ds) lo hi G = some (.lst (cutN ds lo hi), G) := by rfl
@[simp] theorem rev_str {m : Bool} {cs : List Nat} : revD m (.str cs) G = if cs.length ≤ sizeLine then some (.str cs.reverse, G) else none := by rfl
@[simp] theorem rev_tup' {m : Bool} {ds : List D} : revD m (.tup ds) G = some (.tup ds.reverse, G) := by rfl
@[simp] theorem rev_lst {ds : List D} : revD false (.lst ds) G = some (.lst ds.reverse, G) := by rfl
@[simp] theorem seq_tup {ds : List D} : seqK (.tup ds) G = some (.tup ds, G) := by rfl
@[simp] theorem seq_lst {ds : List D} : seqK (.lst ds) G = some (.tup ds, G) := by rfl
@[simp] theorem seq_str {cs : List Nat} : seqK (.str cs) G = some (.tup (cs.map fun c => .str [c]), G) := by rfl
@[simp] theorem isi_s {t : Ty} {d : D} : isiD t d G = (tyD G d).bind fun t' => some (.bl (t' == t.nm || (t' == "bool" && t.nm == "int")), G) := by rfl
@[simp] theorem ty_int {i : Int} : tyD G (.int i) = some "int" := by rfl
@[simp] theorem ty_str {i : List Nat} : tyD G (.str i) = some "str" := by rfl
@[simp] theorem ty_tup {i : List D} : tyD G (.tup i) = some "tuple" := by rfl
@[simp] theorem ty_lst {i : List D} : tyD G (.lst i) = some "list" := by rfl
@[simp] theorem ty_bl {i : Bool} : tyD G (.bl i) = some "bool" := by rfl
@[simp] theorem nm_int : Ty.int.nm = "int" := by rfl
@[simp] theorem nm_bool : Ty.bool.nm = "bool" := by rfl
@[simp] theorem nm_str : Ty.str.nm = "str" := by rfl
@[simp] theorem nm_tup : Ty.tuple.nm = "tuple" := by rfl
@[simp] theorem nm_lst : Ty.list.nm = "list" := by rfl
/-! statements -/
@[simp] theorem evS_seq {a b : S} : evS cl (.seq a b) ς G = (evS cl a ς G).bind fun o => match o with | .nx ς1 G1 => evS cl b ς1 G1 | o => some o := by rfl
@[simp] theorem evS_skip : evS cl .skip ς G = some (.nx ς G) := by rfl
@[simp] theorem evS_set {i : Nat} {e : E} : evS cl (.set i e) ς G = bnd ((ev cl e).1 ς G) fun d G1 => some (.nx (ς.set i (some d)) G1) := by rfl
@[simp] theorem evS_tgt {t : Tg} {e : E} : evS cl (.tgt t e) ς G = bnd ((ev cl e).1 ς G) fun d G1 => (bindL t [d] ς).bind fun ς1 => some (.nx ς1 G1) := by rfl
def p2K (i j : Nat) (ς : Env') (d : D) (G1 : Hs) : Option Res := match d with | .tup [a, b] => some (.nx ((ς.set i (some a)).set j (some b)) G1) | _ => none
def p3K (i j l : Nat) (ς : Env') (d : D) (G1 : Hs) : Option Res := match d with | .tup [a, b, c] => some (.nx (((ς.set i (some a)).set j (some b)).set l (some c)) G1) | _ => none
@[simp] theorem evS_par2 {i j : Nat} {e : E} : evS cl (.par2 i j e) ς G = bnd ((ev cl e).1 ς G) (p2K i j ς) := by rfl
@[simp] theorem evS_par3 {i j l : Nat} {e : E} : evS cl (.par3 i j l e) ς G = bnd ((ev cl e).1 ς G) (p3K i j l ς) := by rfl
@[simp] theorem p2K_s {i j : Nat} {a b : D} : p2K i j ς (.tup [a, b]) G = some (.nx ((ς.set i (some a)).set j (some b)) G) := by rfl
@[simp] theorem p3K_s {i j l : Nat} {a b c : D} : p3K i j l ς (.tup [a, b, c]) G = some (.nx (((ς.set i (some a)).set j (some b)).set l (some c)) G) := by rfl
@[simp] theorem evS_aug {i : Nat} {o : Aop} {e : E} : evS cl (.aug i o e) ς G = (ς[i]?).bind fun q => q.bind fun d0 => bnd ((ev cl e).1 ς G) fun d G1 => bnd (augK o d0 d G1) fun z G2 => some (.nx (ς.set i (some z)) G2) := by rfl
@[simp] theorem aug_add {i j : Int} : augK .add (.int i) (.int j) G = some (.int (i + j), G) := by rfl
@[simp] theorem evS_drop {e : E} : evS cl (.drop e) ς G = bnd ((ev cl e).1 ς G) fun _ G1 => some (.nx ς G1) := by rfl
@[simp] theorem evS_ret {e : E} : evS cl (.ret e) ς G = bnd ((ev cl e).1 ς G) fun d G1 => some (.rt d G1) := by rfl
@[simp] theorem evS_ife {c : E} {a b : S} : evS cl (.ife c a b) ς G = bnd ((ev cl c).2 ς G) fun b' G1 => if b' = true then evS cl a ς G1 else evS cl b ς G1 := by rfl
@[simp] theorem evS_bad : evS cl .bad ς G = none := by rfl
@[simp] theorem outD_rt {d : D} : outD (.rt d G) = some (d, G) := by rfl
@[simp] theorem evS_for {t : Tg} {it : E} {b : S} : evS cl (.for_ t it b) ς G = bnd ((ev cl it).1 ς G) fun xs G1 => match xs with | .tup ds => loopF t (evS cl b) ds ς G1 | _ => none := by rfl
@[simp] theorem evS_whl {n : Nat} {c : E} {b : S} : evS cl (.whl n c b) ς G = loopW (ev cl c).2 (evS cl b) n ς G := by rfl
@[simp] theorem bindL_nm {i : Nat} {d : D} : bindL (.nm i) [d] ς = some (ς.set i (some d)) := by cases d <;> rfl
@[simp] theorem bindL_tp {l : Tg} {ds : List D} : bindL (.tp l) [.tup ds] ς = bindL l ds ς := by rfl
@[simp] theorem bindL_nil : bindL .nil [] ς = some ς := by rfl
@[simp] theorem bindL_cons {a b : Tg} {d : D} {ds : List D} : bindL (.cons a b) (d :: ds) ς = (bindL a [d] ς).bind (bindL b ds) := by cases a <;> rfl
end
end Mp
namespace K01
open PySem PySem.Spec L2 Mp
open PyProof.Rows hiding St

abbrev F := callF (tbOf consts defs)
theorem run_ {m j np ns : Nat} {b : S} {as : List D} {G : Hs} {r : Rs} (ht : tbOf consts defs j = some (np, ns, b)) (hl : as.length = np) (hm : 0 < m) (e : (evS (F (m - 1)) b (as.map some ++ List.replicate (ns - np) none) G).bind outD = r) : F m j as G = r := by
  obtain ⟨n, rfl⟩ : ∃ n, m = n + 1 := ⟨m - 1, by omega⟩
  show ((tbOf consts defs j).bind fun q => if as.length = q.1 then (evS (F n) q.2.2 (as.map some ++ List.replicate (q.2.1 - q.1) none) G).bind outD else none) = r
  rw [ht]
  simp only [Option.bind_some, hl, if_true]
  exact e
theorem cut_to {α : Type} (xs : List α) (p : Nat) : cutN xs none (some (p : Int)) = xs.take p := by
  unfold cutN
  rw [HT.sIx_none, HT.sIx_nat, List.drop_zero, Nat.sub_zero]
  simp
theorem cut_from {α : Type} (xs : List α) (p : Nat) : cutN xs (some (p : Int)) none = xs.drop p := by
  unfold cutN
  rw [HT.sIx_none, HT.sIx_nat]
  apply List.ext_getElem?
  intro i
  simp only [List.getElem?_take, List.getElem?_drop]
  by_cases h : p ≤ xs.length
  · rw [Nat.min_eq_left h]
    split
    · rfl
    · rw [List.getElem?_eq_none (by omega)]
  · rw [Nat.min_eq_right (by omega), List.getElem?_eq_none (by omega), List.getElem?_eq_none (by omega)]
    simp
theorem cut_both {α : Type} (xs : List α) (p q : Nat) : cutN xs (some (p : Int)) (some (q : Int)) = (xs.drop p).take (q - p) := by
  unfold cutN
  rw [HT.sIx_nat, HT.sIx_nat]
  apply List.ext_getElem?
  intro i
  simp only [List.getElem?_take, List.getElem?_drop]
  by_cases h : p ≤ xs.length
  · rw [Nat.min_eq_left h]
    split <;> split <;> first | rfl | omega | (rw [List.getElem?_eq_none (by omega)])
  · rw [Nat.min_eq_right (by omega : xs.length ≤ p), List.getElem?_eq_none (by omega), List.getElem?_eq_none (by omega)]
    simp
theorem sz : sizeLine = 16777216 := sizeLine_eq
def dE (p g : Nat) (c : List Nat) : D := .tup [.int p, .int g, .str c]

theorem cut_from2 {α : Type} (xs : List α) (p q : Nat) : cutN xs (some ((p : Int) + (q : Int))) none = xs.drop (p + q) := cut_from xs (p + q)
theorem put_in_run {m : Nat} (hm : 1 ≤ m) {G : Hs} {t c : List Nat} {p g : Nat} (h : t.length + c.length ≤ 8000000) : F m 5 [.str t, dE p g c] G = some (.str (t.take p ++ c ++ t.drop (p + g)), G) := by
  refine run_ t5 rfl hm ?_
  have h1 : t.length ≤ 16777216 := by omega
  have h2 : min p t.length + c.length ≤ 16777216 := by omega
  have h3 : min p t.length + (c.length + (t.length - (p + g))) ≤ 16777216 := by omega
  have h4 : min p t.length + c.length + (t.length - (p + g)) ≤ 16777216 := by omega
  simp [b5, dE, cut_to, cut_from2, sz, h1, h2, h3, h4]

/-! texts -/
def Sg (t : List Nat) : Prop := ∀ c ∈ t, c = 10 ∨ (32 ≤ c ∧ c ≤ 126)
def okE (t : List Nat) (p g : Nat) (c : List Nat) : Prop := p + g ≤ t.length ∧ Sg c ∧ t.length - g + c.length ≤ 2000 ∧ c.length ≤ 2000
theorem is_number_run {m : Nat} (hm : 1 ≤ m) {G : Hs} {v lo hi : Int} : F m 0 [.int v, .int lo, .int hi] G = some (.bl (decide (lo ≤ v) && decide (v ≤ hi)), G) := by
  refine run_ t0 rfl hm ?_
  by_cases h : lo ≤ v <;> simp [b0, h]
theorem is_signs_run {m : Nat} (hm : 1 ≤ m) {G : Hs} {t : List Nat} (h : Sg t) : F m 1 [.str t] G = some (.bl true, G) := by
  refine run_ t1 rfl hm ?_
  simp [b1]
  have key : ∀ (t : List Nat) (f : Fn) (ς : Env'), (∀ c ∈ t, f (ς.set 1 (some (.str [c]))) G = some (.bl true, G)) → loopG false f (.nm 1) ς (t.map fun c => .str [c]) G = some (.bl true, G) := by
    intro t f ς hf
    induction t with
    | nil => rfl
    | cons c t ih =>
      simp only [List.map_cons, loopG, bindL_nm, Option.bind_some, hf c (by simp), blB_b, bnd_s]
      rw [if_neg (by decide)]
      exact ih fun d hd => hf d (by simp [hd])
  rw [key _ _ _ fun c hc => ?_]
  · rfl
  · rcases h c hc with rfl | ⟨h1, h2⟩
    · simp [wipeE]
    · by_cases e : c = 10
      · subst e; simp [wipeE]
      · have e1 : ¬ c < 32 := by omega
        have e2 : ¬ 126 < c := by omega
        simp [wipeE, e, List.cons_lt_cons_iff, e1, e2]
theorem is_text_run {m : Nat} (hm : 2 ≤ m) {G : Hs} {t : List Nat} (h : Sg t) (hl : t.length ≤ 2000) : F m 2 [.str t] G = some (.bl true, G) := by
  refine run_ t2 rfl (by omega) ?_
  have h1 : t.length ≤ 16777216 := by omega
  have h2 : (t.length : Int) ≤ 2000 := by omega
  simp [b2, is_signs_run (m := m - 1) (by omega) h, h1, h2, sz]
theorem at3_0 {a b c : D} : atI [a, b, c] 0 = some a := rfl
theorem at3_1 {a b c : D} : atI [a, b, c] 1 = some b := rfl
theorem at3_2 {a b c : D} : atI [a, b, c] 2 = some c := rfl
theorem is_change_run {m : Nat} (hm : 3 ≤ m) {G : Hs} {t c : List Nat} {p g : Nat} (hl : t.length ≤ 5000) (h1 : p + g ≤ t.length) (h2 : Sg c) (h3 : c.length ≤ 2000) : F m 3 [.str t, dE p g c] G = some (.bl true, G) := by
  refine run_ t3 rfl (by omega) ?_
  have e1 : t.length ≤ 16777216 := by omega
  have e2 : (p : Int) ≤ t.length := by omega
  have e3 : (g : Int) ≤ (t.length : Int) - p := by omega
  simp [b3, dE, at3_0, at3_1, at3_2, is_text_run (m := m - 1) (by omega) h2 h3, is_number_run (m := m - 1) (by omega), e1, e2, e3, sz]
theorem is_edit_run {m : Nat} (hm : 4 ≤ m) {G : Hs} {t c : List Nat} {p g : Nat} (hl : t.length ≤ 5000) (h : okE t p g c) : F m 4 [.str t, dE p g c] G = some (.bl true, G) := by
  obtain ⟨h1, h2, h3, h4⟩ := h
  refine run_ t4 rfl (by omega) ?_
  have e1 : t.length ≤ 16777216 := by omega
  have e2 : (t.length : Int) - g + c.length ≤ 2000 := by omega
  have e3 : c.length ≤ 16777216 := by omega
  have e := is_change_run (m := m - 1) (by omega) (G := G) hl h1 h2 h4
  unfold dE at e ⊢
  simp [b4, at3_0, at3_1, at3_2, e, e1, e2, e3, sz]
def put (t : List Nat) (p g : Nat) (c : List Nat) : List Nat := t.take p ++ c ++ t.drop (p + g)
theorem applied_run {m : Nat} (hm : 5 ≤ m) {G : Hs} {t c : List Nat} {p g : Nat} (hl : t.length ≤ 5000) (h : okE t p g c) : F m 6 [.str t, dE p g c] G = some (.str (put t p g c), G) := by
  refine run_ t6 rfl (by omega) ?_
  have e := is_edit_run (m := m - 1) (by omega) (G := G) hl h
  have e2 := put_in_run (m := m - 1) (by omega) (G := G) (t := t) (c := c) (p := p) (g := g) (by have := h.2.2.2; omega)
  simp [b6, e, e2, put]
theorem inverse_run {m : Nat} (hm : 5 ≤ m) {G : Hs} {t c : List Nat} {p g : Nat} (hl : t.length ≤ 5000) (h : okE t p g c) : F m 7 [.str t, dE p g c] G = some (dE p c.length ((t.drop p).take g), G) := by
  refine run_ t7 rfl (by omega) ?_
  have e := is_edit_run (m := m - 1) (by omega) (G := G) hl h
  have h1 := h.2.2.2
  have e1 : t.length ≤ 16777216 := by omega
  have e2 : c.length ≤ 16777216 := by omega
  have e3 : cutN t (some (p : Int)) (some ((p : Int) + (g : Int))) = (t.drop p).take g := by
    have := cut_both t p (p + g)
    rw [Nat.add_sub_cancel_left] at this
    exact this
  unfold dE at e ⊢
  simp [b7, e, e1, e2, e3, sz]
end K01
set_option Elab.async false
set_option linter.all false
set_option autoImplicit false
set_option maxRecDepth 100000
set_option maxHeartbeats 1000000
namespace Mp
open PySem PySem.Spec L2
open PyProof.Rows hiding St
/-! loops -/
theorem loopW_run {c : FB} {f : FS} (I : Nat → Env' → Hs → Prop) (Q : Env' → Hs → Prop)
    (step : ∀ m ς G, I m ς G → ∃ b G1, c ς G = some (b, G1) ∧ (b = false → Q ς G1) ∧ (b = true → ∃ m' ς' G', m' < m ∧ f ς G1 = some (.nx ς' G') ∧ I m' ς' G')) :
    ∀ (n m : Nat) ς G, I m ς G → m < n → ∃ ς' G', loopW c f n ς G = some (.nx ς' G') ∧ Q ς' G'
  | 0, _, _, _, _, h => absurd h (Nat.not_lt_zero _)
  | n + 1, m, ς, G, i, h => by
    obtain ⟨b, G1, e1, h1, h2⟩ := step m ς G i
    cases b with
    | false => exact ⟨ς, G1, by simp [loopW, e1], h1 rfl⟩
    | true =>
      obtain ⟨m', ς', G', hm, e2, i'⟩ := h2 rfl
      obtain ⟨ς2, G2, e3, q⟩ := loopW_run I Q step n m' ς' G' i' (by omega)
      exact ⟨ς2, G2, by simp [loopW, e1, e2, e3], q⟩
theorem loopF_run {t : Tg} {f : FS} (I : List D → Env' → Hs → Prop) (step : ∀ d ds ς G, I (d :: ds) ς G → ∃ ς1 ς' G', bindL t [d] ς = some ς1 ∧ f ς1 G = some (.nx ς' G') ∧ I ds ς' G') :
    ∀ ds ς G, I ds ς G → ∃ ς' G', loopF t f ds ς G = some (.nx ς' G') ∧ I [] ς' G'
  | [], ς, G, i => ⟨ς, G, rfl, i⟩
  | d :: ds, ς, G, i => by
    obtain ⟨ς1, ς', G', e1, e2, i'⟩ := step d ds ς G i
    obtain ⟨ς2, G2, e3, q⟩ := loopF_run I step ds ς' G' i'
    exact ⟨ς2, G2, by simp [loopF, e1, e2, e3], q⟩
theorem loopG_all {f : Fn} {t : Tg} {ς : Env'} {G : Hs} : ∀ {ds : List D}, (∀ d ∈ ds, ∃ ς1, bindL t [d] ς = some ς1 ∧ f ς1 G = some (.bl true, G)) → loopG false f t ς ds G = some (.bl true, G)
  | [], _ => rfl
  | d :: ds, h => by
    obtain ⟨ς1, e1, e2⟩ := h d (by simp)
    simp only [loopG, e1, Option.bind_some, e2, blB_b, bnd_s]
    rw [if_neg (by decide)]
    exact loopG_all fun d hd => h d (by simp [hd])
theorem loopC_filter {c : FB} {e : Fn} {t : Tg} {ς : Env'} {G : Hs} (p : D → Bool) (f : D → D) : ∀ {ds acc : List D}, (∀ d ∈ ds, ∃ ς1, bindL t [d] ς = some ς1 ∧ c ς1 G = some (p d, G) ∧ (p d = true → e ς1 G = some (f d, G))) → acc.length + ds.length ≤ sizeLine →
    loopC c e t ς ds acc G = some (acc ++ (ds.filter p).map f, G)
  | [], acc, _, _ => by simp [loopC]
  | d :: ds, acc, h, hl => by
    obtain ⟨ς1, e1, e2, e3⟩ := h d (by simp)
    simp only [List.length_cons] at hl
    simp only [loopC, e1, Option.bind_some, e2, bnd_s]
    cases hp : p d with
    | true =>
      rw [if_pos rfl, e3 hp, bnd_s, if_pos (by omega), loopC_filter p f (fun d hd => h d (by simp [hd])) (by simp; omega)]
      simp [List.filter_cons, hp]
    | false =>
      rw [if_neg (by decide), loopC_filter p f (fun d hd => h d (by simp [hd])) (by omega)]
      simp [List.filter_cons, hp]
theorem loopC_map {c : FB} {e : Fn} {t : Tg} {ς : Env'} {G : Hs} (f : D → D) {ds : List D} (h : ∀ d ∈ ds, ∃ ς1, bindL t [d] ς = some ς1 ∧ c ς1 G = some (true, G) ∧ e ς1 G = some (f d, G)) (hl : ds.length ≤ sizeLine) :
    loopC c e t ς ds [] G = some (ds.map f, G) := by
  have := loopC_filter (c := c) (e := e) (t := t) (ς := ς) (G := G) (fun _ => true) f (ds := ds) (acc := []) (fun d hd => let ⟨a, b, c, d⟩ := h d hd; ⟨a, b, c, fun _ => d⟩) (by simpa using hl)
  rw [this, List.nil_append, List.filter_eq_self.mpr (fun _ _ => rfl)]
end Mp
namespace K01
open PySem PySem.Spec L2 Mp
open PyProof.Rows hiding St

theorem atS {cs : List Nat} {i : Nat} (h : i < cs.length) : atI cs (i : Int) = some cs[i] := by
  rw [atI_nat (j := i) (List.getElem?_eq_getElem h)]
/-! common_ahead, common_behind, between -/
theorem ahead_run {m : Nat} (hm : 1 ≤ m) {G : Hs} {a b : List Nat} (ha : a.length ≤ 5000) (hb : b.length ≤ 5000) :
    ∃ k : Nat, k ≤ a.length ∧ k ≤ b.length ∧ a.take k = b.take k ∧ F m 8 [.str a, .str b] G = some (.int k, G) := by
  have e1 : a.length ≤ 16777216 := by omega
  have e2 : b.length ≤ 16777216 := by omega
  obtain ⟨ς', G', e, k, h1, h2, h3, h4, h5⟩ := loopW_run (c := (ev (F (m - 1)) (E.and (E.cmp Cop.lt (E.v 2) (E.blt Blt.min2 (E.cons (E.blt Blt.len (E.cons (E.v 0) E.nil)) (E.cons (E.blt Blt.len (E.cons (E.v 1) E.nil)) E.nil)))) (E.cmp Cop.eq (E.idx (E.v 0) (E.v 2)) (E.idx (E.v 1) (E.v 2))))).2) (f := evS (F (m - 1)) (S.seq (S.aug 2 Aop.add (E.k (D.int 1))) S.skip))
    (fun n ς G' => ∃ k : Nat, k ≤ a.length ∧ k ≤ b.length ∧ a.take k = b.take k ∧ n = a.length - k ∧ ς = [some (.str a), some (.str b), some (.int k)] ∧ G' = G)
    (fun ς G' => ∃ k : Nat, k ≤ a.length ∧ k ≤ b.length ∧ a.take k = b.take k ∧ ς = [some (.str a), some (.str b), some (.int k)] ∧ G' = G)
    (fun n ς G' ⟨k, h1, h2, h3, h4, h5, h6⟩ => by
      subst h5 h6
      by_cases hk : k < a.length ∧ k < b.length
      · have i1 : (k : Int) < (if b.length < a.length then (b.length : Int) else a.length) := by split <;> omega
        refine ⟨a[k] == b[k], G', by simp [e1, e2, sz, i1, atS hk.1, atS hk.2], fun hq => ⟨k, h1, h2, h3, rfl, rfl⟩, fun hq => ⟨a.length - (k + 1), _, G', by omega, by simp, k + 1, hk.1, hk.2, ?_, rfl, rfl, rfl⟩⟩
        have hq : a[k] = b[k] := by simpa using hq
        rw [List.take_succ_eq_append_getElem hk.1, List.take_succ_eq_append_getElem hk.2, h3, hq]
      · have i1 : ¬ (k : Int) < (if b.length < a.length then (b.length : Int) else a.length) := by split <;> omega
        exact ⟨false, G', by simp [e1, e2, sz, i1], fun _ => ⟨k, h1, h2, h3, rfl, rfl⟩, fun h => by cases h⟩)
    100000 a.length [some (.str a), some (.str b), some (.int 0)] G ⟨0, Nat.zero_le _, Nat.zero_le _, rfl, rfl, rfl, rfl⟩ (by omega)
  refine ⟨k, h1, h2, h3, run_ t8 rfl hm ?_⟩
  simp only [b8, evS_seq, evS_set, ev_k1, bnd_s, Option.bind_some, evS_whl]
  have e0 : ((List.map some [D.str a, D.str b] ++ List.replicate (3 - 2) none : Env').set 2 (some (D.int 0))) = [some (.str a), some (.str b), some (.int 0)] := rfl
  rw [e0, e, h4, h5]
  simp
theorem behind_run {m : Nat} (hm : 1 ≤ m) {G : Hs} {a b : List Nat} {mo : Nat} (ha : a.length ≤ 5000) (hb : b.length ≤ 5000) (h1 : mo ≤ a.length) (h2 : mo ≤ b.length) :
    ∃ k : Nat, k ≤ mo ∧ a.drop (a.length - k) = b.drop (b.length - k) ∧ F m 9 [.str a, .str b, .int mo] G = some (.int k, G) := by
  have e1 : a.length ≤ 16777216 := by omega
  have e2 : b.length ≤ 16777216 := by omega
  obtain ⟨ς', G', e, k, k1, k2, h4, h5⟩ := loopW_run (c := (ev (F (m - 1)) (E.and (E.cmp Cop.lt (E.v 3) (E.v 2)) (E.cmp Cop.eq (E.idx (E.v 0) (E.bin Bop.sub (E.bin Bop.sub (E.blt Blt.len (E.cons (E.v 0) E.nil)) (E.k (D.int 1))) (E.v 3))) (E.idx (E.v 1) (E.bin Bop.sub (E.bin Bop.sub (E.blt Blt.len (E.cons (E.v 1) E.nil)) (E.k (D.int 1))) (E.v 3)))))).2) (f := evS (F (m - 1)) (S.seq (S.aug 3 Aop.add (E.k (D.int 1))) S.skip))
    (fun n ς G' => ∃ k : Nat, k ≤ mo ∧ a.drop (a.length - k) = b.drop (b.length - k) ∧ n = mo - k ∧ ς = [some (.str a), some (.str b), some (.int mo), some (.int k)] ∧ G' = G)
    (fun ς G' => ∃ k : Nat, k ≤ mo ∧ a.drop (a.length - k) = b.drop (b.length - k) ∧ ς = [some (.str a), some (.str b), some (.int mo), some (.int k)] ∧ G' = G)
    (fun n ς G' ⟨k, k1, k2, k3, k4, k5⟩ => by
      subst k4 k5
      by_cases hk : k < mo
      · have i1 : (k : Int) < mo := by omega
        have l1 : a.length - (k + 1) < a.length := by omega
        have l2 : b.length - (k + 1) < b.length := by omega
        have x1 : (a.length : Int) - 1 - k = ((a.length - (k + 1) : Nat) : Int) := by omega
        have x2 : (b.length : Int) - 1 - k = ((b.length - (k + 1) : Nat) : Int) := by omega
        have y1 : atI a ((a.length : Int) - 1 - k) = some a[a.length - (k + 1)] := by rw [x1]; exact atS l1
        have y2 : atI b ((b.length : Int) - 1 - k) = some b[b.length - (k + 1)] := by rw [x2]; exact atS l2
        refine ⟨a[a.length - (k + 1)] == b[b.length - (k + 1)], G', by simp [e1, e2, sz, hk, y1, y2], fun hq => ⟨k, k1, k2, rfl, rfl⟩, fun hq => ⟨mo - (k + 1), _, G', by omega, by simp, k + 1, hk, ?_, rfl, rfl, rfl⟩⟩
        have hq : a[a.length - (k + 1)] = b[b.length - (k + 1)] := by simpa using hq
        rw [List.drop_eq_getElem_cons l1, List.drop_eq_getElem_cons l2, show a.length - (k + 1) + 1 = a.length - k by omega, show b.length - (k + 1) + 1 = b.length - k by omega, k2, hq]
      · exact ⟨false, G', by simp [e1, e2, sz, hk], fun _ => ⟨k, k1, k2, rfl, rfl⟩, fun h => by cases h⟩)
    100000 mo [some (.str a), some (.str b), some (.int mo), some (.int 0)] G ⟨0, Nat.zero_le _, by simp, rfl, rfl, rfl⟩ (by omega)
  refine ⟨k, k1, k2, run_ t9 rfl hm ?_⟩
  simp only [b9, evS_seq, evS_set, ev_k1, bnd_s, Option.bind_some, evS_whl]
  have e0 : ((List.map some [D.str a, D.str b, D.int mo] ++ List.replicate (4 - 3) none : Env').set 3 (some (D.int 0))) = [some (.str a), some (.str b), some (.int mo), some (.int 0)] := rfl
  rw [e0, e, h4, h5]
  simp
theorem cut_mid {α : Type} (xs : List α) (p q : Nat) (h : p + q ≤ xs.length) : cutN xs (some (p : Int)) (some ((xs.length : Int) - (q : Int))) = (xs.drop p).take (xs.length - q - p) := by
  have e : (xs.length : Int) - (q : Int) = ((xs.length - q : Nat) : Int) := by omega
  rw [e, cut_both]
theorem between_run {m : Nat} (hm : 2 ≤ m) {G : Hs} {a b : List Nat} (ha : a.length ≤ 5000) (hb : b.length ≤ 5000) :
    ∃ k l : Nat, k + l ≤ a.length ∧ k + l ≤ b.length ∧ a.take k = b.take k ∧ a.drop (a.length - l) = b.drop (b.length - l) ∧
      F m 10 [.str a, .str b] G = some (dE k (a.length - k - l) ((b.drop k).take (b.length - l - k)), G) := by
  obtain ⟨k, k1, k2, k3, e⟩ := ahead_run (m := m - 1) (by omega) (G := G) ha hb
  obtain ⟨l, l1, l2, e2⟩ := behind_run (m := m - 1) (by omega) (G := G) (mo := min a.length b.length - k) ha hb (by omega) (by omega)
  refine ⟨k, l, by omega, by omega, k3, l2, run_ t10 rfl (by omega) ?_⟩
  have e1 : a.length ≤ 16777216 := by omega
  have e2' : b.length ≤ 16777216 := by omega
  have x1 : (if b.length < a.length then (b.length : Int) else (a.length : Int)) - (k : Int) = ((min a.length b.length - k : Nat) : Int) := by split <;> omega
  have x2 : (a.length : Int) - k - l = ((a.length - k - l : Nat) : Int) := by omega
  have x3 := cut_mid b k l (by omega)
  simp [b10, dE, e, e1, e2', sz, x1, e2, x2, x3]
end K01
set_option Elab.async false
set_option linter.all false
set_option autoImplicit false
set_option maxRecDepth 100000
set_option maxHeartbeats 1000000
namespace K01
open PySem PySem.Spec L2 Mp
open PyProof.Rows hiding St

theorem joined_run {m : Nat} (hm : 6 ≤ m) {G : Hs} {t c1 c2 : List Nat} {p1 g1 p2 g2 : Nat} (hl : t.length ≤ 2000) (h1 : okE t p1 g1 c1) (h2 : okE (put t p1 g1 c1) p2 g2 c2) (hl2 : (put t p1 g1 c1).length ≤ 2000) :
    F m 11 [.str t, dE p1 g1 c1, dE p2 g2 c2] G = some (dE (min p1 p2) (max (p1 + c1.length) (p2 + g2) - c1.length + g1 - min p1 p2)
      (((put (put t p1 g1 c1) p2 g2 c2).drop (min p1 p2)).take (max (p1 + c1.length) (p2 + g2) - g2 + c2.length - min p1 p2)), G) := by
  refine run_ t11 rfl (by omega) ?_
  have e1 := applied_run (m := m - 1) (by omega) (G := G) (by omega : t.length ≤ 5000) h1
  have e2 := applied_run (m := m - 1) (by omega) (G := G) (by omega : (put t p1 g1 c1).length ≤ 5000) h2
  generalize put t p1 g1 c1 = t2 at *
  have hl3 : (put t2 p2 g2 c2).length ≤ 5000 := by
    unfold put
    obtain ⟨a1, a2, a3, a4⟩ := h2
    simp; omega
  generalize put t2 p2 g2 c2 = t3 at *
  have f1 : c1.length ≤ 16777216 := by have := h1.2.2.2; omega
  have f2 : c2.length ≤ 16777216 := by have := h2.2.2.2; omega
  have f3 : t3.length ≤ 16777216 := by omega
  have x1 : (if p2 < p1 then (p2 : Int) else (p1 : Int)) = ((min p1 p2 : Nat) : Int) := by split <;> omega
  have x2 : (if (p1 : Int) + (c1.length : Int) < (p2 : Int) + (g2 : Int) then (p2 : Int) + (g2 : Int) else (p1 : Int) + (c1.length : Int)) = ((max (p1 + c1.length) (p2 + g2) : Nat) : Int) := by split <;> omega
  have x3 : ((max (p1 + c1.length) (p2 + g2) : Nat) : Int) - (c1.length : Int) + (g1 : Int) - ((min p1 p2 : Nat) : Int) = ((max (p1 + c1.length) (p2 + g2) - c1.length + g1 - min p1 p2 : Nat) : Int) := by omega
  have x4 : ((max (p1 + c1.length) (p2 + g2) : Nat) : Int) - (g2 : Int) + (c2.length : Int) = ((max (p1 + c1.length) (p2 + g2) - g2 + c2.length : Nat) : Int) := by omega
  unfold dE at e1 e2 ⊢
  simp only [b11, evS_seq, evS_set, evS_ret, evS_skip, ev_call1, ev_cons1, ev_v1, ev_nil1, ev_blt1, ev_idx1, ev_k1, ev_bin1, ev_tup1, ev_sl1, slF_s, partD_s, isNil_v, isNil_bin, List.map_cons, List.map_nil, List.cons_append, List.nil_append]
  simp [e1, e2, at3_0, at3_1, at3_2, f1, f2, f3, sz]
  exact ⟨x1, by rw [x1, x2]; exact x3, by rw [x1, x2, x4]; exact cut_both ..⟩
/-! edits at once -/
abbrev Ed := Nat × Nat × List Nat
def eD (e : Ed) : D := dE e.1 e.2.1 e.2.2
def esD (es : List Ed) : D := .tup (es.map eD)
def Sep : List Ed → Prop
  | e :: f :: r => e.1 + e.2.1 < f.1 ∧ Sep (f :: r)
  | _ => True
def grow (es : List Ed) : Int := (es.map fun e => (e.2.2.length : Int) - e.2.1).sum
structure OkEs (t : List Nat) (es : List Ed) : Prop where
  few : es.length ≤ 200
  each : ∀ e ∈ es, e.1 + e.2.1 ≤ t.length ∧ Sg e.2.2 ∧ e.2.2.length ≤ 2000
  sep : Sep es
  size : (t.length : Int) + grow es ≤ 2000
theorem Sep.at_ : ∀ {es : List Ed} {i : Nat} {e f : Ed}, Sep es → es[i]? = some e → es[i + 1]? = some f → e.1 + e.2.1 < f.1
  | a :: b :: r, 0, e, f, h, h1, h2 => by simp at h1 h2; subst h1 h2; exact h.1
  | a :: b :: r, i + 1, e, f, h, h1, h2 => Sep.at_ (es := b :: r) (i := i) h.2 (by simpa using h1) (by simpa using h2)
  | [a], 0, e, f, h, h1, h2 => by simp at h2
  | [a], i + 1, e, f, h, h1, h2 => by simp at h1
  | [], i, e, f, h, h1, h2 => by simp at h1
theorem atT {ds : List D} {i : Nat} {d : D} (h : ds[i]? = some d) : atI ds (i : Int) = some d := by rw [atI_nat (j := i) h]
theorem rgA_2 (i j : Int) : rgA [.int i, .int j] = if -(2 ^ 62) ≤ i ∧ i < 2 ^ 62 ∧ -(2 ^ 62) ≤ j ∧ j < 2 ^ 62 then some (i, 1, (j - i).toNat) else none := rfl
theorem rgA_1 (j : Int) : rgA [.int j] = if -(2 ^ 62) ≤ j ∧ j < 2 ^ 62 then some (0, 1, j.toNat) else none := rfl
theorem rng2_s {G : Hs} {i j : Int} {q : Int × Int × Nat} (h : rgA [.int i, .int j] = some q) : arity 2 rngK [.int i, .int j] G = some (.tup (rgN q.1 q.2.1 q.2.2), G) := by
  unfold arity rngK
  rw [if_pos (by rfl), h]; rfl
theorem rng1_s {G : Hs} {j : Int} {q : Int × Int × Nat} (h : rgA [.int j] = some q) : arity 1 rngK [.int j] G = some (.tup (rgN q.1 q.2.1 q.2.2), G) := by
  unfold arity rngK
  rw [if_pos (by rfl), h]; rfl
theorem sumI_s {G : Hs} {xs : List Int} : sumD (.lst (xs.map .int)) G = some (.int xs.sum, G) := by
  show (intsD (xs.map .int)).bind (fun ns => some (D.int ns.sum, G)) = _
  have : ∀ xs : List Int, intsD (xs.map D.int) = some xs := fun xs => by
    induction xs with
    | nil => rfl
    | cons x r ih => simp [intsD, ih]
  rw [this]; rfl
theorem sum_ints : ∀ (xs : List Int), intsD (xs.map D.int) = some xs
  | [] => rfl
  | x :: r => by simp [intsD, sum_ints r]
theorem ae_g1 {m : Nat} (hm : 4 ≤ m) {G : Hs} {t : List Nat} {es : List Ed} (hl : t.length ≤ 5000) (h : OkEs t es) :
    loopG false (ev (F (m - 1)) (E.call 3 2 (E.cons (E.v 0) (E.cons (E.v 2) E.nil)))).1 (Tg.nm 2) (wipeE [some (D.str t), some (D.tup (es.map eD)), none, none, none, none, none] [2]) (es.map eD) G = some (.bl true, G) := by
    refine loopG_all fun d hd => ?_
    obtain ⟨e, he, rfl⟩ := List.mem_map.mp hd
    obtain ⟨a1, a2, a3⟩ := h.each e he
    refine ⟨_, bindL_nm, ?_⟩
    have := is_change_run (m := m - 1) (by omega) (G := G) hl a1 a2 a3
    simp [wipeE, eD, this]
theorem ae_g2 {m : Nat} (hm : 4 ≤ m) {G : Hs} {t : List Nat} {es : List Ed} (hl : t.length ≤ 5000) (h : OkEs t es) :
    ∀ n : Nat, n = es.length → loopG false (ev (F (m - 1)) (E.cmp Cop.lt (E.bin Bop.add (E.idx (E.idx (E.v 1) (E.bin Bop.sub (E.v 3) (E.k (D.int 1)))) (E.k (D.int 0))) (E.idx (E.idx (E.v 1) (E.bin Bop.sub (E.v 3) (E.k (D.int 1)))) (E.k (D.int 1)))) (E.idx (E.idx (E.v 1) (E.v 3)) (E.k (D.int 0))))).1 (Tg.nm 3)
      (wipeE [some (D.str t), some (D.tup (es.map eD)), none, none, none, none, none] [3]) (rgN 1 1 (n - 1)) G = some (.bl true, G) := by
    intro n hn
    refine loopG_all fun d hd => ?_
    unfold rgN at hd
    obtain ⟨i, hi, rfl⟩ := List.mem_map.mp hd
    have hi : i < n - 1 := List.mem_range.mp hi
    refine ⟨_, bindL_nm, ?_⟩
    have q1 : es[i]? = some es[i] := List.getElem?_eq_getElem (by omega)
    have q2 : es[i + 1]? = some es[i + 1] := List.getElem?_eq_getElem (by omega)
    have sp := h.sep.at_ q1 q2
    have r1 : (es.map eD)[i]? = some (eD es[i]) := by rw [List.getElem?_map, q1]; rfl
    have r2 : (es.map eD)[i + 1]? = some (eD es[i + 1]) := by rw [List.getElem?_map, q2]; rfl
    have x1 : (1 : Int) + (i : Nat) * 1 - 1 = ((i : Nat) : Int) := by omega
    have x2 : (1 : Int) + (i : Nat) * 1 = ((i + 1 : Nat) : Int) := by omega
    have y1 := atT r1
    have y2 : atI (es.map eD) (1 + (i : Int)) = some (eD es[i + 1]) := by
      have := atT r2
      rw [show ((i + 1 : Nat) : Int) = 1 + (i : Int) by omega] at this
      exact this
    have x3 : (1 : Int) + (i : Int) - 1 = (i : Int) := by omega
    have sp' : (es[i].1 : Int) + es[i].2.1 < es[i + 1].1 := by omega
    simp only [ev_cmp1, ev_bin1, ev_idx1, ev_v1, ev_k1, wipeE, List.set_cons_succ, List.set_cons_zero, List.getElem?_cons_succ, List.getElem?_cons_zero, Option.bind_some, bnd_s, Int.mul_one, bin_subi, x3, idx_tup, y1, y2, Option.map_some, eD, dE, at3_0, at3_1, bin_addi, cmpD_s, cmp_ltI]
    simp [sp']
theorem ae_g3 {m : Nat} (hm : 4 ≤ m) {G : Hs} {t : List Nat} {es : List Ed} (hl : t.length ≤ 5000) (h : OkEs t es) :
    loopC (ev (F (m - 1)) E.yes).2 (ev (F (m - 1)) (E.bin Bop.sub (E.blt Blt.len (E.cons (E.v 6) E.nil)) (E.v 5))).1 (Tg.tp (Tg.cons (Tg.nm 4) (Tg.cons (Tg.nm 5) (Tg.cons (Tg.nm 6) Tg.nil)))) (wipeE [some (D.str t), some (D.tup (es.map eD)), none, none, none, none, none] [4, 5, 6]) (es.map eD) [] G =
      some ((es.map fun e => (e.2.2.length : Int) - e.2.1).map D.int, G) := by
    have : ∀ (l : List Ed), (∀ e ∈ l, e ∈ es) → ∀ acc : List D, acc.length + l.length ≤ 16777216 → loopC (ev (F (m - 1)) E.yes).2 (ev (F (m - 1)) (E.bin Bop.sub (E.blt Blt.len (E.cons (E.v 6) E.nil)) (E.v 5))).1 (Tg.tp (Tg.cons (Tg.nm 4) (Tg.cons (Tg.nm 5) (Tg.cons (Tg.nm 6) Tg.nil)))) (wipeE [some (D.str t), some (D.tup (es.map eD)), none, none, none, none, none] [4, 5, 6]) (l.map eD) acc G =
        some (acc ++ (l.map fun e => (e.2.2.length : Int) - e.2.1).map D.int, G) := by
      intro l hl' acc hacc
      induction l generalizing acc with
      | nil => simp [loopC]
      | cons e l ih =>
        simp only [List.length_cons] at hacc
        have a3 : e.2.2.length ≤ 16777216 := by have := (h.each e (hl' e (by simp))).2.2; omega
        have a4 : acc.length < 16777216 := by omega
        simp only [List.map_cons, loopC, eD, dE, bindL_tp, bindL_cons, bindL_nm, bindL_nil, Option.bind_some, ev_yes2, bnd_s, if_true]
        simp only [wipeE, List.set_cons_succ, List.set_cons_zero, ev_bin1, ev_blt1, ev_cons1, ev_v1, ev_nil1, List.getElem?_cons_succ, List.getElem?_cons_zero, Option.bind_some, bnd_s, consK_s, argK_s, blt_len, one_s, Mp.len_str, sz, a3, if_true, bin_subi, a4]
        have := ih (fun x hx => hl' x (by simp [hx])) (acc ++ [.int ((e.2.2.length : Int) - e.2.1)]) (by simp; omega)
        simp only [wipeE, List.set_cons_succ, List.set_cons_zero, List.append_assoc, List.singleton_append] at this
        exact this
    have := this es (fun e he => he) [] (by have := h.few; simp; omega)
    simpa using this
theorem seq_ife_f {cl : Nat → List D → Hs → Rs} {ς : Env'} {G G1 : Hs} {c : E} {a r : S} (h : (ev cl c).2 ς G = some (false, G1)) : evS cl (.seq (.ife c a .skip) r) ς G = evS cl r ς G1 := by
  rw [evS_seq, evS_ife, h]; rfl
theorem seq_ife_t {cl : Nat → List D → Hs → Rs} {ς : Env'} {G G1 : Hs} {c e : E} {d : Rs} {b r : S} (h : (ev cl c).2 ς G = some (true, G1)) (h2 : (ev cl e).1 ς G1 = d) : evS cl (.seq (.ife c (.seq (.ret e) .skip) b) r) ς G = bnd d fun d G2 => some (.rt d G2) := by
  rw [evS_seq, evS_ife, h]
  show (evS cl (.seq (.ret e) .skip) ς G1).bind _ = _
  rw [evS_seq, evS_ret, h2]
  rcases d with _ | ⟨d, G2⟩ <;> rfl
theorem seq_ret {cl : Nat → List D → Hs → Rs} {ς : Env'} {G G1 : Hs} {e : E} {d : D} {r : S} (h : (ev cl e).1 ς G = some (d, G1)) : (evS cl (.seq (.ret e) r) ς G).bind outD = some (d, G1) := by
  rw [evS_seq, evS_ret, h]; rfl
theorem or_ff {cl : Nat → List D → Hs → Rs} {ς : Env'} {G G1 G2 : Hs} {a b : E} {x : Bool} (h : (ev cl a).2 ς G = some (false, G1)) (h2 : (ev cl b).2 ς G1 = some (x, G2)) : (ev cl (.or a b)).2 ς G = some (x, G2) := by
  rw [ev_or2, h]; exact h2
theorem and_tt {cl : Nat → List D → Hs → Rs} {ς : Env'} {G G1 G2 : Hs} {a b : E} {x : Bool} (h : (ev cl a).2 ς G = some (true, G1)) (h2 : (ev cl b).2 ς G1 = some (x, G2)) : (ev cl (.and a b)).2 ς G = some (x, G2) := by
  rw [ev_and2, h]; exact h2
theorem not_t {cl : Nat → List D → Hs → Rs} {ς : Env'} {G G1 : Hs} {a : E} {x : Bool} (h : (ev cl a).2 ς G = some (x, G1)) : (ev cl (.not a)).2 ς G = some (!x, G1) := by
  rw [ev_not2, h]; rfl
theorem two_of {cl : Nat → List D → Hs → Rs} {ς : Env'} {G G1 : Hs} {sb : Bool} {t : Tg} {own : List Nat} {it e : E} {x : Bool} {ds : List D} (h : (ev cl it).1 ς G = some (.tup ds, G)) (h2 : loopG sb (ev cl e).1 t (wipeE ς own) ds G = some (.bl x, G1)) : (ev cl (.gen sb t own it e)).2 ς G = some (x, G1) := by
  rw [ev_gen2, h, bnd_s, argK_s, h2]; rfl
theorem are_edits_run {m : Nat} (hm : 4 ≤ m) {G : Hs} {t : List Nat} {es : List Ed} (hl : t.length ≤ 5000) (h : OkEs t es) : F m 12 [.str t, esD es] G = some (.bl true, G) := by
  refine run_ t12 rfl (by omega) ?_
  have f1 : t.length ≤ 16777216 := by omega
  have few : ¬ (200 : Int) < es.length := by have := h.few; omega
  have g1 := ae_g1 hm (G := G) hl h
  have g2 := ae_g2 hm (G := G) hl h
  have g3 := ae_g3 hm (G := G) hl h
  have sz1 : (t.length : Int) + (es.map fun e => (e.2.2.length : Int) - e.2.1).sum ≤ 2000 := h.size
  have rg : rgA [.int 1, .int (es.length : Int)] = some (1, 1, es.length - 1) := by
    have hf := h.few
    have e : ((es.length : Int) - 1).toNat = es.length - 1 := by omega
    rw [rgA_2, if_pos (by omega), e]
  have rr : arity 2 rngK [D.int 1, D.int (es.length : Int)] G = some (.tup (rgN 1 1 (es.length - 1)), G) := rng2_s rg
  show (evS (F (m - 1)) b12 [some (D.str t), some (D.tup (es.map eD)), none, none, none, none, none] G).bind outD = _
  unfold b12
  have c1 : (ev (F (m - 1)) (E.not (E.isi Ty.tuple (E.v 1)))).2 [some (D.str t), some (D.tup (es.map eD)), none, none, none, none, none] G = some (false, G) := by
    simp
  have c2 : (ev (F (m - 1)) (E.cmp Cop.gt (E.blt Blt.len (E.cons (E.v 1) E.nil)) (E.k (D.int 200)))).2 [some (D.str t), some (D.tup (es.map eD)), none, none, none, none, none] G = some (false, G) := by
    simp [few]
  have c3 := not_t (two_of (it := E.iseq (E.v 1)) (G := G) (by simp) g1)
  have c4 := not_t (two_of (it := E.irng 2 (E.cons (E.k (D.int 1)) (E.cons (E.blt Blt.len (E.cons (E.v 1) E.nil)) E.nil))) (G := G) (by simp [rr]) (g2 _ rfl))
  rw [seq_ife_f (or_ff c1 (or_ff c2 c3)), seq_ife_f c4]
  refine seq_ret ?_
  simp only [ev_cmp1, ev_bin1, ev_blt1, ev_cons1, ev_nil1, ev_comp1, ev_iseq1, ev_v1, ev_k1, List.getElem?_cons_zero, List.getElem?_cons_succ, Option.bind_some, bnd_s, consK_s, argK_s, blt_len, one_s, seq_tup, Mp.len_str, sz, f1, if_true, g3, newD_f, blt_sum, sumI_s, bin_addi, cmpD_s, cmp_leI, Option.map_some]
  rw [decide_eq_true sz1]
end K01
set_option Elab.async false
set_option linter.all false
set_option autoImplicit false
set_option maxRecDepth 100000
set_option maxHeartbeats 1000000
namespace Mp
open PySem PySem.Spec L2
open PyProof.Rows hiding St
/-! cells -/
theorem at_new {G : Hs} {c : Cell} : (G ++ [c])[G.length]? = some c := by simp
theorem set_new {G : Hs} {c d : Cell} : (G ++ [c]).set G.length d = G ++ [d] := by simp
theorem app_s {G : Hs} {n : Nat} {ds : List D} {x : D} (h : G[n]? = some (.lst ds)) (hl : ds.length < 16777216) : appendM (.ref n) [x] G = some (.non, G.set n (.lst (ds ++ [x]))) := by
  have hl : ds.length < sizeLine := by rw [sizeLine_eq]; exact hl
  simp [appendM, h, hl]
theorem ext_s {G : Hs} {n : Nat} {ds xs : List D} {x : D} (h : G[n]? = some (.lst ds)) (hx : Mp.listOf G x = some xs) (hl : ds.length + xs.length ≤ 16777216) : extendM (.ref n) [x] G = some (.non, G.set n (.lst (ds ++ xs))) := by
  have hl : ds.length + xs.length ≤ sizeLine := by rw [sizeLine_eq]; exact hl
  simp [extendM, h, hx, hl]
theorem ref_ty {G : Hs} {n : Nat} {ds : List D} (h : G[n]? = some (.lst ds)) : hasTy .list (.ref n) G = true := by
  simp [hasTy, Mp.roOf, Mp.listOf, h]
theorem tup_r {G : Hs} {n : Nat} {ds : List D} (h : G[n]? = some (.lst ds)) : tupD (.ref n) G = some (.tup ds, G) := by
  simp [tupD, seqOf, Mp.roOf, Mp.listOf, h]
theorem len_r {G : Hs} {n : Nat} {ds : List D} (h : G[n]? = some (.lst ds)) : lenD (.ref n) G = some (.int ds.length, G) := by
  simp [lenD, seqOf, Mp.roOf, Mp.listOf, h]
theorem idx_r {G : Hs} {n : Nat} {k : Int} {ds : List D} (h : G[n]? = some (.lst ds)) : idxD (.ref n) (.int k) G = (atI ds k).map fun d => (d, G) := by
  simp [idxD, h]
theorem frz_r {G : Hs} {n : Nat} {ds : List D} (h : G[n]? = some (.lst ds)) : frzK (.ref n) G = some (.lst ds, G.set n .gone) := by
  simp [frzK, h]
theorem app_new {G : Hs} {ds : List D} {x : D} (hl : ds.length < 16777216) : appendM (.ref G.length) [x] (G ++ [.lst ds]) = some (.non, G ++ [.lst (ds ++ [x])]) := by
  rw [app_s at_new hl, set_new]
theorem ext_new {G : Hs} {ds xs : List D} {x : D} (hx : Mp.listOf (G ++ [.lst ds]) x = some xs) (hl : ds.length + xs.length ≤ 16777216) : extendM (.ref G.length) [x] (G ++ [.lst ds]) = some (.non, G ++ [.lst (ds ++ xs)]) := by
  rw [ext_s at_new hx hl, set_new]
end Mp
namespace K01
open PySem PySem.Spec L2 Mp
open PyProof.Rows hiding St

theorem drop_s {cl : Nat → List D → Hs → Rs} {ς : Env'} {G G1 : Hs} {e : E} {d : D} {r : S} (h : (ev cl e).1 ς G = some (d, G1)) : evS cl (.seq (.drop e) r) ς G = evS cl r ς G1 := by
  rw [evS_seq, evS_drop, h]; rfl
theorem set_s {cl : Nat → List D → Hs → Rs} {ς : Env'} {G G1 : Hs} {i : Nat} {e : E} {d : D} {r : S} (h : (ev cl e).1 ς G = some (d, G1)) : evS cl (.seq (.set i e) r) ς G = evS cl r (ς.set i (some d)) G1 := by
  rw [evS_seq, evS_set, h]; rfl
theorem tgt_s {cl : Nat → List D → Hs → Rs} {ς ς' : Env'} {G G1 : Hs} {t : Tg} {e : E} {d : D} {r : S} (h : (ev cl e).1 ς G = some (d, G1)) (h2 : bindL t [d] ς = some ς') : evS cl (.seq (.tgt t e) r) ς G = evS cl r ς' G1 := by
  rw [evS_seq, evS_tgt, h, bnd_s, h2]; rfl
theorem seq_nx {cl : Nat → List D → Hs → Rs} {ς ς' : Env'} {G G1 : Hs} {a r : S} (h : evS cl a ς G = some (.nx ς' G1)) : evS cl (.seq a r) ς G = evS cl r ς' G1 := by
  rw [evS_seq, h]; rfl
theorem for_nx {cl : Nat → List D → Hs → Rs} {ς ς' : Env'} {G G1 G2 : Hs} {t : Tg} {it : E} {b r : S} {ds : List D} (h : (ev cl it).1 ς G = some (.tup ds, G1)) (h2 : loopF t (evS cl b) ds ς G1 = some (.nx ς' G2)) : evS cl (.seq (.for_ t it b) r) ς G = evS cl r ς' G2 := by
  rw [evS_seq, evS_for, h, bnd_s]
  show (loopF t (evS cl b) ds ς G1).bind _ = _
  rw [h2]; rfl

/-! ### 13 to 17 -/
theorem check_edits_run {m : Nat} (hm : 5 ≤ m) {G : Hs} {t : List Nat} {es : List Ed} (hl : t.length ≤ 5000) (h : OkEs t es) : F m 13 [.str t, esD es] G = some (.non, G) := by
  refine run_ t13 rfl (by omega) ?_
  have e := are_edits_run (m := m - 1) (by omega) (G := G) hl h
  simp [b13, e, outD]
def putE (t : List Nat) (e : Ed) : List Nat := put t e.1 e.2.1 e.2.2
def putAll (t : List Nat) (es : List Ed) : List Nat := es.foldr (fun e t => putE t e) t
theorem putE_len {t : List Nat} {e : Ed} : (putE t e).length ≤ t.length + e.2.2.length := by
  unfold putE put; simp; omega
theorem for_put {cl : Nat → List D → Hs → Rs} {v1 : D} {G : Hs} (hcl : ∀ t (e : Ed), t.length + e.2.2.length ≤ 8000000 → cl 5 [.str t, eD e] G = some (.str (putE t e), G)) : ∀ (es : List Ed) (t : List Nat) (o : Option D), (∀ e ∈ es, e.2.2.length ≤ 2000) → t.length + 2000 * es.length ≤ 8000000 →
    ∃ o', loopF (.nm 2) (evS cl (S.seq (S.set 0 (E.call 5 2 (E.cons (E.v 0) (E.cons (E.v 2) E.nil)))) S.skip)) (es.map eD) [some (.str t), some v1, o] G = some (.nx [some (.str (es.foldl putE t)), some v1, o'] G)
  | [], t, o, _, _ => ⟨o, rfl⟩
  | e :: es, t, o, h1, h2 => by
    have hc := h1 e (by simp)
    simp only [List.length_cons] at h2
    have hp := @putE_len t e
    obtain ⟨o', ih⟩ := for_put hcl es (putE t e) (some (eD e)) (fun x hx => h1 x (by simp [hx])) (by omega)
    refine ⟨o', ?_⟩
    have e1 := hcl t e (by omega)
    simp only [List.map_cons, loopF, bindL_nm, Option.bind_some, List.set_cons_succ, List.set_cons_zero]
    rw [set_s (d := .str (putE t e)) (G1 := G) (by simp [e1])]
    exact ih
theorem all_applied_run {m : Nat} (hm : 6 ≤ m) {G : Hs} {t : List Nat} {es : List Ed} (hl : t.length ≤ 5000) (h : OkEs t es) : F m 14 [.str t, esD es] G = some (.str (putAll t es), G) := by
  refine run_ t14 rfl (by omega) ?_
  have e := check_edits_run (m := m - 1) (by omega) (G := G) hl h
  have hf := h.few
  obtain ⟨o', hr⟩ := for_put (cl := F (m - 1)) (v1 := esD es) (G := G) (fun t e ht => put_in_run (m := m - 1) (by omega) ht) es.reverse t none (fun x hx => (h.each x (by simpa using hx)).2.2) (by simp; omega)
  show (evS (F (m - 1)) b14 [some (.str t), some (esD es), none] G).bind outD = _
  unfold b14
  rw [drop_s (d := .non) (G1 := G) (by simp [e]), for_nx (ds := es.reverse.map eD) (G1 := G) (by simp [esD]) hr]
  rw [seq_ret (d := .str (putAll t es)) (G1 := G)]
  simp [putAll, List.foldl_reverse]

/-- an edit after the edits before it: at in the old, now in the new -/
def turns : Nat → Nat → List Ed → List Ed
  | _, _, [] => []
  | at_, now, (p, g, c) :: r => (now + (p - at_), g, c) :: turns (p + g) (now + (p - at_) + c.length) r
def Wf (n : Nat) : Nat → List Ed → Prop
  | a, [] => a ≤ n
  | a, (p, g, c) :: r => a ≤ p ∧ p + g ≤ n ∧ Wf n (p + g) r
theorem wf_of {n : Nat} : ∀ {es : List Ed} {a : Nat}, (∀ e ∈ es, e.1 + e.2.1 ≤ n) → Sep es → (∀ e r, es = e :: r → a ≤ e.1) → a ≤ n → Wf n a es
  | [], a, _, _, _, h => h
  | [(p, g, c)], a, h1, _, h3, h4 => ⟨h3 (p, g, c) [] rfl, h1 (p, g, c) (by simp), h1 (p, g, c) (by simp)⟩
  | (p, g, c) :: (p', g', c') :: r, a, h1, h2, h3, h4 => by
    have hs : p + g < p' := h2.1
    exact ⟨h3 (p, g, c) _ rfl, h1 (p, g, c) (by simp), wf_of (fun e he => h1 e (by simp [he])) h2.2 (fun e r' q => by cases q; show p + g ≤ p'; omega) (h1 (p, g, c) (by simp))⟩
theorem OkEs.wf {t : List Nat} {es : List Ed} (h : OkEs t es) : Wf t.length 0 es := wf_of (fun e he => (h.each e he).1) h.sep (fun _ _ _ => Nat.zero_le _) (Nat.zero_le _)
theorem for_turns {cl : Nat → List D → Hs → Rs} {v0 v1 : D} {G : Hs} {n : Nat} : ∀ (es : List Ed) (a now : Nat) (acc : List D) (o4 o5 o6 : Option D), Wf n a es → (∀ e ∈ es, e.2.2.length ≤ 2000) → acc.length + es.length < 16777216 →
    ∃ q u4 u5 u6, loopF (Tg.tp (Tg.cons (Tg.nm 4) (Tg.cons (Tg.nm 5) (Tg.cons (Tg.nm 6) Tg.nil)))) (evS cl (S.seq (S.drop (E.mth Mth.append (E.v 2) (E.cons (E.tup (E.cons (E.bin Bop.add (E.v 4) (E.v 3)) (E.cons (E.v 5) (E.cons (E.v 6) E.nil)))) E.nil))) (S.seq (S.aug 3 Aop.add (E.bin Bop.sub (E.blt Blt.len (E.cons (E.v 6) E.nil)) (E.v 5))) S.skip))) (es.map eD)
      [some v0, some v1, some (.ref G.length), some (.int ((now : Int) - a)), o4, o5, o6] (G ++ [.lst acc]) = some (.nx [some v0, some v1, some (.ref G.length), some (.int q), u4, u5, u6] (G ++ [.lst (acc ++ (turns a now es).map eD)]))
  | [], a, now, acc, o4, o5, o6, _, _, _ => ⟨(now : Int) - a, o4, o5, o6, by simp [loopF, turns]⟩
  | (p, g, c) :: es, a, now, acc, o4, o5, o6, ⟨w1, w2, w3⟩, h2, h3 => by
    simp only [List.length_cons] at h3
    have hc : c.length ≤ 16777216 := by have := h2 (p, g, c) (by simp); simp at this; omega
    have hk : acc.length < 16777216 := by omega
    obtain ⟨q, o4', o5', o6', ih⟩ := for_turns (cl := cl) (v0 := v0) (v1 := v1) (G := G) es (p + g) (now + (p - a) + c.length) (acc ++ [eD (now + (p - a), g, c)]) (some (.int p)) (some (.int g)) (some (.str c)) w3 (fun e he => h2 e (by simp [he])) (by simp; omega)
    refine ⟨q, o4', o5', o6', ?_⟩
    have x1 : (p : Int) + ((now : Int) - a) = ((now + (p - a) : Nat) : Int) := by omega
    have x2 : (now : Int) - a + ((c.length : Int) - g) = ((now + (p - a) + c.length : Nat) : Int) - ((p + g : Nat) : Int) := by omega
    simp only [List.map_cons, loopF]
    have b : bindL (Tg.tp (Tg.cons (Tg.nm 4) (Tg.cons (Tg.nm 5) (Tg.cons (Tg.nm 6) Tg.nil)))) [eD (p, g, c)] [some v0, some v1, some (.ref G.length), some (.int ((now : Int) - a)), o4, o5, o6] = some [some v0, some v1, some (.ref G.length), some (.int ((now : Int) - a)), some (.int p), some (.int g), some (.str c)] := by
      simp [eD, dE]
    rw [b, Option.bind_some]
    have y : tupK [D.int ((now + (p - a) : Nat) : Int), .int g, .str c] (G ++ [.lst acc]) = some (eD (now + (p - a), g, c), G ++ [.lst acc]) := by
      rw [tupK_s, if_pos (by rw [sz]; simp)]; rfl
    rw [drop_s (d := .non) (G1 := G ++ [.lst (acc ++ [eD (now + (p - a), g, c)])])]
    · simp only [evS_seq, evS_aug, evS_skip, ev_bin1, ev_blt1, ev_cons1, ev_v1, ev_nil1, List.getElem?_cons_succ, List.getElem?_cons_zero, Option.bind_some, bnd_s, consK_s, argK_s, blt_len, one_s, Mp.len_str, sz, hc, if_true, bin_subi, aug_add, x2, List.set_cons_succ, List.set_cons_zero]
      rw [ih]
      simp [turns]
    · simp only [ev_mth1, ev_tup1, ev_bin1, ev_cons1, ev_v1, ev_nil1, List.getElem?_cons_succ, List.getElem?_cons_zero, Option.bind_some, bnd_s, consK_s, argK_s, bin_addi, x1, y]
      rw [show Mth.append.ty = .list from rfl, ref_ty at_new, if_pos rfl]
      exact app_new hk
theorem in_turn_run {m : Nat} (hm : 6 ≤ m) {G : Hs} {t : List Nat} {es : List Ed} (hl : t.length ≤ 5000) (h : OkEs t es) : F m 15 [.str t, esD es] G = some (esD (turns 0 0 es), G ++ [.lst ((turns 0 0 es).map eD)]) := by
  refine run_ t15 rfl (by omega) ?_
  have e := check_edits_run (m := m - 1) (by omega) (G := G) hl h
  have hf := h.few
  obtain ⟨q, o4, o5, o6, hr⟩ := for_turns (cl := F (m - 1)) (v0 := .str t) (v1 := esD es) (G := G) es 0 0 [] none none none h.wf (fun x hx => (h.each x hx).2.2) (by simp; omega)
  show (evS (F (m - 1)) b15 [some (.str t), some (esD es), none, none, none, none, none] G).bind outD = _
  unfold b15
  rw [drop_s (d := .non) (G1 := G) (by simp [e]), set_s (d := .ref G.length) (G1 := G ++ [.lst []]) (by simp [sz]), set_s (d := .int 0) (G1 := G ++ [.lst []]) (by simp)]
  simp only [List.set_cons_succ, List.set_cons_zero]
  rw [for_nx (ds := es.map eD) (G1 := G ++ [.lst []]) (by simp [esD]) hr]
  refine seq_ret ?_
  simp only [ev_blt1, ev_cons1, ev_nil1, ev_v1, List.getElem?_cons_succ, List.getElem?_cons_zero, Option.bind_some, bnd_s, consK_s, argK_s, blt_tuple, one_s, tup_r at_new]
  rfl
end K01
set_option Elab.async false
set_option linter.all false
set_option autoImplicit false
set_option maxRecDepth 100000
set_option maxHeartbeats 1000000
namespace K01
/-! ### plain facts of edits, for any kind of list -/
variable {α : Type}
abbrev Eds (α : Type) := List (Nat × Nat × List α)
def putG (t : List α) (p g : Nat) (c : List α) : List α := t.take p ++ c ++ t.drop (p + g)
def weave (t : List α) : Nat → Eds α → List α
  | a, [] => t.drop a
  | a, (p, g, c) :: r => (t.drop a).take (p - a) ++ c ++ weave t (p + g) r
def WfG (n : Nat) : Nat → Eds α → Prop
  | a, [] => a ≤ n
  | a, (p, g, c) :: r => a ≤ p ∧ p + g ≤ n ∧ WfG n (p + g) r
theorem WfG.le {n : Nat} : ∀ {es : Eds α} {a : Nat}, WfG n a es → a ≤ n
  | [], a, h => h
  | (p, g, c) :: r, a, ⟨h1, h2, h3⟩ => by omega
theorem wf_wf {n : Nat} : ∀ {es : List Ed} {a : Nat}, Wf n a es → WfG n a es
  | [], a, h => h
  | (p, g, c) :: r, a, ⟨h1, h2, h3⟩ => ⟨h1, h2, wf_wf h3⟩
theorem foldr_weave (t : List α) : ∀ (es : Eds α) (a : Nat), WfG t.length a es → es.foldr (fun e t => putG t e.1 e.2.1 e.2.2) t = t.take a ++ weave t a es
  | [], a, h => by simp [weave]
  | (p, g, c) :: r, a, ⟨h1, h2, h3⟩ => by
    have ih := foldr_weave t r (p + g) h3
    have e1 : t.take p = t.take a ++ (t.drop a).take (p - a) := by
      have : p = a + (p - a) := by omega
      conv => lhs; rw [this]
      rw [List.take_add]
    simp only [List.foldr_cons]
    rw [ih]
    unfold putG
    have l1 : (t.take (p + g)).length = p + g := by simp; omega
    have e2 : (t.take (p + g) ++ weave t (p + g) r).take p = t.take p := by
      rw [List.take_append_of_le_length (by omega), List.take_take, Nat.min_eq_left (by omega)]
    have e3 : (t.take (p + g) ++ weave t (p + g) r).drop (p + g) = weave t (p + g) r := by
      rw [List.drop_append_of_le_length (by omega), List.drop_of_length_le (by omega)]; rfl
    rw [e2, e3, e1]
    simp [weave]
theorem putAll_weave {t : List Nat} {es : List Ed} (h : Wf t.length 0 es) : putAll t es = weave t 0 es := by
  have := foldr_weave t es 0 (wf_wf h)
  simpa [putAll, putE, put, putG] using this
/-- edits in turn, each on the list that the edits before it left -/
def turnsG : Nat → Nat → Eds α → Eds α
  | _, _, [] => []
  | at_, now, (p, g, c) :: r => (now + (p - at_), g, c) :: turnsG (p + g) (now + (p - at_) + c.length) r
theorem foldl_weave (t : List α) : ∀ (es : Eds α) (a : Nat) (pre : List α), WfG t.length a es → (turnsG a pre.length es).foldl (fun t e => putG t e.1 e.2.1 e.2.2) (pre ++ t.drop a) = pre ++ weave t a es
  | [], a, pre, h => by simp [weave, turnsG]
  | (p, g, c) :: r, a, pre, ⟨h1, h2, h3⟩ => by
    have e1 : putG (pre ++ t.drop a) (pre.length + (p - a)) g c = (pre ++ (t.drop a).take (p - a) ++ c) ++ t.drop (p + g) := by
      unfold putG
      have l : (t.drop a).length = t.length - a := by simp
      rw [List.take_append, List.drop_append, List.take_of_length_le (l := pre) (by omega), List.drop_of_length_le (l := pre) (by omega), List.drop_drop]
      have x1 : pre.length + (p - a) - pre.length = p - a := by omega
      have x2 : a + (pre.length + (p - a) + g - pre.length) = p + g := by omega
      rw [x1, x2]
      simp
    have e2 : (pre ++ (t.drop a).take (p - a) ++ c).length = pre.length + (p - a) + c.length := by simp; omega
    have ih := foldl_weave t r (p + g) (pre ++ (t.drop a).take (p - a) ++ c) h3
    rw [e2] at ih
    simp only [turnsG, List.foldl_cons]
    rw [e1, ih]
    simp [weave]
theorem weave_len (t : List α) : ∀ (es : Eds α) (a : Nat), WfG t.length a es → (weave t a es).length + (es.map (·.2.1)).sum = t.length - a + (es.map (·.2.2.length)).sum
  | [], a, h => by simp [weave]
  | (p, g, c) :: r, a, ⟨h1, h2, h3⟩ => by
    have := weave_len t r (p + g) h3
    simp [weave]; omega
/-- which element stands where afterwards -/
def hold (n : Nat) : Nat → Nat → Eds α → List (Nat × Nat)
  | a, now, [] => (List.range (n - a)).map fun i => (a + i, now + i)
  | a, now, (p, g, c) :: r => ((List.range (p - a)).map fun i => (a + i, now + i)) ++ hold n (p + g) (now + (p - a) + c.length) r
theorem hold_mem {n : Nat} : ∀ {es : Eds α} {a now k j : Nat}, WfG n a es → (k, j) ∈ hold n a now es → a ≤ k ∧ k < n ∧ now ≤ j
  | [], a, now, k, j, h, hm => by simp [hold] at hm; have h : a ≤ n := h; omega
  | (p, g, c) :: r, a, now, k, j, ⟨h1, h2, h3⟩, hm => by
    simp only [hold, List.mem_append, List.mem_map, List.mem_range, Prod.mk.injEq] at hm
    rcases hm with ⟨i, hi, rfl, rfl⟩ | hm
    · omega
    · have := hold_mem h3 hm; omega
theorem hold_sorted {n : Nat} : ∀ {es : Eds α} {a now : Nat}, WfG n a es → (hold n a now es).Pairwise fun x y => x.1 < y.1
  | [], a, now, h => by
    simp only [hold]
    rw [List.pairwise_map]
    exact (List.pairwise_lt_range).imp fun h => by omega
  | (p, g, c) :: r, a, now, ⟨h1, h2, h3⟩ => by
    simp only [hold]
    rw [List.pairwise_append]
    refine ⟨?_, hold_sorted h3, fun x hx y hy => ?_⟩
    · rw [List.pairwise_map]
      exact (List.pairwise_lt_range).imp fun h => by omega
    · simp only [List.mem_map, List.mem_range] at hx
      obtain ⟨i, hi, rfl⟩ := hx
      have := hold_mem (k := y.1) (j := y.2) h3 hy
      show a + i < y.1
      omega
/-- the same element at both places -/
theorem hold_at (t : List α) : ∀ {es : Eds α} {a now k j : Nat}, WfG t.length a es → (k, j) ∈ hold t.length a now es → (weave t a es)[j - now]? = t[k]? ∧ j - now < (weave t a es).length
  | [], a, now, k, j, h, hm => by
    simp [hold] at hm
    obtain ⟨i, hi, rfl, rfl⟩ := hm
    simp [weave]; omega
  | (p, g, c) :: r, a, now, k, j, ⟨h1, h2, h3⟩, hm => by
    simp only [hold, List.mem_append, List.mem_map, List.mem_range, Prod.mk.injEq] at hm
    have l : ((t.drop a).take (p - a)).length = p - a := by simp; omega
    rcases hm with ⟨i, hi, rfl, rfl⟩ | hm
    · simp only [weave]
      constructor
      · rw [List.append_assoc, List.getElem?_append_left (by omega), List.getElem?_take, if_pos (by omega), List.getElem?_drop]
        congr 1; omega
      · simp; omega
    · obtain ⟨b1, b2⟩ := hold_at t h3 hm
      have b3 := hold_mem h3 hm
      simp only [weave]
      constructor
      · rw [List.getElem?_append_right (by simp; omega)]
        rw [← b1]; congr 1; simp; omega
      · simp; omega
/-- and every other place is come -/
theorem hold_or (t : List α) : ∀ {es : Eds α} {a now i : Nat}, WfG t.length a es → i < (weave t a es).length → (∃ k, (k, now + i) ∈ hold t.length a now es) ∨ ∃ e ∈ es, ∃ x ∈ e.2.2, (weave t a es)[i]? = some x
  | [], a, now, i, h, hi => by
    simp [weave] at hi
    exact .inl ⟨a + i, by simp [hold]; exact hi⟩
  | (p, g, c) :: r, a, now, i, ⟨h1, h2, h3⟩, hi => by
    have l : ((t.drop a).take (p - a)).length = p - a := by simp; omega
    by_cases c1 : i < p - a
    · exact .inl ⟨a + i, by simp [hold]; exact .inl c1⟩
    by_cases c2 : i < p - a + c.length
    · refine .inr ⟨(p, g, c), by simp, c[i - (p - a)], by simp, ?_⟩
      simp only [weave, List.append_assoc]
      rw [List.getElem?_append_right (by omega), List.getElem?_append_left (by omega), l, List.getElem?_eq_getElem]
    · simp only [weave, List.length_append, l] at hi
      rcases hold_or t (now := now + (p - a) + c.length) (i := i - (p - a) - c.length) h3 (by omega) with ⟨k, hk⟩ | ⟨e, he, x, hx, q⟩
      · refine .inl ⟨k, ?_⟩
        simp only [hold, List.mem_append]
        refine .inr ?_
        rwa [show now + i = now + (p - a) + c.length + (i - (p - a) - c.length) by omega]
      · refine .inr ⟨e, by simp [he], x, hx, ?_⟩
        simp only [weave]
        rw [List.getElem?_append_right (by simp; omega), ← q]
        congr 1; simp; omega
/-- strictly rising firsts and the same members: the same list -/
theorem sorted_eq : ∀ {xs ys : List (Nat × Nat)}, xs.Pairwise (fun x y => x.1 < y.1) → ys.Pairwise (fun x y => x.1 < y.1) → (∀ p, p ∈ xs ↔ p ∈ ys) → xs = ys
  | [], [], _, _, _ => rfl
  | [], y :: ys, _, _, h => by have := (h y).mpr (by simp); simp at this
  | x :: xs, [], _, _, h => by have := (h x).mp (by simp); simp at this
  | x :: xs, y :: ys, hx, hy, h => by
    rw [List.pairwise_cons] at hx hy
    have e : x = y := by
      rcases List.mem_cons.mp ((h x).mp (by simp)) with e | e
      · exact e
      · rcases List.mem_cons.mp ((h y).mpr (by simp)) with e2 | e2
        · exact e2.symm
        · have := hy.1 x e; have := hx.1 y e2; omega
    subst e
    congr 1
    refine sorted_eq hx.2 hy.2 fun p => ?_
    constructor
    · intro hp
      rcases List.mem_cons.mp ((h p).mp (by simp [hp])) with e | e
      · have := hx.1 p hp; rw [e] at this; omega
      · exact e
    · intro hp
      rcases List.mem_cons.mp ((h p).mpr (by simp [hp])) with e | e
      · have := hy.1 p hp; rw [e] at this; omega
      · exact e
end K01
set_option Elab.async false
set_option linter.all false
set_option autoImplicit false
set_option maxRecDepth 100000
set_option maxHeartbeats 1000000
namespace Mp
open PySem PySem.Spec L2
open PyProof.Rows hiding St
theorem at_mid {G l : Hs} {c : Cell} : (G ++ c :: l)[G.length]? = some c := by simp
theorem set_mid {G l : Hs} {c d : Cell} : (G ++ c :: l).set G.length d = G ++ d :: l := by simp
theorem app_mid {G l : Hs} {ds : List D} {x : D} (hl : ds.length < 16777216) : appendM (.ref G.length) [x] (G ++ .lst ds :: l) = some (.non, G ++ .lst (ds ++ [x]) :: l) := by
  rw [app_s at_mid hl, set_mid]
theorem ext_mid {G l : Hs} {ds xs : List D} {x : D} (hx : Mp.listOf (G ++ .lst ds :: l) x = some xs) (hl : ds.length + xs.length ≤ 16777216) : extendM (.ref G.length) [x] (G ++ .lst ds :: l) = some (.non, G ++ .lst (ds ++ xs) :: l) := by
  rw [ext_s at_mid hx hl, set_mid]
theorem atI_end {α : Type} {xs : List α} (h : xs ≠ []) : atI xs (-1) = some (xs.getLast h) := by
  have := L2.atI_last xs.dropLast (xs.getLast h)
  rwa [List.dropLast_concat_getLast] at this
end Mp
namespace K01
open PySem PySem.Spec L2 Mp
open PyProof.Rows hiding St

theorem turns_G : ∀ (es : List Ed) (a now : Nat), turns a now es = turnsG a now es
  | [], _, _ => rfl
  | (p, g, c) :: r, a, now => by simp [turns, turnsG, turns_G r]
/-! 16 -/
def invs (t : List Nat) : Nat → Nat → List Ed → List Ed
  | _, _, [] => []
  | a, now, (p, g, c) :: r => (now + (p - a), c.length, (t.drop p).take g) :: invs t (p + g) (now + (p - a) + c.length) r
theorem cut_pg {t : List Nat} {p g : Nat} : cutN t (some (p : Int)) (some ((p : Int) + (g : Int))) = (t.drop p).take g := by
  have := cut_both t p (p + g)
  rw [Nat.add_sub_cancel_left] at this
  exact this
theorem for_invs {cl : Nat → List D → Hs → Rs} {v1 : D} {t : List Nat} {G l : Hs} (hl : t.length ≤ 5000) : ∀ (es : List Ed) (a now : Nat) (acc : List D) (o3 o4 o5 o6 o7 : Option D), (∀ e ∈ es, e.2.2.length ≤ 2000) → acc.length + es.length < 16777216 →
    ∃ u3 u4 u5 u6 u7, loopF (Tg.tp (Tg.cons (Tg.tp (Tg.cons (Tg.nm 3) (Tg.cons (Tg.nm 4) (Tg.cons (Tg.nm 5) Tg.nil)))) (Tg.cons (Tg.tp (Tg.cons (Tg.nm 6) (Tg.cons (Tg.nm 7) (Tg.cons (Tg.nm 4) Tg.nil)))) Tg.nil))) (evS cl (S.seq (S.drop (E.mth Mth.append (E.v 2) (E.cons (E.tup (E.cons (E.v 3) (E.cons (E.blt Blt.len (E.cons (E.v 5) E.nil)) (E.cons (E.sl false (E.v 0) (E.v 6) (E.bin Bop.add (E.v 6) (E.v 7))) E.nil)))) E.nil))) S.skip)) (List.zipWith (fun x y => D.tup [x, y]) ((turns a now es).map eD) (es.map eD))
      [some (.str t), some v1, some (.ref G.length), o3, o4, o5, o6, o7] (G ++ .lst acc :: l) = some (.nx [some (.str t), some v1, some (.ref G.length), u3, u4, u5, u6, u7] (G ++ .lst (acc ++ (invs t a now es).map eD) :: l))
  | [], a, now, acc, o3, o4, o5, o6, o7, _, _ => ⟨o3, o4, o5, o6, o7, by simp [loopF, turns, invs]⟩
  | (p, g, c) :: es, a, now, acc, o3, o4, o5, o6, o7, h2, h3 => by
    simp only [List.length_cons] at h3
    have hc : c.length ≤ 16777216 := by have := h2 (p, g, c) (by simp); simp at this; omega
    have ht : t.length ≤ 16777216 := by omega
    have hk : acc.length < 16777216 := by omega
    obtain ⟨u3, u4, u5, u6, u7, ih⟩ := for_invs (cl := cl) (v1 := v1) (G := G) (l := l) hl es (p + g) (now + (p - a) + c.length) (acc ++ [eD (now + (p - a), c.length, (t.drop p).take g)]) (some (.int (now + (p - a) : Nat))) (some (.str c)) (some (.str c)) (some (.int p)) (some (.int g)) (fun e he => h2 e (by simp [he])) (by simp; omega)
    refine ⟨u3, u4, u5, u6, u7, ?_⟩
    simp only [turns, List.map_cons, List.zipWith_cons_cons, loopF]
    have b : bindL (Tg.tp (Tg.cons (Tg.tp (Tg.cons (Tg.nm 3) (Tg.cons (Tg.nm 4) (Tg.cons (Tg.nm 5) Tg.nil)))) (Tg.cons (Tg.tp (Tg.cons (Tg.nm 6) (Tg.cons (Tg.nm 7) (Tg.cons (Tg.nm 4) Tg.nil)))) Tg.nil))) [D.tup [eD (now + (p - a), g, c), eD (p, g, c)]] [some (.str t), some v1, some (.ref G.length), o3, o4, o5, o6, o7] =
        some [some (.str t), some v1, some (.ref G.length), some (.int (now + (p - a) : Nat)), some (.str c), some (.str c), some (.int p), some (.int g)] := by
      simp [eD, dE]
    rw [b, Option.bind_some]
    have y : tupK [D.int ((now + (p - a) : Nat) : Int), .int c.length, .str ((t.drop p).take g)] (G ++ .lst acc :: l) = some (eD (now + (p - a), c.length, (t.drop p).take g), G ++ .lst acc :: l) := by
      rw [tupK_s, if_pos (by rw [sz]; simp)]; rfl
    rw [drop_s (d := .non) (G1 := G ++ .lst (acc ++ [eD (now + (p - a), c.length, (t.drop p).take g)]) :: l)]
    · rw [evS_skip, Option.bind_some]
      show loopF _ _ _ _ _ = _
      rw [ih]
      simp [invs]
    · simp only [ev_mth1, ev_tup1, ev_bin1, ev_blt1, ev_sl1, slF_s, isNil_v, isNil_bin, partD_s, partI_i, Mp.sl_str, blt_len, one_s, Mp.len_str, ev_cons1, ev_v1, ev_nil1, List.getElem?_cons_succ, List.getElem?_cons_zero, Option.bind_some, bnd_s, consK_s, argK_s, bin_addi, sz, hc, ht, if_true, Bool.false_eq_true, if_false, cut_pg, y]
      rw [show Mth.append.ty = .list from rfl, ref_ty at_mid, if_pos rfl]
      exact app_mid hk
theorem all_inverse_run {m : Nat} (hm : 7 ≤ m) {G : Hs} {t : List Nat} {es : List Ed} (hl : t.length ≤ 5000) (h : OkEs t es) : ∃ l, F m 16 [.str t, esD es] G = some (esD (invs t 0 0 es), G ++ l) := by
  have e := check_edits_run (m := m - 1) (by omega) (G := G) hl h
  have e2 := in_turn_run (m := m - 1) (by omega) (G := G ++ [.lst []]) hl h
  have hf := h.few
  obtain ⟨u3, u4, u5, u6, u7, hr⟩ := for_invs (cl := F (m - 1)) (v1 := esD es) (G := G) (l := [.lst ((turns 0 0 es).map eD)]) hl es 0 0 [] none none none none none (fun x hx => (h.each x hx).2.2) (by simp; omega)
  refine ⟨.lst ((invs t 0 0 es).map eD) :: [.lst ((turns 0 0 es).map eD)], run_ t16 rfl (by omega) ?_⟩
  show (evS (F (m - 1)) b16 [some (.str t), some (esD es), none, none, none, none, none, none] G).bind outD = _
  unfold b16
  rw [drop_s (d := .non) (G1 := G) (by simp [e]), set_s (d := .ref G.length) (G1 := G ++ [.lst []]) (by simp [sz])]
  simp only [List.set_cons_succ, List.set_cons_zero]
  rw [for_nx (ds := List.zipWith (fun x y => D.tup [x, y]) ((turns 0 0 es).map eD) (es.map eD)) (G1 := G ++ .lst [] :: [.lst ((turns 0 0 es).map eD)]) ?_ hr]
  · refine seq_ret ?_
    simp only [ev_blt1, ev_cons1, ev_nil1, ev_v1, List.getElem?_cons_succ, List.getElem?_cons_zero, Option.bind_some, bnd_s, consK_s, argK_s, blt_tuple, one_s, tup_r at_mid]
    rfl
  · simp only [ev_izip1, ev_call1, ev_cons1, ev_nil1, ev_v1, List.getElem?_cons_succ, List.getElem?_cons_zero, Option.bind_some, bnd_s, consK_s, argK_s, List.length_cons, List.length_nil]
    rw [if_pos trivial, e2, bnd_s, bnd_s]
    simp [zipK, esD]
/-! 18 to 22 -/
def mk (p : Nat) (left : Bool) : D := .tup [.int p, .str (if left then [108, 101, 102, 116] else [114, 105, 103, 104, 116])]
def movedN (p : Nat) (left : Bool) (e : Ed) : Nat := if p < e.1 then p else if e.1 + e.2.1 < p then p + e.2.2.length - e.2.1 else if left then e.1 else e.1 + e.2.2.length
theorem moved_run {m : Nat} (hm : 1 ≤ m) {G : Hs} {p : Nat} {left : Bool} {e : Ed} (hl : e.2.2.length ≤ 2000) : F m 18 [mk p left, eD e] G = some (mk (movedN p left e) left, G) := by
  obtain ⟨q, g, c⟩ := e
  refine run_ t18 rfl (by omega) ?_
  simp only at hl
  have hc : c.length ≤ 16777216 := by omega
  by_cases h1 : p < q
  · have h1' : (p : Int) < q := by omega
    simp [b18, mk, eD, dE, movedN, h1, h1']
  · have h1' : ¬ (p : Int) < q := by omega
    by_cases h2 : q + g < p
    · have h2' : (q : Int) + g < p := by omega
      have h3 : (p : Int) + c.length - g = ((p + c.length - g : Nat) : Int) := by omega
      simp [b18, mk, eD, dE, movedN, h1, h1', h2, h2', hc, sz, h3]
    · have h2' : ¬ (q : Int) + g < p := by omega
      cases left <;> simp [b18, mk, eD, dE, movedN, h1, h1', h2, h2', hc, sz]
def movedL (p : Nat) (left : Bool) (es : List Ed) : Nat := es.foldl (fun p e => movedN p left e) p
theorem for_moved {cl : Nat → List D → Hs → Rs} {v1 : D} {left : Bool} {G : Hs} (hcl : ∀ p (e : Ed), e.2.2.length ≤ 2000 → cl 18 [mk p left, eD e] G = some (mk (movedN p left e) left, G)) : ∀ (es : List Ed) (p : Nat) (o : Option D), (∀ e ∈ es, e.2.2.length ≤ 2000) →
    ∃ o', loopF (.nm 2) (evS cl (S.seq (S.set 0 (E.call 18 2 (E.cons (E.v 0) (E.cons (E.v 2) E.nil)))) S.skip)) (es.map eD) [some (mk p left), some v1, o] G = some (.nx [some (mk (movedL p left es) left), some v1, o'] G)
  | [], t, o, _ => ⟨o, rfl⟩
  | e :: es, p, o, h1 => by
    have hc := h1 e (by simp)
    obtain ⟨o', ih⟩ := for_moved hcl es (movedN p left e) (some (eD e)) (fun x hx => h1 x (by simp [hx]))
    refine ⟨o', ?_⟩
    have e1 := hcl p e hc
    simp only [List.map_cons, loopF, bindL_nm, Option.bind_some, List.set_cons_succ, List.set_cons_zero]
    rw [set_s (d := mk (movedN p left e) left) (G1 := G) (by simp [e1])]
    exact ih
theorem moved_through_run {m : Nat} (hm : 2 ≤ m) {G : Hs} {p : Nat} {left : Bool} {es : List Ed} (h : ∀ e ∈ es, e.2.2.length ≤ 2000) : F m 19 [mk p left, esD es] G = some (mk (movedL p left es) left, G) := by
  refine run_ t19 rfl (by omega) ?_
  obtain ⟨o', hr⟩ := for_moved (cl := F (m - 1)) (v1 := esD es) (left := left) (G := G) (fun p e ht => moved_run (m := m - 1) (by omega) ht) es p none h
  show (evS (F (m - 1)) b19 [some (mk p left), some (esD es), none] G).bind outD = _
  unfold b19
  rw [for_nx (ds := es.map eD) (G1 := G) (by simp [esD]) hr]
  exact seq_ret (by simp)
theorem turns_len {es : List Ed} : ∀ {a now : Nat}, (∀ e ∈ es, e.2.2.length ≤ 2000) → ∀ e ∈ turns a now es, e.2.2.length ≤ 2000 := by
  induction es with
  | nil => intro a now h e he; simp [turns] at he
  | cons e es ih =>
    intro a now h x hx
    obtain ⟨p, g, c⟩ := e
    simp only [turns, List.mem_cons] at hx
    rcases hx with rfl | hx
    · exact h (p, g, c) (by simp)
    · exact ih (fun e he => h e (by simp [he])) x hx
theorem moved_at_once_run {m : Nat} (hm : 7 ≤ m) {G : Hs} {t : List Nat} {p : Nat} {left : Bool} {es : List Ed} (hl : t.length ≤ 5000) (h : OkEs t es) : ∃ l, F m 20 [.str t, mk p left, esD es] G = some (mk (movedL p left (turns 0 0 es)) left, G ++ l) := by
  have e := in_turn_run (m := m - 1) (by omega) (G := G) hl h
  have e2 := moved_through_run (m := m - 1) (by omega) (G := G ++ [.lst ((turns 0 0 es).map eD)]) (p := p) (left := left) (turns_len (a := 0) (now := 0) fun x hx => (h.each x hx).2.2)
  refine ⟨[.lst ((turns 0 0 es).map eD)], run_ t20 rfl (by omega) ?_⟩
  simp [b20, e, e2]
end K01
set_option Elab.async false
set_option linter.all false
set_option autoImplicit false
set_option maxRecDepth 100000
set_option maxHeartbeats 1000000
namespace K01
open PySem PySem.Spec L2 Mp
open PyProof.Rows hiding St

def touch (a b : Ed) : List Ed := if a.1 + a.2.1 = b.1 then [(a.1, a.2.1 + b.2.1, a.2.2 ++ b.2.2)] else [a, b]
theorem touching_run {m : Nat} (hm : 1 ≤ m) {G : Hs} {a b : Ed} (ha : a.2.2.length ≤ 2000) (hb : b.2.2.length ≤ 2000) : F m 21 [eD a, eD b] G = some (esD (touch a b), G) := by
  obtain ⟨p, g, c⟩ := a
  obtain ⟨q, h, d⟩ := b
  simp only at ha hb
  refine run_ t21 rfl (by omega) ?_
  have hs : c.length + d.length ≤ 16777216 := by omega
  by_cases h1 : p + g = q
  · have h1' : (p : Int) + g = q := by omega
    simp [b21, eD, dE, esD, touch, at3_0, at3_1, at3_2, h1, h1', sz, hs]
  · have h1' : ¬ (p : Int) + g = q := by omega
    simp [b21, eD, dE, esD, touch, at3_0, at3_1, at3_2, h1, h1', sz, hs]
def carry (e o : Ed) (first : Bool) : List Ed :=
  if o.1 + o.2.1 < e.1 then [(e.1 + o.2.2.length - o.2.1, e.2.1, e.2.2)]
  else if o.1 < e.1 ∨ (e.1 = o.1 ∧ first = false) then [(o.1 + o.2.2.length, e.1 + e.2.1 - max e.1 (o.1 + o.2.1), e.2.2)]
  else if e.1 + e.2.1 - max e.1 (o.1 + o.2.1) = 0 then [(e.1, min e.2.1 (o.1 - e.1), e.2.2)]
  else touch (e.1, min e.2.1 (o.1 - e.1), e.2.2) (o.1 + o.2.2.length, e.1 + e.2.1 - max e.1 (o.1 + o.2.1), [])
theorem carried_run {m : Nat} (hm : 2 ≤ m) {G : Hs} {e o : Ed} {first : Bool} (he : e.2.2.length ≤ 2000) (ho : o.2.2.length ≤ 2000) : F m 22 [eD e, eD o, .bl first] G = some (esD (carry e o first), G) := by
  obtain ⟨p, g, c⟩ := e
  obtain ⟨q, h, d⟩ := o
  simp only at he ho
  refine run_ t22 rfl (by omega) ?_
  have hc : c.length ≤ 16777216 := by omega
  have hd : d.length ≤ 16777216 := by omega
  have er : (if (if (p : Int) < (q : Int) + h then (q : Int) + h else p) < (p : Int) + g then (p : Int) + g - (if (p : Int) < (q : Int) + h then (q : Int) + h else p) else 0) = ((p + g - max p (q + h) : Nat) : Int) := by
    split <;> split <;> omega
  by_cases h1 : q + h < p
  · have h1' : (q : Int) + h < p := by omega
    have x1 : (p : Int) + ((d.length : Int) - h) = ((p + d.length - h : Nat) : Int) := by omega
    simp [b22, eD, dE, esD, carry, h1, h1', sz, hc, hd, x1]
  have h1' : ¬ (q : Int) + h < p := by omega
  generalize hr : p + g - max p (q + h) = rest at er
  by_cases h2 : q < p ∨ (p = q ∧ first = false)
  · rcases h2 with h2 | ⟨rfl, rfl⟩
    · have h2' : (q : Int) < p := by omega
      simp only [carry, h1, h2, hr, if_false, if_true, true_or]
      simp [b22, eD, dE, esD, h1', h2', sz, hc, hd, er]
    · have e2 : carry (p, g, c) (p, h, d) false = [(p + d.length, rest, c)] := by simp [carry, h1]; omega
      rw [e2]
      simp [b22, eD, dE, esD, h1', sz, hc, hd, er]
  · have hq : p ≤ q := by omega
    have h3 : ¬ (q : Int) < p := by omega
    have h4 : p = q → first = true := fun e => by
      cases first with
      | true => rfl
      | false => exact absurd (.inr ⟨e, rfl⟩) h2
    have xm : (if (q : Int) - p < g then (q : Int) - p else g) = ((min g (q - p) : Nat) : Int) := by split <;> omega
    have ec : carry (p, g, c) (q, h, d) first = if rest = 0 then [(p, min g (q - p), c)] else touch (p, min g (q - p), c) (q + d.length, rest, []) := by
      simp only [carry, h1, h2, hr, if_false]
    rw [ec]
    have et := touching_run (m := m - 1) (by omega) (G := G) (a := (p, min g (q - p), c)) (b := (q + d.length, rest, [])) (by simpa using he) (by simp)
    have ef : ((p : Int) = q ∧ first = false) = False := by
      simp only [eq_iff_iff, iff_false, not_and]
      intro e
      have := h4 (by omega)
      simp [this]
    by_cases e0 : rest = 0
    · subst e0
      by_cases e1 : p = q
      · have := h4 e1
        subst this e1
        simp [b22, eD, dE, esD, h1', h3, sz, hc, hd, er, xm] at xm ⊢
      · have e1' : ¬ (p : Int) = q := by omega
        simp [b22, eD, dE, esD, h1', h3, e1, e1', sz, hc, hd, er, xm]
    · have e0' : ¬ (rest : Int) = 0 := by omega
      simp only [eD, dE] at et
      by_cases e1 : p = q
      · have := h4 e1
        subst this e1
        simp at et
        have xz : (if 0 < g then (0 : Int) else (g : Int)) = 0 := by split <;> omega
        simp [b22, eD, dE, h1', h3, e0, sz, hc, hd, er, et, xz]
      · have e1' : ¬ (p : Int) = q := by omega
        simp at et
        simp [b22, eD, dE, h1', h3, e0, e1, e1', sz, hc, hd, er, xm, et]

/-! 23 to 27 -/
def okEd (t : List Nat) (e : Ed) : Prop := okE t e.1 e.2.1 e.2.2
theorem check_both_run {m : Nat} (hm : 5 ≤ m) {G : Hs} {t : List Nat} {a b : Ed} (hl : t.length ≤ 5000) (h1 : okEd t a) (h2 : okEd t b) : F m 23 [.str t, eD a, eD b] G = some (.non, G) := by
  refine run_ t23 rfl (by omega) ?_
  have e1 := is_edit_run (m := m - 1) (by omega) (G := G) hl h1
  have e2 := is_edit_run (m := m - 1) (by omega) (G := G) hl h2
  simp only [eD]
  simp [b23, e1, e2, outD]
theorem check_room_run {m : Nat} (hm : 5 ≤ m) {G : Hs} {t : List Nat} {es : List Ed} (hl : t.length ≤ 5000) (h : OkEs t es) : F m 24 [.str t, esD es] G = some (.non, G) := by
  refine run_ t24 rfl (by omega) ?_
  have e := are_edits_run (m := m - 1) (by omega) (G := G) hl h
  simp [b24, e, outD]
theorem appliedE_run {m : Nat} (hm : 5 ≤ m) {G : Hs} {t : List Nat} {e : Ed} (hl : t.length ≤ 5000) (h : okEd t e) : F m 6 [.str t, eD e] G = some (.str (putE t e), G) := applied_run hm hl h
theorem both_done_run {m : Nat} (hm : 7 ≤ m) {G : Hs} {t : List Nat} {a b : Ed} (hl : t.length ≤ 2000) (h1 : okEd t a) (h2 : okEd t b) (hl2 : (putE t b).length ≤ 5000) (h : OkEs (putE t b) (carry a b true)) :
    F m 25 [.str t, eD a, eD b] G = some (.str (putAll (putE t b) (carry a b true)), G) := by
  refine run_ t25 rfl (by omega) ?_
  have e1 := check_both_run (m := m - 1) (by omega) (G := G) (by omega) h1 h2
  have e2 := appliedE_run (m := m - 1) (by omega) (G := G) (by omega) h2
  have e3 := carried_run (m := m - 1) (by omega) (G := G) (e := a) (o := b) (first := true) h1.2.2.2 h2.2.2.2
  have e4 := check_room_run (m := m - 1) (by omega) (G := G) hl2 h
  have e5 := all_applied_run (m := m - 1) (by omega) (G := G) hl2 h
  simp [b25, e1, e2, e3, e4, e5]
def invE (t : List Nat) (e : Ed) : Ed := (e.1, e.2.2.length, (t.drop e.1).take e.2.1)
theorem inverseE_run {m : Nat} (hm : 5 ≤ m) {G : Hs} {t : List Nat} {e : Ed} (hl : t.length ≤ 5000) (h : okEd t e) : F m 7 [.str t, eD e] G = some (eD (invE t e), G) := inverse_run hm hl h
def undo (t : List Nat) (a b : Ed) : List Ed := carry (invE t a) b true
theorem undone_run {m : Nat} (hm : 7 ≤ m) {G : Hs} {t : List Nat} {a b : Ed} (hl : t.length ≤ 2000) (h1 : okEd t a) (hl2 : (putE t a).length ≤ 5000) (h2 : okEd (putE t a) b) (hl3 : (putE (putE t a) b).length ≤ 5000) (h : OkEs (putE (putE t a) b) (undo t a b)) :
    F m 26 [.str t, eD a, eD b] G = some (esD (undo t a b), G) := by
  refine run_ t26 rfl (by omega) ?_
  have e1 := appliedE_run (m := m - 1) (by omega) (G := G) (by omega) h1
  have e2 := is_edit_run (m := m - 1) (by omega) (G := G) hl2 h2
  have e3 := inverseE_run (m := m - 1) (by omega) (G := G) (by omega) h1
  have e4 := carried_run (m := m - 1) (by omega) (G := G) (e := invE t a) (o := b) (first := true) (by simp [invE]; omega) h2.2.2.2
  have e5 := appliedE_run (m := m - 1) (by omega) (G := G) hl2 h2
  have e6 := check_room_run (m := m - 1) (by omega) (G := G) hl3 h
  have e2' : F (m - 1) 4 [.str (putE t a), eD b] G = some (.bl true, G) := e2
  simp [b26, e1, e2', e3, e4, e5, undo] at e6 ⊢
  simp [e6]
theorem without_run {m : Nat} (hm : 8 ≤ m) {G : Hs} {t : List Nat} {a b : Ed} (hl : t.length ≤ 2000) (h1 : okEd t a) (hl2 : (putE t a).length ≤ 5000) (h2 : okEd (putE t a) b) (hl3 : (putE (putE t a) b).length ≤ 5000) (h : OkEs (putE (putE t a) b) (undo t a b)) :
    F m 27 [.str t, eD a, eD b] G = some (.str (putAll (putE (putE t a) b) (undo t a b)), G) := by
  refine run_ t27 rfl (by omega) ?_
  have e1 := appliedE_run (m := m - 1) (by omega) (G := G) (by omega) h1
  have e5 := appliedE_run (m := m - 1) (by omega) (G := G) hl2 h2
  have e6 := undone_run (m := m - 1) (by omega) (G := G) hl h1 hl2 h2 hl3 h
  have e7 := all_applied_run (m := m - 1) (by omega) (G := G) hl3 h
  simp [b27, e1, e5, e6, e7]
end K01
set_option Elab.async false
set_option linter.all false
set_option autoImplicit false
set_option maxRecDepth 100000
set_option maxHeartbeats 1000000
namespace K01
open PySem PySem.Spec L2 Mp
open PyProof.Rows hiding St

def pD (p : Nat × Nat) : D := .tup [.int p.1, .int p.2]
def psD (ps : List (Nat × Nat)) : D := .tup (ps.map pD)
def seg (a now n : Nat) : List (Nat × Nat) := (List.range n).map fun i => (a + i, now + i)
theorem hold_comp {cl : Nat → List D → Hs → Rs} {ς : Env'} {G : Hs} {a now b : Nat} {e : E} (h8 : 8 < ς.length) (ha : ς[4]? = some (some (.int a))) (h3 : ς[3]? = some (some (.int ((now : Int) - a)))) (hb : (ev cl e).1 ς G = some (.int b, G)) (hab : b ≤ 10000) (ha2 : a ≤ 10000) :
    (ev cl (E.comp false (Tg.nm 8) [8] (E.irng 2 (E.cons (E.v 4) (E.cons e E.nil))) E.yes (E.tup (E.cons (E.v 8) (E.cons (E.bin Bop.add (E.v 8) (E.v 3)) E.nil))))).1 ς G = some (.lst ((seg a now (b - a)).map pD), G) := by
  have rg : arity 2 rngK [D.int a, D.int b] G = some (.tup (rgN a 1 (b - a)), G) := by
    have : rgA [D.int (a : Int), D.int (b : Int)] = some ((a : Int), 1, b - a) := by
      rw [rgA_2, if_pos (by omega)]
      congr 3; omega
    exact rng2_s this
  simp only [ev_comp1, ev_irng1, ev_cons1, ev_nil1, ev_v1, ha, Option.bind_some, bnd_s, hb, consK_s, argK_s, rg]
  rw [loopC_map (f := fun d => match d with | .int i => .tup [.int i, .int (i + ((now : Int) - a))] | d => d)]
  · have em : (rgN (a : Int) 1 (b - a)).map (fun d => match d with | .int i => D.tup [.int i, .int (i + ((now : Int) - a))] | d => d) = (seg a now (b - a)).map pD := by
      simp only [rgN, seg, List.map_map]
      apply List.map_congr_left
      intro i hi
      have y1 : (a : Int) + (i : Nat) * 1 = ((a + i : Nat) : Int) := by omega
      have y2 : ((a + i : Nat) : Int) + ((now : Int) - a) = ((now + i : Nat) : Int) := by omega
      simp only [Function.comp, pD, y1, y2]
    rw [bnd_s, newD_f, em]
  · intro d hd
    unfold rgN at hd
    obtain ⟨i, hi, rfl⟩ := List.mem_map.mp hd
    refine ⟨_, bindL_nm, by simp, ?_⟩
    have q3 : ((wipeE ς [8]).set 8 (some (.int ((a : Int) + (i : Nat) * 1))))[3]? = some (some (.int ((now : Int) - a))) := by
      simp [wipeE, h3]
    have q8 : ((wipeE ς [8]).set 8 (some (.int ((a : Int) + (i : Nat) * 1))))[8]? = some (some (.int ((a : Int) + (i : Nat) * 1))) := by
      simp [wipeE, h8]
    simp only [ev_tup1, ev_cons1, ev_nil1, ev_bin1, ev_v1, q3, q8]
    simp [sz]
  · rw [sz]; simp [rgN]; omega
theorem for_hold {cl : Nat → List D → Hs → Rs} {v0 v1 : D} {G : Hs} {n : Nat} (hn : n ≤ 10000) : ∀ (es : List Ed) (a now : Nat) (acc : List D) (o5 o6 o7 o8 : Option D), Wf n a es → (∀ e ∈ es, e.2.2.length ≤ 2000) → acc.length + (n - a) < 16777216 →
    ∃ a' now' h' u5 u6 u7 u8, a' ≤ n ∧ hold n a now es = h' ++ seg a' now' (n - a') ∧ h'.length + (n - a') ≤ n - a ∧ loopF (Tg.tp (Tg.cons (Tg.nm 5) (Tg.cons (Tg.nm 6) (Tg.cons (Tg.nm 7) Tg.nil)))) (evS cl (S.seq (S.drop (E.mth Mth.extend (E.v 2) (E.cons (E.comp false (Tg.nm 8) [8] (E.irng 2 (E.cons (E.v 4) (E.cons (E.v 5) E.nil))) E.yes (E.tup (E.cons (E.v 8) (E.cons (E.bin Bop.add (E.v 8) (E.v 3)) E.nil)))) E.nil))) (S.seq (S.tgt (Tg.tp (Tg.cons (Tg.nm 3) (Tg.cons (Tg.nm 4) Tg.nil))) (E.tup (E.cons (E.bin Bop.sub (E.bin Bop.add (E.v 3) (E.blt Blt.len (E.cons (E.v 7) E.nil))) (E.v 6)) (E.cons (E.bin Bop.add (E.v 5) (E.v 6)) E.nil)))) S.skip))) (es.map eD)
      [some v0, some v1, some (.ref G.length), some (.int ((now : Int) - a)), some (.int a), o5, o6, o7, o8] (G ++ [.lst acc]) = some (.nx [some v0, some v1, some (.ref G.length), some (.int ((now' : Int) - a')), some (.int a'), u5, u6, u7, u8] (G ++ [.lst (acc ++ h'.map pD)]))
  | [], a, now, acc, o5, o6, o7, o8, h, _, _ => ⟨a, now, [], o5, o6, o7, o8, h, rfl, by simp, by simp [loopF]⟩
  | (p, g, c) :: es, a, now, acc, o5, o6, o7, o8, ⟨w1, w2, w3⟩, h2, h3 => by
    have hc : c.length ≤ 16777216 := by have := h2 (p, g, c) (by simp); simp at this; omega
    have hsl : ((seg a now (p - a)).map pD).length = p - a := by simp [seg]
    obtain ⟨a', now', h', u5, u6, u7, u8, i1, i2, i3, ih⟩ := for_hold (cl := cl) (v0 := v0) (v1 := v1) (G := G) hn es (p + g) (now + (p - a) + c.length) (acc ++ (seg a now (p - a)).map pD) (some (.int p)) (some (.int g)) (some (.str c)) o8 w3 (fun e he => h2 e (by simp [he])) (by rw [List.length_append, hsl]; omega)
    refine ⟨a', now', seg a now (p - a) ++ h', u5, u6, u7, u8, i1, ?_, by simp [seg]; omega, ?_⟩
    · simp only [hold, i2, List.append_assoc]; rfl
    have x2 : (now : Int) - a + c.length - g = ((now + (p - a) + c.length : Nat) : Int) - ((p + g : Nat) : Int) := by omega
    have x3 : (p : Int) + g = ((p + g : Nat) : Int) := by omega
    simp only [List.map_cons, loopF]
    have b : bindL (Tg.tp (Tg.cons (Tg.nm 5) (Tg.cons (Tg.nm 6) (Tg.cons (Tg.nm 7) Tg.nil)))) [eD (p, g, c)] [some v0, some v1, some (.ref G.length), some (.int ((now : Int) - a)), some (.int a), o5, o6, o7, o8] = some [some v0, some v1, some (.ref G.length), some (.int ((now : Int) - a)), some (.int a), some (.int p), some (.int g), some (.str c), o8] := by
      simp [eD, dE]
    rw [b, Option.bind_some]
    have hcmp := hold_comp (cl := cl) (ς := [some v0, some v1, some (.ref G.length), some (.int ((now : Int) - a)), some (.int a), some (.int p), some (.int g), some (.str c), o8]) (G := G ++ [.lst acc]) (a := a) (now := now) (b := p) (e := .v 5) (by simp) rfl rfl rfl (by omega) (by omega)
    rw [drop_s (d := .non) (G1 := G ++ [.lst (acc ++ (seg a now (p - a)).map pD)])]
    · rw [tgt_s (d := .tup [.int ((now : Int) - a + c.length - g), .int ((p : Int) + g)]) (G1 := G ++ [.lst (acc ++ (seg a now (p - a)).map pD)]) (by simp [sz, hc]) (by simp; rfl)]
      rw [evS_skip, Option.bind_some, x2, x3]
      show loopF _ _ _ _ _ = _
      rw [ih]
      simp
    · rw [ev_mth1, ev_v1]
      simp only [List.getElem?_cons_succ, List.getElem?_cons_zero, Option.bind_some, bnd_s]
      rw [show Mth.extend.ty = .list from rfl, ref_ty at_new, if_pos rfl]
      simp only [ev_cons1, hcmp, bnd_s, ev_nil1, consK_s, argK_s]
      exact ext_new rfl (by rw [hsl]; omega)
theorem hold_of_run {m : Nat} (hm : 6 ≤ m) {G : Hs} {t : List Nat} {es : List Ed} (hl : t.length ≤ 5000) (h : OkEs t es) : ∃ l, F m 28 [.str t, esD es] G = some (psD (hold t.length 0 0 es), G ++ l) := by
  have e := check_edits_run (m := m - 1) (by omega) (G := G) hl h
  have hf := h.few
  obtain ⟨a', now', h', u5, u6, u7, u8, i1, i2, i3, hr⟩ := for_hold (cl := F (m - 1)) (v0 := .str t) (v1 := esD es) (G := G) (by omega : t.length ≤ 10000) es 0 0 [] none none none none h.wf (fun x hx => (h.each x hx).2.2) (by simp; omega)
  refine ⟨[.lst ((hold t.length 0 0 es).map pD)], run_ t28 rfl (by omega) ?_⟩
  show (evS (F (m - 1)) b28 [some (.str t), some (esD es), none, none, none, none, none, none, none] G).bind outD = _
  unfold b28
  rw [drop_s (d := .non) (G1 := G) (by simp [e]), set_s (d := .ref G.length) (G1 := G ++ [.lst []]) (by simp [sz]), tgt_s (d := .tup [.int 0, .int 0]) (G1 := G ++ [.lst []]) (by simp [sz]) (by simp; rfl)]
  rw [for_nx (ds := es.map eD) (G1 := G ++ [.lst []]) (by simp [esD]) hr]
  have hcmp := hold_comp (cl := F (m - 1)) (ς := [some (.str t), some (esD es), some (.ref G.length), some (.int ((now' : Int) - a')), some (.int a'), u5, u6, u7, u8]) (G := G ++ [.lst ([] ++ h'.map pD)]) (a := a') (now := now') (b := t.length) (e := E.blt Blt.len (E.cons (E.v 0) E.nil)) (by simp) rfl rfl (by simp [sz]; omega) (by omega) (by omega)
  have hsl : ((seg a' now' (t.length - a')).map pD).length = t.length - a' := by simp [seg]
  rw [drop_s (d := .non) (G1 := G ++ [.lst ((hold t.length 0 0 es).map pD)])]
  · refine seq_ret ?_
    simp only [ev_blt1, ev_cons1, ev_nil1, ev_v1, List.getElem?_cons_succ, List.getElem?_cons_zero, Option.bind_some, bnd_s, consK_s, argK_s, blt_tuple, one_s, tup_r at_new]
    rfl
  · rw [ev_mth1, ev_v1]
    simp only [List.getElem?_cons_succ, List.getElem?_cons_zero, Option.bind_some, bnd_s]
    rw [show Mth.extend.ty = .list from rfl, ref_ty at_new, if_pos rfl]
    simp only [ev_cons1, hcmp, bnd_s, ev_nil1, consK_s, argK_s]
    refine (ext_new rfl (by rw [hsl]; simp; omega)).trans ?_
    rw [i2]; simp
end K01
set_option Elab.async false
set_option linter.all false
set_option autoImplicit false
set_option maxRecDepth 100000
set_option maxHeartbeats 1000000
namespace K01
open PySem PySem.Spec L2 Mp
open PyProof.Rows hiding St

/-! 17 -/
def endOf : List Ed → Nat
  | [] => 0
  | [(p, g, _)] => p + g
  | _ :: r => endOf r
theorem weave_end (t : List Nat) : ∀ (es : List Ed) (a : Nat), es ≠ [] → Wf t.length a es → a ≤ endOf es ∧ endOf es ≤ t.length ∧ ∃ x, weave t a es = x ++ t.drop (endOf es)
  | [], _, h, _ => absurd rfl h
  | [(p, g, c)], a, _, ⟨w1, w2, w3⟩ => ⟨by simp [endOf]; omega, by simp [endOf]; omega, (t.drop a).take (p - a) ++ c, by simp [weave, endOf]⟩
  | (p, g, c) :: e :: r, a, _, ⟨w1, w2, w3⟩ => by
    obtain ⟨h1, h2, x, h3⟩ := weave_end t (e :: r) (p + g) (by simp) w3
    refine ⟨by simp only [endOf]; omega, h2, (t.drop a).take (p - a) ++ c ++ x, ?_⟩
    simp only [weave, h3, List.append_assoc, endOf] at *
    rw [h3]
theorem weave_begin (t : List Nat) {e : Ed} {r : List Ed} (h : Wf t.length 0 (e :: r)) : ∃ y, weave t 0 (e :: r) = t.take e.1 ++ y := by
  obtain ⟨p, g, c⟩ := e
  exact ⟨c ++ weave t (p + g) r, by simp [weave]⟩
def oneFor (t : List Nat) : List Ed → Ed
  | [] => (0, 0, [])
  | e :: r => (e.1, endOf (e :: r) - e.1, ((weave t 0 (e :: r)).drop e.1).take ((weave t 0 (e :: r)).length - (t.length - endOf (e :: r)) - e.1))
theorem idxE0 {e : Ed} {G : Hs} : idxD (eD e) (.int 0) G = some (.int e.1, G) := rfl
theorem idxE1 {e : Ed} {G : Hs} : idxD (eD e) (.int 1) G = some (.int e.2.1, G) := rfl
theorem idxE2 {e : Ed} {G : Hs} : idxD (eD e) (.int 2) G = some (.str e.2.2, G) := rfl
theorem endOf_last : ∀ {es : List Ed} (h : es ≠ []), endOf es = (es.getLast h).1 + (es.getLast h).2.1
  | [(p, g, c)], _ => rfl
  | a :: b :: r, _ => by
    show endOf (b :: r) = _
    rw [endOf_last (es := b :: r) (by simp)]
    simp
theorem one_for_run {m : Nat} (hm : 7 ≤ m) {G : Hs} {t : List Nat} {es : List Ed} (hl : t.length ≤ 5000) (h : OkEs t es) (hl2 : (putAll t es).length ≤ 10000) : F m 17 [.str t, esD es] G = some (eD (oneFor t es), G) := by
  have e1 := check_edits_run (m := m - 1) (by omega) (G := G) hl h
  have e2 := all_applied_run (m := m - 1) (by omega) (G := G) hl h
  refine run_ t17 rfl (by omega) ?_
  cases es with
  | nil =>
    simp only [esD, List.map_nil] at e1
    simp [b17, e1, esD, eD, dE, oneFor, sz]
  | cons e r =>
    obtain ⟨h1, h2, x, h3⟩ := weave_end t (e :: r) 0 (by simp) h.wf
    have hw := putAll_weave h.wf
    have hb : e.1 ≤ endOf (e :: r) := by
      obtain ⟨p, g, c⟩ := e
      cases r with
      | nil => simp [endOf]
      | cons f r => have := (weave_end t (f :: r) (p + g) (by simp) h.wf.2.2).1; simp only [endOf] at this ⊢; omega
    rw [hw] at hl2 e2
    have hx : (weave t 0 (e :: r)).length = x.length + (t.length - endOf (e :: r)) := by rw [h3]; simp
    have xl : (endOf (e :: r) : Int) - e.1 = ((endOf (e :: r) - e.1 : Nat) : Int) := by omega
    have xh : ((weave t 0 (e :: r)).length : Int) - ((t.length : Int) - (endOf (e :: r) : Int)) = (((weave t 0 (e :: r)).length - (t.length - endOf (e :: r)) : Nat) : Int) := by omega
    have xe := endOf_last (es := e :: r) (by simp)
    have q0 : atI ((e :: r).map eD) 0 = some (eD e) := atI_nat (j := 0) rfl
    have q1 : atI ((e :: r).map eD) (-1) = some (eD ((e :: r).getLast (by simp))) := by
      rw [atI_end (by simp), List.getLast_map]
    simp only [oneFor]
    generalize hL : weave t 0 (e :: r) = L at *
    generalize hE : endOf (e :: r) = en at *
    generalize (e :: r).getLast (by simp) = la at *
    have f1 : L.length ≤ 16777216 := by omega
    have f2 : t.length ≤ 16777216 := by omega
    have ne : ¬ ((r.length : Int) + 1 = 0) := by omega
    have xe' : (la.1 : Int) + la.2.1 = (en : Int) := by omega
    simp only [esD, List.map_cons] at e1 e2 q0 q1 ⊢
    show (evS (F (m - 1)) b17 [some (D.str t), some (D.tup (eD e :: r.map eD)), none, none, none] G).bind outD = _
    unfold b17
    rw [drop_s (d := .non) (G1 := G) (by simp [e1]), seq_ife_f (G1 := G) (by simp [ne])]
    rw [seq_nx (ς' := [some (D.str t), some (D.tup (eD e :: r.map eD)), some (.int e.1), some (.int en), none]) (G1 := G) (by simp [q0, q1, negD, idxE0, idxE1, xe'])]
    rw [set_s (d := .str L) (G1 := G) (by simp [e2])]
    refine seq_ret ?_
    simp [sz, f1, f2, xl, xh, cut_both, eD, dE]
/-! 29 -/
def costOf (es : List Ed) : Nat := (es.map fun e => e.2.1 + e.2.2.length).sum
theorem sum_cast (xs : List Nat) : (xs.map fun x : Nat => (x : Int)).sum = ((xs.sum : Nat) : Int) := by
  induction xs with
  | nil => rfl
  | cons x xs ih => simp [ih]
theorem cost_of_run {m : Nat} (hm : 1 ≤ m) {G : Hs} {es : List Ed} (h : ∀ e ∈ es, e.2.2.length ≤ 10000) (hl : es.length ≤ 10000) : F m 29 [esD es] G = some (.int (costOf es), G) := by
  refine run_ t29 rfl (by omega) ?_
  show (evS (F (m - 1)) b29 [some (esD es), none, none, none] G).bind outD = _
  unfold b29
  refine seq_ret ?_
  simp only [ev_blt1, ev_cons1, ev_nil1, ev_comp1, ev_iseq1, ev_v1, esD, List.getElem?_cons_zero, Option.bind_some, bnd_s, seq_tup, argK_s]
  rw [loopC_map (f := fun d => match d with | .tup [_, .int g, .str c] => .int (g + c.length) | d => d)]
  · have em : ((es.map eD).map fun d => match d with | .tup [_, .int g, .str c] => D.int (g + c.length) | d => d) = ((es.map fun e => e.2.1 + e.2.2.length).map fun x : Nat => (x : Int)).map D.int := by
      simp only [List.map_map]
      apply List.map_congr_left
      intro e he
      simp [eD, dE]
    rw [em]
    simp only [bnd_s, newD_f, consK_s, argK_s, blt_sum, one_s, sumI_s]
    rw [sum_cast]; rfl
  · intro d hd
    obtain ⟨e, he, rfl⟩ := List.mem_map.mp hd
    have hc : e.2.2.length ≤ 16777216 := by have := h e he; omega
    refine ⟨[some (.tup (es.map eD)), some (.int e.1), some (.int e.2.1), some (.str e.2.2)], by simp [eD, dE, wipeE], by simp, ?_⟩
    simp [eD, dE, sz, hc]
  · rw [sz]; simp; omega
end K01
set_option Elab.async false
set_option linter.all false
set_option autoImplicit false
set_option maxRecDepth 100000
set_option maxHeartbeats 1000000
namespace K01
open PySem PySem.Spec L2 Mp
open PyProof.Rows hiding St

/-! 30: the table of distances -/
def dist : List Nat → List Nat → Nat
  | [], b => b.length
  | x :: a, [] => a.length + 1
  | x :: a, y :: b => if y = x then dist a b else 1 + min (dist a (y :: b)) (dist (x :: a) b)
termination_by a b => a.length + b.length
theorem dist_nil (b : List Nat) : dist [] b = b.length := by rw [dist]
theorem dist_nil2 (a : List Nat) : dist a [] = a.length := by cases a <;> rw [dist] <;> rfl
theorem dist_cons (x y : Nat) (a b : List Nat) : dist (x :: a) (y :: b) = if y = x then dist a b else 1 + min (dist a (y :: b)) (dist (x :: a) b) := by rw [dist]
def rowOf (a b : List Nat) : List Nat := (List.range (b.length + 1)).map fun j => dist a (b.drop j)
def rowV (a b : List Nat) : D := .lst ((rowOf a b).map fun n : Nat => D.int (n : Int))
def rows (b : List Nat) : List Nat → List D
  | [] => [rowV [] b]
  | x :: a => rowV (x :: a) b :: rows b a
theorem rowOf_at {a b : List Nat} {j : Nat} (h : j ≤ b.length) : atI ((rowOf a b).map fun n : Nat => D.int (n : Int)) (j : Int) = some (.int (dist a (b.drop j) : Nat)) := by
  apply atI_nat
  have : j < b.length + 1 := by omega
  simp [rowOf, this]
def rowR (a b : List Nat) (i : Nat) : List D := (List.range i).map fun q => .int (dist a (b.drop (b.length - q)) : Nat)
theorem rowR_rev {a b : List Nat} : (rowR a b (b.length + 1)).reverse = (rowOf a b).map fun n : Nat => D.int (n : Int) := by
  apply List.ext_getElem
  · simp [rowR, rowOf]
  · intro i h1 h2
    simp [rowR, rowOf] at h1 h2 ⊢
    rw [show b.length - (b.length - i) = i by omega]
abbrev bInner : S := (S.seq (S.drop (E.mth Mth.append (E.v 5) (E.cons (E.ite (E.cmp Cop.eq (E.idx (E.v 1) (E.v 6)) (E.v 4)) (E.idx (E.v 2) (E.bin Bop.add (E.v 6) (E.k (D.int 1)))) (E.bin Bop.add (E.k (D.int 1)) (E.blt Blt.min2 (E.cons (E.idx (E.v 2) (E.v 6)) (E.cons (E.idx (E.v 5) (E.neg (E.k (D.int 1)))) E.nil))))) E.nil))) S.skip)
theorem for_inner {cl : Nat → List D → Hs → Rs} {v0 v3 : D} {a b : List Nat} {x : Nat} {G : Hs} (hb : b.length ≤ 5000) : ∀ (k i : Nat) (o : Option D), i + k = b.length →
    ∃ o', loopF (.nm 6) (evS cl bInner) (rgN ((k : Int) - 1) (-1) k) [some v0, some (.str b), some (rowV a b), some v3, some (.str [x]), some (.ref G.length), o] (G ++ [.lst (rowR (x :: a) b (i + 1))]) =
      some (.nx [some v0, some (.str b), some (rowV a b), some v3, some (.str [x]), some (.ref G.length), o'] (G ++ [.lst (rowR (x :: a) b (b.length + 1))]))
  | 0, i, o, h => ⟨o, by obtain rfl : i = b.length := by omega
                         rfl⟩
  | k + 1, i, o, h => by
    obtain ⟨o', ih⟩ := for_inner (cl := cl) (v0 := v0) (v3 := v3) (a := a) (x := x) (G := G) hb k (i + 1) (some (.int k)) (by omega)
    refine ⟨o', ?_⟩
    have er : rgN (((k + 1 : Nat) : Int) - 1) (-1) (k + 1) = .int k :: rgN ((k : Int) - 1) (-1) k := by
      unfold rgN
      rw [List.range_succ_eq_map, List.map_cons, List.map_map]
      congr 1
      · congr 1; omega
      · apply List.map_congr_left
        intro i _
        simp only [Function.comp]
        congr 1
        omega
    rw [er]
    have hk : k < b.length := by omega
    have f1 : b.length ≤ 16777216 := by omega
    have c1 : atI b (k : Int) = some b[k] := atS hk
    have c2 : atI ((rowOf a b).map fun n : Nat => D.int (n : Int)) ((k : Int) + 1) = some (.int (dist a (b.drop (k + 1)) : Nat)) := rowOf_at (j := k + 1) (by omega)
    have c3 : atI ((rowOf a b).map fun n : Nat => D.int (n : Int)) (k : Int) = some (.int (dist a (b.drop k) : Nat)) := rowOf_at (by omega)
    have hdk : b.drop k = b[k] :: b.drop (k + 1) := List.drop_eq_getElem_cons hk
    have hR : rowR (x :: a) b (i + 1) = rowR (x :: a) b i ++ [.int (dist (x :: a) (b.drop (k + 1)) : Nat)] := by
      unfold rowR
      rw [List.range_succ, List.map_append, List.map_cons, List.map_nil, show b.length - i = k + 1 by omega]
    have hR2 : rowR (x :: a) b (i + 1 + 1) = rowR (x :: a) b (i + 1) ++ [.int (dist (x :: a) (b.drop k) : Nat)] := by
      unfold rowR
      rw [List.range_succ, List.map_append, List.map_cons, List.map_nil, show b.length - (i + 1) = k by omega]
    have c4 : atI (rowR (x :: a) b (i + 1)) (-1) = some (.int (dist (x :: a) (b.drop (k + 1)) : Nat)) := by
      rw [hR]; exact L2.atI_last _ _
    have hl : (rowR (x :: a) b (i + 1)).length < 16777216 := by simp [rowR]; omega
    simp only [loopF, bindL_nm, Option.bind_some, List.set_cons_succ, List.set_cons_zero]
    rw [drop_s (d := .non) (G1 := G ++ [.lst (rowR (x :: a) b (i + 1 + 1))])]
    · rw [evS_skip, Option.bind_some]
      exact ih
    · rw [ev_mth1, ev_v1]
      simp only [List.getElem?_cons_succ, List.getElem?_cons_zero, Option.bind_some, bnd_s]
      rw [show Mth.append.ty = .list from rfl, ref_ty at_new, if_pos rfl]
      have key : (ev cl (E.ite (E.cmp Cop.eq (E.idx (E.v 1) (E.v 6)) (E.v 4)) (E.idx (E.v 2) (E.bin Bop.add (E.v 6) (E.k (D.int 1)))) (E.bin Bop.add (E.k (D.int 1)) (E.blt Blt.min2 (E.cons (E.idx (E.v 2) (E.v 6)) (E.cons (E.idx (E.v 5) (E.neg (E.k (D.int 1)))) E.nil)))))).1
          [some v0, some (.str b), some (rowV a b), some v3, some (.str [x]), some (.ref G.length), some (.int k)] (G ++ [.lst (rowR (x :: a) b (i + 1))]) = some (.int (dist (x :: a) (b.drop k) : Nat), G ++ [.lst (rowR (x :: a) b (i + 1))]) := by
        rw [ev_ite1, ev_cmp2]
        have t1 : (ev cl (E.idx (E.v 1) (E.v 6))).1 [some v0, some (.str b), some (rowV a b), some v3, some (.str [x]), some (.ref G.length), some (.int k)] (G ++ [.lst (rowR (x :: a) b (i + 1))]) = some (.str [b[k]], G ++ [.lst (rowR (x :: a) b (i + 1))]) := by
          simp [sz, f1, c1]
        rw [t1]
        by_cases hx : b[k] = x
        · have : dist (x :: a) (b.drop k) = dist a (b.drop (k + 1)) := by rw [hdk, dist_cons, if_pos hx]
          rw [this]
          simp [hx, rowV, c2]
        · have : dist (x :: a) (b.drop k) = 1 + min (dist a (b.drop k)) (dist (x :: a) (b.drop (k + 1))) := by rw [hdk, dist_cons, if_neg hx]
          rw [this]
          have hm : (if ((dist (x :: a) (b.drop (k + 1)) : Nat) : Int) < (dist a (b.drop k) : Nat) then ((dist (x :: a) (b.drop (k + 1)) : Nat) : Int) else (dist a (b.drop k) : Nat)) = ((min (dist a (b.drop k)) (dist (x :: a) (b.drop (k + 1))) : Nat) : Int) := by split <;> omega
          simp only [ev_v1, List.getElem?_cons_succ, List.getElem?_cons_zero, Option.bind_some, bnd_s, cmpD_s, cmp_eqS, Option.map_some, blB_b]
          rw [show ([b[k]] == [x]) = false by simp [hx], if_neg (by decide)]
          simp only [ev_bin1, ev_k1, ev_blt1, ev_cons1, ev_nil1, ev_idx1, ev_neg1, ev_v1, List.getElem?_cons_succ, List.getElem?_cons_zero, Option.bind_some, bnd_s, rowV, idx_lst, c3, Option.map_some, negD, idx_r at_new, c4, consK_s, argK_s, blt_min2, two_s, min2_s, hm, bin_addi]
          congr 2
      simp only [ev_cons1, key, bnd_s, ev_nil1, consK_s, argK_s]
      rw [hR2]
      exact app_new hl
abbrev bOuter : S := (S.seq (S.set 5 (E.lst true (E.cons (E.bin Bop.add (E.idx (E.v 2) (E.neg (E.k (D.int 1)))) (E.k (D.int 1))) E.nil))) (S.seq (S.for_ (Tg.nm 6) (E.irng 3 (E.cons (E.bin Bop.sub (E.blt Blt.len (E.cons (E.v 1) E.nil)) (E.k (D.int 1))) (E.cons (E.neg (E.k (D.int 1))) (E.cons (E.neg (E.k (D.int 1))) E.nil)))) bInner) (S.seq (S.set 2 (E.rev false (E.v 5))) (S.seq (S.drop (E.mth Mth.append (E.v 3) (E.cons (E.v 2) E.nil))) S.skip))))
theorem rev_r {G : Hs} {n : Nat} {ds : List D} (h : G[n]? = some (.lst ds)) : revD false (.ref n) G = some (.lst ds.reverse, G) := by
  simp [revD, Mp.roOf, Mp.listOf, h]
theorem rowOf_ne (a b : List Nat) : (rowOf a b).map (fun n : Nat => D.int (n : Int)) = ((List.range b.length).map fun j => D.int (dist a (b.drop j) : Nat)) ++ [.int (a.length : Int)] := by
  unfold rowOf
  rw [List.range_succ, List.map_append, List.map_append, List.map_map]
  simp [dist_nil2]
theorem app_at {G : Hs} {n : Nat} {ds : List D} {x : D} {l : Hs} (hl : ds.length < 16777216) : appendM (.ref G.length) [x] (G ++ .lst ds :: l) = some (.non, G ++ .lst (ds ++ [x]) :: l) := app_mid hl
theorem rgA_3 (i j : Int) : rgA [.int i, .int j, .int (-1)] = if -(2 ^ 62) ≤ i ∧ i < 2 ^ 62 ∧ -(2 ^ 62) ≤ j ∧ j < 2 ^ 62 then some (i, -1, (i - j).toNat) else none := rfl
theorem rg3_s {G : Hs} {n : Nat} (hn : n ≤ 10000) : arity 3 rngK [.int ((n : Int) - 1), .int (-1), .int (-1)] G = some (.tup (rgN ((n : Int) - 1) (-1) n), G) := by
  unfold arity rngK
  have : rgA [.int ((n : Int) - 1), .int (-1), .int (-1)] = some ((n : Int) - 1, -1, n) := by
    have e : ((n : Int) - 1 - (-1)).toNat = n := by omega
    rw [rgA_3, if_pos (by omega), e]
  rw [if_pos (by rfl), this]; rfl
theorem for_outer {cl : Nat → List D → Hs → Rs} {v0 : D} {b : List Nat} {G : Hs} (hb : b.length ≤ 5000) : ∀ (rest a : List Nat) (l : Hs) (o4 o5 o6 : Option D), rest.length + (rows b a).length ≤ 10000 →
    ∃ u4 u5 u6 l', loopF (.nm 4) (evS cl bOuter) (rest.map fun c => .str [c]) [some v0, some (.str b), some (rowV a b), some (.ref G.length), o4, o5, o6] (G ++ .lst (rows b a).reverse :: l) =
      some (.nx [some v0, some (.str b), some (rowV (rest.reverse ++ a) b), some (.ref G.length), u4, u5, u6] (G ++ .lst (rows b (rest.reverse ++ a)).reverse :: l'))
  | [], a, l, o4, o5, o6, _ => ⟨o4, o5, o6, l, rfl⟩
  | x :: rest, a, l, o4, o5, o6, h => by
    simp only [List.length_cons] at h
    obtain ⟨o', hi⟩ := for_inner (cl := cl) (v0 := v0) (v3 := .ref G.length) (a := a) (x := x) (G := G ++ .lst (rows b a).reverse :: l) hb b.length 0 o6 (by omega)
    obtain ⟨u4, u5, u6, l', ih⟩ := for_outer (cl := cl) (v0 := v0) (G := G) hb rest (x :: a) (l ++ [.lst (rowR (x :: a) b (b.length + 1))]) (some (.str [x])) (some (.ref (G ++ Cell.lst (rows b a).reverse :: l).length)) o' (by simp [rows]; omega)
    refine ⟨u4, u5, u6, l', ?_⟩
    rw [List.reverse_cons, List.append_assoc]
    refine Eq.trans ?_ ih
    have f1 : b.length ≤ 16777216 := by omega
    have c0 : atI ((rowOf a b).map fun n : Nat => D.int (n : Int)) (-1) = some (.int (a.length : Int)) := by
      rw [rowOf_ne]; exact L2.atI_last _ _
    have r1 : rowR (x :: a) b (0 + 1) = [.int ((a.length : Int) + 1)] := by
      simp [rowR, dist_nil2]
    have hl : (rows b a).reverse.length < 16777216 := by simp; omega
    simp only [List.map_cons, loopF, bindL_nm, Option.bind_some, List.set_cons_succ, List.set_cons_zero]
    rw [set_s (d := .ref (G ++ .lst (rows b a).reverse :: l).length) (G1 := (G ++ .lst (rows b a).reverse :: l) ++ [.lst (rowR (x :: a) b (0 + 1))])]
    · simp only [List.set_cons_succ, List.set_cons_zero]
      rw [for_nx (ds := rgN ((b.length : Int) - 1) (-1) b.length) (G1 := (G ++ .lst (rows b a).reverse :: l) ++ [.lst (rowR (x :: a) b (0 + 1))]) ?_ hi]
      · rw [set_s (d := rowV (x :: a) b) (G1 := (G ++ .lst (rows b a).reverse :: l) ++ [.lst (rowR (x :: a) b (b.length + 1))])]
        · simp only [List.set_cons_succ, List.set_cons_zero]
          have ea : ∀ c : List D, (G ++ Cell.lst (rows b a).reverse :: l) ++ [Cell.lst c] = G ++ Cell.lst (rows b a).reverse :: (l ++ [.lst c]) := fun c => by simp
          rw [drop_s (d := .non) (G1 := G ++ .lst (rows b (x :: a)).reverse :: (l ++ [.lst (rowR (x :: a) b (b.length + 1))]))]
          · rw [evS_skip, Option.bind_some]
          · rw [ea, ev_mth1, ev_v1]
            simp only [List.getElem?_cons_succ, List.getElem?_cons_zero, Option.bind_some, bnd_s]
            rw [show Mth.append.ty = .list from rfl, ref_ty at_mid, if_pos rfl]
            simp only [ev_cons1, ev_v1, ev_nil1, List.getElem?_cons_succ, List.getElem?_cons_zero, Option.bind_some, bnd_s, consK_s, argK_s, rows, List.reverse_cons]
            exact app_mid hl
        · rw [ev_rev1, ev_v1]
          simp only [List.getElem?_cons_succ, List.getElem?_cons_zero, Option.bind_some, bnd_s]
          rw [rev_r at_new, rowR_rev]; rfl
      · simp only [ev_irng1, ev_cons1, ev_bin1, ev_blt1, ev_v1, ev_k1, ev_nil1, ev_neg1, List.getElem?_cons_succ, List.getElem?_cons_zero, Option.bind_some, bnd_s, consK_s, argK_s, blt_len, one_s, Mp.len_str, sz, f1, if_true, bin_subi, negD, rg3_s (by omega : b.length ≤ 10000)]
    · simp only [ev_lst1, ev_cons1, ev_bin1, ev_idx1, ev_neg1, ev_v1, ev_k1, ev_nil1, List.getElem?_cons_succ, List.getElem?_cons_zero, Option.bind_some, bnd_s, rowV, negD, idx_lst, c0, Option.map_some, bin_addi, consK_s, argK_s, lstK_s, r1]
      rw [if_pos (by rw [sz]; simp), newD_t]
theorem rows_len (a b : List Nat) : (rows b a).length = a.length + 1 := by
  induction a with
  | nil => rfl
  | cons x a ih => simp [rows, ih]
theorem cost_rows_run {m : Nat} (hm : 1 ≤ m) {G : Hs} {a b : List Nat} (ha : a.length ≤ 4000) (hb : b.length ≤ 4000) : ∃ l, F m 30 [.str a, .str b] G = some (.lst (rows b a), G ++ l) := by
  obtain ⟨u4, u5, u6, l', hr⟩ := for_outer (cl := F (m - 1)) (v0 := .str a) (b := b) (G := G) (by omega) a.reverse [] [] none none none (by simp [rows]; omega)
  refine ⟨.lst (rows b (a.reverse.reverse ++ [])).reverse :: l', run_ t30 rfl (by omega) ?_⟩
  have f1 : a.length ≤ 16777216 := by omega
  have f2 : b.length ≤ 16777216 := by omega
  have er : rgN (b.length : Int) (-1) (b.length + 1) = (rowOf [] b).map fun n : Nat => D.int (n : Int) := by
    unfold rgN rowOf
    rw [List.map_map]
    apply List.map_congr_left
    intro i hi
    have := List.mem_range.mp hi
    simp only [Function.comp, dist_nil, List.length_drop]
    congr 1; omega
  have lr : lrgK false [.int (b.length : Int), .int (-1), .int (-1)] G = some (rowV [] b, G) := by
    have : rgA [.int (b.length : Int), .int (-1), .int (-1)] = some ((b.length : Int), -1, b.length + 1) := by
      have e : ((b.length : Int) - (-1)).toNat = b.length + 1 := by omega
      rw [rgA_3, if_pos (by omega), e]
    unfold lrgK
    rw [this, Option.bind_some, if_pos (by show b.length + 1 ≤ 2 ^ 24; omega), newD_f, er]; rfl
  show (evS (F (m - 1)) b30 [some (.str a), some (.str b), none, none, none, none, none] G).bind outD = _
  unfold b30
  rw [set_s (d := rowV [] b) (G1 := G) (by simp [sz, f2, negD, lr]), set_s (d := .ref G.length) (G1 := G ++ [.lst [rowV [] b]]) (by simp [sz])]
  simp only [List.set_cons_succ, List.set_cons_zero]
  have hr' := hr
  rw [for_nx (ds := a.reverse.map fun c => .str [c]) (G1 := G ++ [.lst [rowV [] b]]) (by simp [sz, f1]) hr]
  refine seq_ret ?_
  rw [ev_rev1, ev_v1]
  simp only [List.getElem?_cons_succ, List.getElem?_cons_zero, Option.bind_some, bnd_s]
  rw [rev_r at_mid]
  simp
end K01
set_option Elab.async false
set_option linter.all false
set_option autoImplicit false
set_option maxRecDepth 100000
set_option maxHeartbeats 1000000
namespace K01
open PySem PySem.Spec L2 Mp
open PyProof.Rows hiding St

/-! 31: the steps -/
abbrev Stp := Nat × Nat × Bool
def stD (s : Stp) : D := .tup [.int s.1, .int s.2.1, .bl s.2.2]
def stepsF (h t : Nat) : List Nat → List Nat → List Stp
  | [], [] => []
  | [], _ :: b => (h, t, false) :: stepsF h (t + 1) [] b
  | _ :: a, [] => (h, t, true) :: stepsF (h + 1) t a []
  | x :: a, y :: b => if x = y then stepsF (h + 1) (t + 1) a b else if dist a (y :: b) ≤ dist (x :: a) b then (h, t, true) :: stepsF (h + 1) t a (y :: b) else (h, t, false) :: stepsF h (t + 1) (x :: a) b
termination_by a b => a.length + b.length
theorem stepsF_len : ∀ (n h t : Nat) (a b : List Nat), a.length + b.length ≤ n → (stepsF h t a b).length = dist a b := by
  intro n
  induction n with
  | zero =>
    intro h t a b hn
    cases a <;> cases b <;> simp at hn
    rw [stepsF, dist_nil]; rfl
  | succ n ih =>
    intro h t a b hn
    cases a with
    | nil => cases b with
      | nil => rw [stepsF, dist_nil]; rfl
      | cons y b => rw [stepsF, List.length_cons, ih _ _ _ _ (by simp at hn ⊢; omega), dist_nil, dist_nil]; rfl
    | cons x a => cases b with
      | nil => rw [stepsF, List.length_cons, ih _ _ _ _ (by simp at hn ⊢; omega), dist_nil2, dist_nil2]; rfl
      | cons y b =>
        simp only [List.length_cons] at hn
        rw [stepsF, dist_cons]
        by_cases e : x = y
        · rw [if_pos e, if_pos e.symm, ih _ _ _ _ (by omega)]
        · rw [if_neg e, if_neg (show ¬ (y = x) from fun q => e q.symm)]
          split
          · rw [List.length_cons, ih _ _ _ _ (by simp; omega)]; omega
          · rw [List.length_cons, ih _ _ _ _ (by simp; omega)]; omega
theorem rows_at {a b : List Nat} : ∀ {h : Nat}, h ≤ a.length → (rows b a)[h]? = some (rowV (a.drop h) b) := by
  induction a with
  | nil => intro h hh; simp at hh; subst hh; rfl
  | cons x a ih =>
    intro h hh
    cases h with
    | zero => rfl
    | succ h => simp only [rows, List.getElem?_cons_succ, List.drop_succ_cons]; exact ih (by simpa using hh)
abbrev goesE : E := (E.or (E.cmp Cop.eq (E.v 5) (E.blt Blt.len (E.cons (E.v 1) E.nil))) (E.and (E.cmp Cop.lt (E.v 4) (E.blt Blt.len (E.cons (E.v 0) E.nil))) (E.cmp Cop.le (E.idx (E.idx (E.v 2) (E.bin Bop.add (E.v 4) (E.k (D.int 1)))) (E.v 5)) (E.idx (E.idx (E.v 2) (E.v 4)) (E.bin Bop.add (E.v 5) (E.k (D.int 1)))))))
abbrev bGo : S := (S.seq (S.set 6 goesE) (S.seq (S.drop (E.mth Mth.append (E.v 3) (E.cons (E.tup (E.cons (E.v 4) (E.cons (E.v 5) (E.cons (E.v 6) E.nil)))) E.nil))) (S.seq (S.tgt (Tg.tp (Tg.cons (Tg.nm 4) (Tg.cons (Tg.nm 5) Tg.nil))) (E.ite (E.v 6) (E.tup (E.cons (E.bin Bop.add (E.v 4) (E.k (D.int 1))) (E.cons (E.v 5) E.nil))) (E.tup (E.cons (E.v 4) (E.cons (E.bin Bop.add (E.v 5) (E.k (D.int 1))) E.nil))))) S.skip)))
abbrev sameE : E := (E.and (E.cmp Cop.lt (E.v 4) (E.blt Blt.len (E.cons (E.v 0) E.nil))) (E.and (E.cmp Cop.lt (E.v 5) (E.blt Blt.len (E.cons (E.v 1) E.nil))) (E.cmp Cop.eq (E.idx (E.v 0) (E.v 4)) (E.idx (E.v 1) (E.v 5)))))
abbrev bStep : S := (S.seq (S.ife sameE (S.seq (S.par2 4 5 (E.cons (E.bin Bop.add (E.v 4) (E.k (D.int 1))) (E.cons (E.bin Bop.add (E.v 5) (E.k (D.int 1))) E.nil))) S.skip) bGo) S.skip)
abbrev goE : E := (E.or (E.cmp Cop.lt (E.v 4) (E.blt Blt.len (E.cons (E.v 0) E.nil))) (E.cmp Cop.lt (E.v 5) (E.blt Blt.len (E.cons (E.v 1) E.nil))))
abbrev stE (a b : List Nat) (n h t : Nat) (o : Option D) : Env' := [some (.str a), some (.str b), some (.lst (rows b a)), some (.ref n), some (.int h), some (.int t), o]
variable {cl : Nat → List D → Hs → Rs} {a b : List Nat} {n h t : Nat} {o : Option D} {G : Hs}
theorem go_ev (ha : a.length ≤ 4000) (hb : b.length ≤ 4000) : (ev cl goE).2 (stE a b n h t o) G = some (decide (h < a.length ∨ t < b.length), G) := by
  have f1 : a.length ≤ 16777216 := by omega
  have f2 : b.length ≤ 16777216 := by omega
  by_cases h1 : h < a.length
  · simp [sz, f1, f2, h1]
  · simp [sz, f1, f2, h1]
theorem same_ev (ha : a.length ≤ 4000) (hb : b.length ≤ 4000) (hh : h ≤ a.length) (ht : t ≤ b.length) : (ev cl sameE).2 (stE a b n h t o) G = some (decide (∃ x, a[h]? = some x ∧ b[t]? = some x), G) := by
  have f1 : a.length ≤ 16777216 := by omega
  have f2 : b.length ≤ 16777216 := by omega
  by_cases h1 : h < a.length
  · by_cases h2 : t < b.length
    · have q1 := atS h1
      have q2 := atS h2
      have e : decide (∃ x, a[h]? = some x ∧ b[t]? = some x) = (a[h] == b[t]) := by
        rw [List.getElem?_eq_getElem h1, List.getElem?_eq_getElem h2]
        rw [Bool.eq_iff_iff]
        simp
        exact ⟨Eq.symm, Eq.symm⟩
      rw [e]
      simp [sz, f1, f2, h1, h2, q1, q2]
    · have e : b[t]? = none := List.getElem?_eq_none (by omega)
      simp [sz, f1, f2, h1, h2, e]
  · have e : a[h]? = none := List.getElem?_eq_none (by omega)
    simp [sz, f1, f2, h1, e]
theorem goes_ev (ha : a.length ≤ 4000) (hb : b.length ≤ 4000) (hh : h ≤ a.length) (ht : t ≤ b.length) : (ev cl goesE).1 (stE a b n h t o) G = some (.bl (decide (t = b.length ∨ (h < a.length ∧ dist (a.drop (h + 1)) (b.drop t) ≤ dist (a.drop h) (b.drop (t + 1))))), G) := by
  have f1 : a.length ≤ 16777216 := by omega
  have f2 : b.length ≤ 16777216 := by omega
  by_cases h1 : t = b.length
  · subst h1
    simp [sz, f1, f2]
  · have h1' : ¬ (t : Int) = b.length := by omega
    by_cases h2 : h < a.length
    · have r1 : atI (rows b a) ((h : Int) + 1) = some (rowV (a.drop (h + 1)) b) := atI_nat (j := h + 1) (rows_at (by omega))
      have r2 : atI (rows b a) (h : Int) = some (rowV (a.drop h) b) := atI_nat (j := h) (rows_at (by omega))
      have r3 : atI ((rowOf (a.drop (h + 1)) b).map fun n : Nat => D.int (n : Int)) (t : Int) = some (.int (dist (a.drop (h + 1)) (b.drop t) : Nat)) := rowOf_at (by omega)
      have r4 : atI ((rowOf (a.drop h) b).map fun n : Nat => D.int (n : Int)) ((t : Int) + 1) = some (.int (dist (a.drop h) (b.drop (t + 1)) : Nat)) := rowOf_at (j := t + 1) (by omega)
      generalize dist (a.drop (h + 1)) (b.drop t) = d1 at *
      generalize dist (a.drop h) (b.drop (t + 1)) = d2 at *
      simp [sz, f1, f2, h1, h1', h2, r1, r2, r3, r4, rowV]
    · have h2' : ¬ (h : Int) < a.length := by omega
      simp [sz, f1, f2, h1, h1', h2, h2']
theorem bGo_ev {ds : List D} {g : Bool} (hg : (ev cl goesE).1 (stE a b G.length h t o) (G ++ [.lst ds]) = some (.bl g, G ++ [.lst ds])) (hl : ds.length < 16777216) : evS cl bGo (stE a b G.length h t o) (G ++ [.lst ds]) =
    some (.nx (stE a b G.length (if g then h + 1 else h) (if g then t else t + 1) (some (.bl g))) (G ++ [.lst (ds ++ [stD (h, t, g)])])) := by
  rw [set_s hg]
  simp only [stE, List.set_cons_succ, List.set_cons_zero]
  rw [drop_s (d := .non) (G1 := G ++ [.lst (ds ++ [stD (h, t, g)])])]
  · cases g with
    | true => rw [tgt_s (d := .tup [.int ((h : Int) + 1), .int t]) (G1 := G ++ [.lst (ds ++ [stD (h, t, true)])]) (by simp [sz]) (by simp; rfl)]; rfl
    | false => rw [tgt_s (d := .tup [.int (h : Int), .int ((t : Int) + 1)]) (G1 := G ++ [.lst (ds ++ [stD (h, t, false)])]) (by simp [sz]) (by simp; rfl)]; rfl
  · rw [ev_mth1, ev_v1]
    simp only [List.getElem?_cons_succ, List.getElem?_cons_zero, Option.bind_some, bnd_s]
    rw [show Mth.append.ty = .list from rfl, ref_ty at_new, if_pos rfl]
    simp only [ev_tup1, ev_cons1, ev_v1, ev_nil1, List.getElem?_cons_succ, List.getElem?_cons_zero, Option.bind_some, bnd_s, consK_s, argK_s, tupK_s]
    rw [if_pos (by rw [sz]; simp), bnd_s, bnd_s, argK_s]
    exact app_new hl
theorem stepsF_go (hh : h ≤ a.length) (ht : t ≤ b.length) :
    (¬ (h < a.length ∨ t < b.length) → stepsF h t (a.drop h) (b.drop t) = []) ∧
    ((∃ x, a[h]? = some x ∧ b[t]? = some x) → h < a.length ∧ t < b.length ∧ stepsF h t (a.drop h) (b.drop t) = stepsF (h + 1) (t + 1) (a.drop (h + 1)) (b.drop (t + 1))) ∧
    ((h < a.length ∨ t < b.length) → ¬ (∃ x, a[h]? = some x ∧ b[t]? = some x) → (t = b.length ∨ (h < a.length ∧ dist (a.drop (h + 1)) (b.drop t) ≤ dist (a.drop h) (b.drop (t + 1)))) → h < a.length ∧ stepsF h t (a.drop h) (b.drop t) = (h, t, true) :: stepsF (h + 1) t (a.drop (h + 1)) (b.drop t)) ∧
    ((h < a.length ∨ t < b.length) → ¬ (∃ x, a[h]? = some x ∧ b[t]? = some x) → ¬ (t = b.length ∨ (h < a.length ∧ dist (a.drop (h + 1)) (b.drop t) ≤ dist (a.drop h) (b.drop (t + 1)))) → t < b.length ∧ stepsF h t (a.drop h) (b.drop t) = (h, t, false) :: stepsF h (t + 1) (a.drop h) (b.drop (t + 1))) := by
  by_cases h1 : h < a.length
  · have ea : a.drop h = a[h] :: a.drop (h + 1) := List.drop_eq_getElem_cons h1
    by_cases h2 : t < b.length
    · have eb : b.drop t = b[t] :: b.drop (t + 1) := List.drop_eq_getElem_cons h2
      have hx : (∃ x, a[h]? = some x ∧ b[t]? = some x) ↔ a[h] = b[t] := by
        rw [List.getElem?_eq_getElem h1, List.getElem?_eq_getElem h2]
        simp
        exact ⟨Eq.symm, Eq.symm⟩
      rw [hx]
      have h3 : ¬ t = b.length := by omega
      refine ⟨fun h => by omega, fun e => ⟨h1, h2, ?_⟩, fun _ e q => ⟨h1, ?_⟩, fun _ e q => ⟨h2, ?_⟩⟩
      · rw [ea, eb, stepsF, if_pos e]
      · have q := (q.resolve_left h3).2
        rw [eb, ea] at q ⊢
        rw [stepsF, if_neg e, if_pos q]
      · have q : ¬ dist (a.drop (h + 1)) (b.drop t) ≤ dist (a.drop h) (b.drop (t + 1)) := fun x => q (.inr ⟨h1, x⟩)
        rw [eb, ea] at q ⊢
        rw [stepsF, if_neg e, if_neg q]
    · have eb : b.drop t = [] := List.drop_of_length_le (by omega)
      have hx : ¬ (∃ x, a[h]? = some x ∧ b[t]? = some x) := by
        rintro ⟨x, _, q⟩
        rw [List.getElem?_eq_none (by omega)] at q; cases q
      refine ⟨fun h => by omega, fun e => absurd e hx, fun _ _ _ => ⟨h1, ?_⟩, fun _ _ q => absurd (.inl (by omega)) q⟩
      rw [eb, ea, stepsF]
  · have ea : a.drop h = [] := List.drop_of_length_le (by omega)
    have hx : ¬ (∃ x, a[h]? = some x ∧ b[t]? = some x) := by
      rintro ⟨x, q, _⟩
      rw [List.getElem?_eq_none (by omega)] at q; cases q
    by_cases h2 : t < b.length
    · have eb : b.drop t = b[t] :: b.drop (t + 1) := List.drop_eq_getElem_cons h2
      refine ⟨fun h => by omega, fun e => absurd e hx, fun _ _ q => by omega, fun _ _ q => ⟨h2, ?_⟩⟩
      rw [eb, ea, stepsF]
    · have eb : b.drop t = [] := List.drop_of_length_le (by omega)
      refine ⟨fun _ => ?_, fun e => absurd e hx, fun q => by omega, fun q => by omega⟩
      rw [ea, eb, stepsF]
theorem seq_ife_tt {cl : Nat → List D → Hs → Rs} {ς : Env'} {G G1 : Hs} {c : E} {x y r : S} (h : (ev cl c).2 ς G = some (true, G1)) : evS cl (.seq (.ife c x y) r) ς G = evS cl (.seq x r) ς G1 := by
  rw [evS_seq, evS_ife, h]; rfl
theorem seq_ife_ff {cl : Nat → List D → Hs → Rs} {ς : Env'} {G G1 : Hs} {c : E} {x y r : S} (h : (ev cl c).2 ς G = some (false, G1)) : evS cl (.seq (.ife c x y) r) ς G = evS cl (.seq y r) ς G1 := by
  rw [evS_seq, evS_ife, h]; rfl
theorem bStep_ev {ds : List D} (ha : a.length ≤ 4000) (hb : b.length ≤ 4000) (hh : h ≤ a.length) (ht : t ≤ b.length) (hgo : h < a.length ∨ t < b.length) (hl : ds.length < 16777216) :
    ∃ h' t' o' ds', h' ≤ a.length ∧ t' ≤ b.length ∧ (a.length - h') + (b.length - t') < (a.length - h) + (b.length - t) ∧ ds'.length ≤ ds.length + 1 ∧
      evS cl bStep (stE a b G.length h t o) (G ++ [.lst ds]) = some (.nx (stE a b G.length h' t' o') (G ++ [.lst ds'])) ∧ ds' ++ (stepsF h' t' (a.drop h') (b.drop t')).map stD = ds ++ (stepsF h t (a.drop h) (b.drop t)).map stD := by
  obtain ⟨s1, s2, s3, s4⟩ := stepsF_go hh ht
  by_cases e : ∃ x, a[h]? = some x ∧ b[t]? = some x
  · obtain ⟨h1, h2, q⟩ := s2 e
    refine ⟨h + 1, t + 1, o, ds, by omega, by omega, by omega, by omega, ?_, by rw [q]⟩
    rw [seq_ife_tt (by rw [same_ev ha hb hh ht, decide_eq_true e])]
    simp
  · by_cases g : t = b.length ∨ (h < a.length ∧ dist (a.drop (h + 1)) (b.drop t) ≤ dist (a.drop h) (b.drop (t + 1)))
    · obtain ⟨h1, q⟩ := s3 hgo e g
      refine ⟨h + 1, t, some (.bl true), ds ++ [stD (h, t, true)], by omega, by omega, by omega, by simp, ?_, by rw [q]; simp⟩
      rw [seq_ife_ff (by rw [same_ev ha hb hh ht, decide_eq_false e]), evS_seq, bGo_ev (g := true) (by rw [goes_ev ha hb hh ht, decide_eq_true g]) hl]
      rfl
    · obtain ⟨h1, q⟩ := s4 hgo e g
      refine ⟨h, t + 1, some (.bl false), ds ++ [stD (h, t, false)], by omega, by omega, by omega, by simp, ?_, by rw [q]; simp⟩
      rw [seq_ife_ff (by rw [same_ev ha hb hh ht, decide_eq_false e]), evS_seq, bGo_ev (g := false) (by rw [goes_ev ha hb hh ht, decide_eq_false g]) hl]
      rfl
theorem while_steps (ha : a.length ≤ 4000) (hb : b.length ≤ 4000) :
    ∃ ς' , loopW (ev cl goE).2 (evS cl bStep) 100000 (stE a b G.length 0 0 none) (G ++ [.lst []]) = some (.nx ς' (G ++ [.lst ((stepsF 0 0 a b).map stD)])) ∧ ∃ h t o, ς' = stE a b G.length h t o := by
  obtain ⟨ς', G', e, h', t', o', e1, e2⟩ := loopW_run (c := (ev cl goE).2) (f := evS cl bStep)
    (fun m ς G' => ∃ h t o ds, h ≤ a.length ∧ t ≤ b.length ∧ m = (a.length - h) + (b.length - t) ∧ ds.length + m ≤ 8000 ∧ ς = stE a b G.length h t o ∧ G' = G ++ [.lst ds] ∧ ds ++ (stepsF h t (a.drop h) (b.drop t)).map stD = (stepsF 0 0 a b).map stD)
    (fun ς G' => ∃ h t o, ς = stE a b G.length h t o ∧ G' = G ++ [.lst ((stepsF 0 0 a b).map stD)])
    (fun m ς G' ⟨h, t, o, ds, hh, ht, hm, hl, e1, e2, e3⟩ => by
      subst e1 e2
      refine ⟨decide (h < a.length ∨ t < b.length), _, go_ev ha hb, fun q => ⟨h, t, o, rfl, ?_⟩, fun q => ?_⟩
      · have := (stepsF_go hh ht).1 (of_decide_eq_false q)
        rw [this] at e3
        rw [← e3]; simp
      · obtain ⟨h', t', o', ds', p1, p2, p3, p4, p5, p6⟩ := bStep_ev (cl := cl) (o := o) (G := G) (ds := ds) ha hb hh ht (of_decide_eq_true q) (by omega)
        exact ⟨_, _, _, by omega, p5, h', t', o', ds', p1, p2, rfl, by omega, rfl, rfl, by rw [p6, e3]⟩)
    100000 (a.length + b.length) (stE a b G.length 0 0 none) (G ++ [.lst []]) ⟨0, 0, none, [], by omega, by omega, rfl, by simp; omega, rfl, rfl, by simp⟩ (by omega)
  exact ⟨ς', by rw [e, e2], h', t', o', e1⟩
theorem steps_of_run {m : Nat} (hm : 2 ≤ m) {G : Hs} {a b : List Nat} (ha : a.length ≤ 4000) (hb : b.length ≤ 4000) : ∃ l, F m 31 [.str a, .str b] G = some (.lst ((stepsF 0 0 a b).map stD), G ++ l) := by
  obtain ⟨l, e⟩ := cost_rows_run (m := m - 1) (by omega) (G := G) ha hb
  refine ⟨l ++ [.gone], run_ t31 rfl (by omega) ?_⟩
  rw [← List.append_assoc]
  generalize G ++ l = G2 at *
  obtain ⟨ς', e2, h, t, o, rfl⟩ := while_steps (cl := F (m - 1)) (G := G2) ha hb
  show (evS (F (m - 1)) b31 [some (.str a), some (.str b), none, none, none, none, none] G).bind outD = _
  unfold b31
  rw [seq_nx (ς' := [some (.str a), some (.str b), some (.lst (rows b a)), some (.ref G2.length), none, none, none]) (G1 := G2 ++ [.lst []])]
  · rw [tgt_s (d := .tup [.int 0, .int 0]) (G1 := G2 ++ [.lst []]) (by simp [sz]) (by simp; rfl)]
    rw [seq_nx (ς' := stE a b G2.length h t o) (G1 := G2 ++ [.lst ((stepsF 0 0 a b).map stD)]) ((evS_whl).trans e2)]
    refine seq_ret ?_
    rw [ev_frz1]
    simp only [List.getElem?_cons_succ, List.getElem?_cons_zero, Option.bind_some]
    rw [frz_r at_new, set_new]
  · simp only [evS_par2, ev_cons1, ev_call1, ev_v1, ev_nil1, ev_lst1, List.getElem?_cons_succ, List.getElem?_cons_zero, Option.bind_some, bnd_s, consK_s, argK_s]
    rw [if_pos (by rfl), e]
    simp [sz]
end K01
set_option Elab.async false
set_option linter.all false
set_option autoImplicit false
set_option maxRecDepth 100000
set_option maxHeartbeats 1000000
namespace K01
open PySem PySem.Spec L2 Mp
open PyProof.Rows hiding St

/-! 32 -/
@[simp] theorem evS_setIx {cl : Nat → List D → Hs → Rs} {ς : Env'} {G : Hs} {o i e : E} : evS cl (.setIx o i e) ς G = bnd ((ev cl e).1 ς G) fun d G1 => bnd ((ev cl o).1 ς G1) fun x G2 => bnd ((ev cl i).1 ς G2) fun y G3 => (setK x y d G3).bind fun G4 => some (.nx ς G4) := by rfl
theorem setK_last {G : Hs} {n : Nat} {ds : List D} {x d : D} (h : G[n]? = some (.lst (ds ++ [x]))) : setK (.ref n) (.int (-1)) d G = some (G.set n (.lst (ds ++ [d]))) := by
  have e : ixN (ds ++ [x]).length (-1) = some ds.length := by
    unfold ixN
    simp
    omega
  simp only [setK, h, e, Option.bind_some]
  simp
abbrev bEb : S := (S.seq (S.tgt (Tg.tp (Tg.cons (Tg.nm 7) (Tg.cons (Tg.nm 8) (Tg.cons (Tg.nm 9) Tg.nil)))) (E.ite (E.cmp Cop.gt (E.blt Blt.len (E.cons (E.v 3) E.nil)) (E.k (D.int 0))) (E.idx (E.v 3) (E.neg (E.k (D.int 1)))) (E.tup (E.cons (E.k (D.int 0)) (E.cons (E.neg (E.k (D.int 1))) (E.cons (E.k (D.str [])) E.nil)))))) (S.seq (S.set 10 (E.ite (E.v 6) (E.k (D.str [])) (E.idx (E.v 1) (E.v 5)))) (S.seq (S.ife (E.and (E.cmp Cop.ge (E.v 8) (E.k (D.int 0))) (E.cmp Cop.eq (E.bin Bop.add (E.v 7) (E.v 8)) (E.bin Bop.add (E.v 4) (E.v 2)))) (S.seq (S.setIx (E.v 3) (E.neg (E.k (D.int 1))) (E.tup (E.cons (E.v 7) (E.cons (E.bin Bop.add (E.v 8) (E.ite (E.v 6) (E.k (D.int 1)) (E.k (D.int 0)))) (E.cons (E.bin Bop.add (E.v 9) (E.v 10)) E.nil))))) S.skip) (S.seq (S.drop (E.mth Mth.append (E.v 3) (E.cons (E.tup (E.cons (E.bin Bop.add (E.v 4) (E.v 2)) (E.cons (E.ite (E.v 6) (E.k (D.int 1)) (E.k (D.int 0))) (E.cons (E.v 10) E.nil)))) E.nil))) S.skip)) S.skip)))
theorem costOf_app (a b : List Ed) : costOf (a ++ b) = costOf a + costOf b := by simp [costOf]
theorem costOf_one (p g : Nat) (c : List Nat) : costOf [(p, g, c)] = g + c.length := by simp [costOf]
theorem bEb_ev {cl : Nat → List D → Hs → Rs} {v0 : D} {b : List Nat} {more : Nat} {G : Hs} {es : List Ed} {h t : Nat} {g : Bool} {o7 o8 o9 o10 : Option D} (hb : b.length ≤ 4000) (ht : g = false → t < b.length) (hc : costOf es ≤ 9000) (hl : es.length ≤ 9000) :
    ∃ es' u7 u8 u9 u10, costOf es' = costOf es + 1 ∧ es'.length ≤ es.length + 1 ∧
    evS cl bEb [some v0, some (.str b), some (.int more), some (.ref G.length), some (.int h), some (.int t), some (.bl g), o7, o8, o9, o10] (G ++ [.lst (es.map eD)]) =
      some (.nx [some v0, some (.str b), some (.int more), some (.ref G.length), some (.int h), some (.int t), some (.bl g), u7, u8, u9, u10] (G ++ [.lst (es'.map eD)])) := by
  have f1 : b.length ≤ 16777216 := by omega
  have hlen : (es.map eD).length < 16777216 := by simp; omega
  obtain ⟨sg, hsl, hsg⟩ : ∃ sg : List Nat, sg.length = (if g then 0 else 1) ∧ ∀ (x7 x8 x9 : Option D) (G' : Hs), (ev cl (E.ite (E.v 6) (E.k (D.str [])) (E.idx (E.v 1) (E.v 5)))).1 [some v0, some (.str b), some (.int more), some (.ref G.length), some (.int h), some (.int t), some (.bl g), x7, x8, x9, o10] G' = some (.str sg, G') := by
    cases g with
    | true => exact ⟨[], rfl, fun x7 x8 x9 G' => by simp⟩
    | false => exact ⟨[b[t]'(ht rfl)], rfl, fun x7 x8 x9 G' => by simp [sz, f1, atS (ht rfl)]⟩
  have gb : ∀ (x7 x8 x9 x10 : Option D) (G' : Hs), (ev cl (E.ite (E.v 6) (E.k (D.int 1)) (E.k (D.int 0)))).1 [some v0, some (.str b), some (.int more), some (.ref G.length), some (.int h), some (.int t), some (.bl g), x7, x8, x9, x10] G' = some (.int (if g then 1 else 0), G') := by
    intro x7 x8 x9 x10 G'; cases g <;> simp
  have hap : ∀ (x7 x8 x9 : Option D), evS cl (S.seq (S.drop (E.mth Mth.append (E.v 3) (E.cons (E.tup (E.cons (E.bin Bop.add (E.v 4) (E.v 2)) (E.cons (E.ite (E.v 6) (E.k (D.int 1)) (E.k (D.int 0))) (E.cons (E.v 10) E.nil)))) E.nil))) S.skip)
      [some v0, some (.str b), some (.int more), some (.ref G.length), some (.int h), some (.int t), some (.bl g), x7, x8, x9, some (.str sg)] (G ++ [.lst (es.map eD)]) =
      some (.nx [some v0, some (.str b), some (.int more), some (.ref G.length), some (.int h), some (.int t), some (.bl g), x7, x8, x9, some (.str sg)] (G ++ [.lst ((es ++ [(h + more, if g then 1 else 0, sg)]).map eD)])) := by
    intro x7 x8 x9
    rw [drop_s (d := .non) (G1 := G ++ [.lst ((es ++ [(h + more, if g then 1 else 0, sg)]).map eD)])]
    · rfl
    · rw [ev_mth1, ev_v1]
      simp only [List.getElem?_cons_succ, List.getElem?_cons_zero, Option.bind_some, bnd_s]
      rw [show Mth.append.ty = .list from rfl, ref_ty at_new, if_pos rfl]
      simp only [ev_cons1, ev_tup1, gb, ev_bin1, ev_v1, ev_nil1, List.getElem?_cons_succ, List.getElem?_cons_zero, Option.bind_some, bnd_s, consK_s, argK_s, bin_addi, tupK_s]
      rw [if_pos (by rw [sz]; simp), bnd_s, bnd_s, argK_s, List.map_append]
      have : eD (h + more, if g then 1 else 0, sg) = .tup [.int ((h : Int) + more), .int (if g then 1 else 0), .str sg] := by
        cases g <;> rfl
      rw [List.map_cons, this]
      exact app_new hlen
  rcases List.eq_nil_or_concat es with rfl | ⟨pre, ⟨p, q, c⟩, rfl⟩
  · refine ⟨[] ++ [(h + more, if g then 1 else 0, sg)], some (.int 0), some (.int (-1)), some (.str []), some (.str sg), ?_, by simp, ?_⟩
    · rw [List.nil_append, costOf_one, hsl]; cases g <;> rfl
    · have e1 : (ev cl (E.ite (E.cmp Cop.gt (E.blt Blt.len (E.cons (E.v 3) E.nil)) (E.k (D.int 0))) (E.idx (E.v 3) (E.neg (E.k (D.int 1)))) (E.tup (E.cons (E.k (D.int 0)) (E.cons (E.neg (E.k (D.int 1))) (E.cons (E.k (D.str [])) E.nil)))))).1
          [some v0, some (.str b), some (.int more), some (.ref G.length), some (.int h), some (.int t), some (.bl g), o7, o8, o9, o10] (G ++ [.lst (([] : List Ed).map eD)]) = some (.tup [.int 0, .int (-1), .str []], G ++ [.lst (([] : List Ed).map eD)]) := by
        simp only [List.map_nil]
        simp [len_r at_new, negD, sz]
      rw [tgt_s e1 (ς' := [some v0, some (.str b), some (.int more), some (.ref G.length), some (.int h), some (.int t), some (.bl g), some (.int 0), some (.int (-1)), some (.str []), o10]) (by simp)]
      rw [set_s (hsg _ _ _ _)]
      simp only [List.set_cons_succ, List.set_cons_zero]
      rw [seq_ife_ff (G1 := G ++ [.lst (([] : List Ed).map eD)]) (by simp), evS_seq, hap]
      rfl
  · rw [List.concat_eq_append] at *
    have e1 : (ev cl (E.ite (E.cmp Cop.gt (E.blt Blt.len (E.cons (E.v 3) E.nil)) (E.k (D.int 0))) (E.idx (E.v 3) (E.neg (E.k (D.int 1)))) (E.tup (E.cons (E.k (D.int 0)) (E.cons (E.neg (E.k (D.int 1))) (E.cons (E.k (D.str [])) E.nil)))))).1
          [some v0, some (.str b), some (.int more), some (.ref G.length), some (.int h), some (.int t), some (.bl g), o7, o8, o9, o10] (G ++ [.lst ((pre ++ [(p, q, c)]).map eD)]) = some (eD (p, q, c), G ++ [.lst ((pre ++ [(p, q, c)]).map eD)]) := by
      have a1 : atI ((pre ++ [(p, q, c)]).map eD) (-1) = some (eD (p, q, c)) := by rw [List.map_append]; exact L2.atI_last _ _
      have a2 : (0 : Int) < ((pre ++ [(p, q, c)]).map eD).length := by simp
      generalize (pre ++ [(p, q, c)]).map eD = ds at *
      rw [ev_ite1, ev_cmp2]
      simp only [ev_blt1, ev_cons1, ev_v1, ev_nil1, ev_k1, ev_idx1, ev_neg1, List.getElem?_cons_succ, List.getElem?_cons_zero, Option.bind_some, bnd_s, consK_s, argK_s, blt_len, one_s, len_r at_new, cmpD_s, cmp_gtI, Option.map_some, blB_b]
      rw [decide_eq_true a2, if_pos rfl]
      simp only [negD, bnd_s, idx_r at_new, a1, Option.map_some]
    have hq : costOf (pre ++ [(p, q, c)]) = costOf pre + (q + c.length) := by rw [costOf_app, costOf_one]
    by_cases hp : p + q = h + more
    · refine ⟨pre ++ [(p, q + (if g then 1 else 0), c ++ sg)], some (.int p), some (.int q), some (.str c), some (.str sg), ?_, by simp, ?_⟩
      · rw [costOf_app, costOf_one, hq, List.length_append, hsl]; cases g <;> simp <;> omega
      · rw [tgt_s e1 (ς' := [some v0, some (.str b), some (.int more), some (.ref G.length), some (.int h), some (.int t), some (.bl g), some (.int p), some (.int q), some (.str c), o10]) (by simp [eD, dE])]
        rw [set_s (hsg _ _ _ _)]
        simp only [List.set_cons_succ, List.set_cons_zero]
        have hp' : (p : Int) + q = (h : Int) + more := by omega
        rw [seq_ife_tt (G1 := G ++ [.lst ((pre ++ [(p, q, c)]).map eD)]) (by simp [hp'])]
        have hcs : c.length + sg.length ≤ 16777216 := by rw [hsl]; split <;> omega
        have y : (ev cl (E.tup (E.cons (E.v 7) (E.cons (E.bin Bop.add (E.v 8) (E.ite (E.v 6) (E.k (D.int 1)) (E.k (D.int 0)))) (E.cons (E.bin Bop.add (E.v 9) (E.v 10)) E.nil))))).1 [some v0, some (.str b), some (.int more), some (.ref G.length), some (.int h), some (.int t), some (.bl g), some (.int p), some (.int q), some (.str c), some (.str sg)] (G ++ [.lst ((pre ++ [(p, q, c)]).map eD)]) =
            some (eD (p, q + (if g then 1 else 0), c ++ sg), G ++ [.lst ((pre ++ [(p, q, c)]).map eD)]) := by
          simp only [ev_tup1, ev_cons1, ev_bin1, gb, ev_v1, ev_nil1, List.getElem?_cons_succ, List.getElem?_cons_zero, Option.bind_some, bnd_s, consK_s, argK_s, bin_addi, bin_adds, tupK_s, sz, hcs, if_true]
          rw [if_pos (by simp)]
          cases g <;> rfl
        rw [evS_seq, evS_seq, evS_setIx, y, bnd_s, ev_v1]
        simp only [List.getElem?_cons_succ, List.getElem?_cons_zero, Option.bind_some, bnd_s, ev_neg1, ev_k1, negD]
        rw [setK_last (ds := pre.map eD) (x := eD (p, q, c)) (by rw [at_new]; simp), Option.bind_some, set_new]
        simp
    · refine ⟨(pre ++ [(p, q, c)]) ++ [(h + more, if g then 1 else 0, sg)], some (.int p), some (.int q), some (.str c), some (.str sg), ?_, by simp, ?_⟩
      · rw [costOf_app, costOf_one, hsl]; cases g <;> simp
      · rw [tgt_s e1 (ς' := [some v0, some (.str b), some (.int more), some (.ref G.length), some (.int h), some (.int t), some (.bl g), some (.int p), some (.int q), some (.str c), o10]) (by simp [eD, dE])]
        rw [set_s (hsg _ _ _ _)]
        simp only [List.set_cons_succ, List.set_cons_zero]
        have hp' : ¬ (p : Int) + q = (h : Int) + more := by omega
        rw [seq_ife_ff (G1 := G ++ [.lst ((pre ++ [(p, q, c)]).map eD)]) (by simp [hp']), evS_seq, hap]
        rfl
theorem for_eb {cl : Nat → List D → Hs → Rs} {v0 : D} {b : List Nat} {more : Nat} {G : Hs} (hb : b.length ≤ 4000) : ∀ (st : List Stp) (es : List Ed) (o4 o5 o6 o7 o8 o9 o10 : Option D), (∀ s ∈ st, s.2.2 = false → s.2.1 < b.length) → costOf es + st.length ≤ 9000 → es.length + st.length ≤ 9000 →
    ∃ es' ς', costOf es' = costOf es + st.length ∧ es'.length ≤ es.length + st.length ∧ ς'[3]? = some (some (D.ref G.length)) ∧ 
    loopF (Tg.tp (Tg.cons (Tg.nm 4) (Tg.cons (Tg.nm 5) (Tg.cons (Tg.nm 6) Tg.nil)))) (evS cl bEb) (st.map stD) [some v0, some (.str b), some (.int more), some (.ref G.length), o4, o5, o6, o7, o8, o9, o10] (G ++ [.lst (es.map eD)]) = some (.nx ς' (G ++ [.lst (es'.map eD)]))
  | [], es, o4, o5, o6, o7, o8, o9, o10, _, _, _ => ⟨es, _, rfl, Nat.le_refl _, rfl, rfl⟩
  | (h, t, g) :: st, es, o4, o5, o6, o7, o8, o9, o10, h1, h2, h3 => by
    simp only [List.length_cons] at h2 h3
    obtain ⟨es1, u7, u8, u9, u10, c1, c2, e⟩ := bEb_ev (cl := cl) (v0 := v0) (more := more) (G := G) (es := es) (h := h) (t := t) (g := g) (o7 := o7) (o8 := o8) (o9 := o9) (o10 := o10) hb (h1 (h, t, g) (by simp)) (by omega) (by omega)
    obtain ⟨es', ς', d1, d2, d3, ih⟩ := for_eb (cl := cl) (v0 := v0) (more := more) (G := G) hb st es1 (some (.int h)) (some (.int t)) (some (.bl g)) u7 u8 u9 u10 (fun s hs => h1 s (by simp [hs])) (by omega) (by omega)
    refine ⟨es', ς', by simp; omega, by simp; omega, d3, ?_⟩
    simp only [List.map_cons, loopF]
    have bb : bindL (Tg.tp (Tg.cons (Tg.nm 4) (Tg.cons (Tg.nm 5) (Tg.cons (Tg.nm 6) Tg.nil)))) [stD (h, t, g)] [some v0, some (.str b), some (.int more), some (.ref G.length), o4, o5, o6, o7, o8, o9, o10] = some [some v0, some (.str b), some (.int more), some (.ref G.length), some (.int h), some (.int t), some (.bl g), o7, o8, o9, o10] := by
      simp [stD]
    rw [bb, Option.bind_some, e, Option.bind_some]
    exact ih
theorem edits_by_run {m : Nat} (hm : 1 ≤ m) {G : Hs} {st : List Stp} {b : List Nat} {more : Nat} (hb : b.length ≤ 4000) (h1 : ∀ s ∈ st, s.2.2 = false → s.2.1 < b.length) (h2 : st.length ≤ 9000) :
    ∃ es l, costOf es = st.length ∧ es.length ≤ st.length ∧ F m 32 [.lst (st.map stD), .str b, .int more] G = some (esD es, G ++ l) := by
  obtain ⟨es', ς', d1, d2, d3, hr⟩ := for_eb (cl := F (m - 1)) (v0 := .lst (st.map stD)) (more := more) (G := G) hb st [] none none none none none none none h1 (by simp [costOf]; omega) (by simp; omega)
  refine ⟨es', [.lst (es'.map eD)], by rw [d1]; simp [costOf], by simpa using d2, run_ t32 rfl (by omega) ?_⟩
  show (evS (F (m - 1)) b32 [some (.lst (st.map stD)), some (.str b), some (.int more), none, none, none, none, none, none, none, none] G).bind outD = _
  unfold b32
  rw [set_s (d := .ref G.length) (G1 := G ++ [.lst []]) (by simp [sz])]
  simp only [List.set_cons_succ, List.set_cons_zero]
  rw [for_nx (ds := st.map stD) (G1 := G ++ [.lst []]) (by simp) hr]
  refine seq_ret ?_
  simp only [ev_blt1, ev_cons1, ev_nil1, ev_v1, d3, Option.bind_some, bnd_s, consK_s, argK_s, blt_tuple, one_s, tup_r at_new]
  rfl
theorem stepsF_in : ∀ (n h t : Nat) (a b : List Nat), a.length + b.length ≤ n → ∀ s ∈ stepsF h t a b, s.2.2 = false → s.2.1 < t + b.length := by
  intro n
  induction n with
  | zero =>
    intro h t a b hn
    cases a <;> cases b <;> simp at hn
    rw [stepsF]; simp
  | succ n ih =>
    intro h t a b hn
    cases a with
    | nil => cases b with
      | nil => rw [stepsF]; simp
      | cons y b =>
        rw [stepsF]
        intro s hs q
        rcases List.mem_cons.mp hs with rfl | hs
        · simp
        · have := ih _ _ _ _ (by simp at hn ⊢; omega) s hs q
          simp; omega
    | cons x a => cases b with
      | nil =>
        rw [stepsF]
        intro s hs q
        rcases List.mem_cons.mp hs with rfl | hs
        · cases q
        · have := ih _ _ _ _ (by simp at hn ⊢; omega) s hs q
          simpa using this
      | cons y b =>
        simp only [List.length_cons] at hn
        rw [stepsF]
        intro s hs q
        split at hs
        · have := ih _ _ _ _ (by omega) s hs q
          simp; omega
        · split at hs
          · rcases List.mem_cons.mp hs with rfl | hs
            · cases q
            · have := ih _ _ _ _ (by simp; omega) s hs q
              simpa using this
          · rcases List.mem_cons.mp hs with rfl | hs
            · simp
            · have := ih _ _ _ _ (by simp; omega) s hs q
              simp; omega
/-! 33 to 35 -/
theorem mul_s {i j : Int} {G : Hs} : binD .mul (.int i) (.int j) G = if (-(2 ^ 64) < i ∧ i < 2 ^ 64) ∨ (-(2 ^ 64) < j ∧ j < 2 ^ 64) then some (.int (i * j), G) else none := rfl
theorem le_sum : ∀ {xs : List Nat} {x : Nat}, x ∈ xs → x ≤ xs.sum
  | y :: ys, x, h => by
    rcases List.mem_cons.mp h with rfl | h
    · simp
    · have := le_sum h; simp; omega
theorem dist_le : ∀ (n : Nat) (a b : List Nat), a.length + b.length ≤ n → dist a b ≤ a.length + b.length := by
  intro n
  induction n with
  | zero =>
    intro a b hn
    cases a <;> cases b <;> simp at hn
    rw [dist_nil]; simp
  | succ n ih =>
    intro a b hn
    cases a with
    | nil => rw [dist_nil]; simp
    | cons x a => cases b with
      | nil => rw [dist_nil2]; simp
      | cons y b =>
        simp only [List.length_cons] at hn ⊢
        rw [dist_cons]
        split
        · have := ih a b (by omega); omega
        · have := ih a (y :: b) (by simp; omega)
          simp only [List.length_cons] at this; omega

theorem middle_of_run {m : Nat} (hm : 3 ≤ m) {G : Hs} {a b : List Nat} (ha : a.length ≤ 200) (hb : b.length ≤ 200) :
    ∃ k l : Nat, k + l ≤ a.length ∧ k + l ≤ b.length ∧ a.take k = b.take k ∧ a.drop (a.length - l) = b.drop (b.length - l) ∧
      F m 33 [.str a, .str b] G = some (.tup [.str ((a.drop k).take (a.length - k - l)), .str ((b.drop k).take (b.length - l - k)), .int k], G) := by
  obtain ⟨k, l, h1, h2, h3, h4, e⟩ := between_run (m := m - 1) (by omega) (G := G) (a := a) (b := b) (by omega) (by omega)
  refine ⟨k, l, h1, h2, h3, h4, run_ t33 rfl (by omega) ?_⟩
  have f1 : a.length ≤ 16777216 := by omega
  have hc : ((b.drop k).take (b.length - l - k)).length ≤ 16777216 := by simp; omega
  have hc2 : ((b.drop k).take (b.length - l - k)).length ≤ 200 := by simp; omega
  have hg : a.length - k - l ≤ 200 := by omega
  generalize (b.drop k).take (b.length - l - k) = come at *
  generalize a.length - k - l = gone at *
  have hm1 : (gone + 1) * (come.length + 1) ≤ 201 * 201 := Nat.mul_le_mul (by omega) (by omega)
  have hm2 : ¬ (60000 : Int) < ((gone : Int) + 1) * ((come.length : Int) + 1) := by
    have : (((gone + 1) * (come.length + 1) : Nat) : Int) = ((gone : Int) + 1) * ((come.length : Int) + 1) := by simp
    omega
  have hbm : ∀ G' : Hs, binD .mul (.int ((gone : Int) + 1)) (.int ((come.length : Int) + 1)) G' = some (.int (((gone : Int) + 1) * ((come.length : Int) + 1)), G') := by
    intro G'
    rw [mul_s, if_pos (by omega)]
  unfold dE at e
  simp [b33, e, sz, f1, hc, hbm, hm2, cut_pg]
theorem least_cost_run {m : Nat} (hm : 5 ≤ m) {G : Hs} {a b : List Nat} (ha : a.length ≤ 90) (hb : b.length ≤ 90) :
    ∃ k l : Nat, ∃ G', k + l ≤ a.length ∧ k + l ≤ b.length ∧ a.take k = b.take k ∧ a.drop (a.length - l) = b.drop (b.length - l) ∧
      F m 35 [.str a, .str b] G = some (.int (dist ((a.drop k).take (a.length - k - l)) ((b.drop k).take (b.length - l - k)) : Nat), G ++ G') := by
  obtain ⟨k, l, h1, h2, h3, h4, e⟩ := middle_of_run (m := m - 1 - 1) (by omega) (G := G) (a := a) (b := b) (by omega) (by omega)
  suffices hs : ∃ G', F m 35 [.str a, .str b] G = some (.int (dist ((a.drop k).take (a.length - k - l)) ((b.drop k).take (b.length - l - k)) : Nat), G ++ G') from let ⟨G', h⟩ := hs; ⟨k, l, G', h1, h2, h3, h4, h⟩
  have l1 : ((a.drop k).take (a.length - k - l)).length ≤ 90 := by simp; omega
  have l2 : ((b.drop k).take (b.length - l - k)).length ≤ 90 := by simp; omega
  generalize (a.drop k).take (a.length - k - l) = a' at *
  generalize (b.drop k).take (b.length - l - k) = b' at *
  obtain ⟨g1, e1⟩ := steps_of_run (m := m - 1 - 1) (by omega) (G := G) (a := a') (b := b') (by omega) (by omega)
  have hd : (stepsF 0 0 a' b').length = dist a' b' := stepsF_len _ 0 0 a' b' (Nat.le_refl _)
  have hdl : dist a' b' ≤ 180 := by have := dist_le _ a' b' (Nat.le_refl _); omega
  obtain ⟨es, g2, c1, c2, e2⟩ := edits_by_run (m := m - 1 - 1) (by omega) (G := G ++ g1) (st := stepsF 0 0 a' b') (b := b') (more := k) (by omega) (fun s hs q => by simpa using stepsF_in _ 0 0 a' b' (Nat.le_refl _) s hs q) (by omega)
  have hce : ∀ x ∈ es, x.2.2.length ≤ 10000 := by
    intro x hx
    have : x.2.1 + x.2.2.length ≤ costOf es := by
      unfold costOf
      exact le_sum (List.mem_map.mpr ⟨x, hx, rfl⟩)
    omega
  have e3 := cost_of_run (m := m - 1) (by omega) (G := (G ++ g1) ++ g2) (es := es) hce (by omega)
  have e4 : F (m - 1) 34 [.str a, .str b] G = some (esD es, (G ++ g1) ++ g2) := by
    refine run_ t34 rfl (by omega) ?_
    have few : ¬ (200 : Int) < es.length := by omega
    simp only [esD] at e2 ⊢
    simp [b34, e, e1, e2, few]
  refine ⟨g1 ++ g2, run_ t35 rfl (by omega) ?_⟩
  rw [← List.append_assoc, ← hd, ← c1]
  simp only [esD] at e4 e3
  simp only [List.append_assoc] at e4 e3 ⊢
  simp [b35, e4, e3]
end K01
set_option Elab.async false
set_option linter.all false
set_option autoImplicit false
set_option maxRecDepth 100000
set_option maxHeartbeats 1000000
namespace K01
open PySem PySem.Spec L2 Mp
open PyProof.Rows hiding St

theorem mod_s {i j : Int} {G : Hs} : binD .mod (.int i) (.int j) G = if 0 < j then some (.int (i % j), G) else none := rfl
theorem fdiv_s {i j : Int} {G : Hs} : binD .fdiv (.int i) (.int j) G = if 0 < j ∧ j < 1073741824 then some (.int (i / j), G) else none := rfl
theorem pow_18 {G : Hs} : binD .pow (.int 10) (.int 18) G = some (.int (10 ^ 18), G) := rfl
def iD (xs : List Int) : Cell := .lst (xs.map .int)
theorem app_i {xs : List Int} {x : Int} {G : Hs} {n : Nat} (h : G[n]? = some (iD xs)) (hl : xs.length ≤ 100000) : appendM (.ref n) [.int x] G = some (.non, G.set n (iD (xs ++ [x]))) := by
  rw [app_s h (by simp; omega)]; simp [iD]
abbrev b60 : S := (S.seq (S.ife (E.cmp Cop.gt (E.v 3) (E.k (D.int 0))) (S.seq (S.drop (E.mth Mth.append (E.v 1) (E.cons (E.bin Bop.mod (E.blt Blt.int (E.cons (E.v 3) E.nil)) (E.k (D.int 997))) E.nil))) (S.seq (S.set 3 (E.bin Bop.fdiv (E.v 3) (E.k (D.int 997)))) S.skip)) S.skip) S.skip)
variable {cl : Nat → List D → Hs → Rs}
theorem for_60 {v0 : D} : ∀ (ds : List D) (xs : List Int) (z : Int) (o2 o4 o5 o6 : Option D), xs.length + ds.length ≤ 100000 →
    ∃ xs' z' o5', xs'.length ≤ xs.length + ds.length ∧ loopF (.nm 5) (evS cl b60) ds [some v0, some (.ref 0), o2, some (.int z), o4, o5, o6] [iD xs] = some (.nx [some v0, some (.ref 0), o2, some (.int z'), o4, o5', o6] [iD xs'])
  | [], xs, z, o2, o4, o5, o6, _ => ⟨xs, z, o5, Nat.le_refl _, rfl⟩
  | d :: ds, xs, z, o2, o4, o5, o6, h => by
    simp only [List.length_cons] at h
    simp only [loopF, bindL_nm, Option.bind_some, List.set_cons_succ, List.set_cons_zero]
    by_cases hz : 0 < z
    · obtain ⟨xs', z', o5', h1, ih⟩ := for_60 (v0 := v0) ds (xs ++ [z % 997]) (z / 997) o2 o4 (some d) o6 (by simp; omega)
      refine ⟨xs', z', o5', by simp at h1 ⊢; omega, ?_⟩
      have ha := app_i (x := z % 997) (G := [iD xs]) (n := 0) (xs := xs) rfl (by omega)
      have ht : hasTy .list (.ref 0) [iD xs] = true := ref_ty (ds := xs.map .int) rfl
      rw [seq_ife_tt (G1 := [iD xs]) (by simp [hz])]
      rw [evS_seq, drop_s (d := .non) (G1 := [iD (xs ++ [z % 997])]) ?_, set_s (d := .int (z / 997)) (G1 := [iD (xs ++ [z % 997])]) (by simp [fdiv_s])]
      · simp only [List.set_cons_succ, List.set_cons_zero, evS_skip, Option.bind_some]
        exact ih
      · simp [mod_s, show Mth.append.ty = .list from rfl, ht]
        exact ha
    · obtain ⟨xs', z', o5', h1, ih⟩ := for_60 (v0 := v0) ds xs z o2 o4 (some d) o6 (by omega)
      refine ⟨xs', z', o5', by simp at h1 ⊢; omega, ?_⟩
      rw [seq_ife_ff (G1 := [iD xs]) (by simp [hz])]
      simpa using ih
abbrev bNum : S := (S.seq (S.set 3 (E.blt Blt.abs (E.cons (E.v 2) E.nil))) (S.seq (S.ife (E.cmp Cop.lt (E.v 3) (E.bin Bop.pow (E.k (D.int 10)) (E.k (D.int 18)))) (S.seq (S.set 4 (E.bin Bop.mod (E.blt Blt.int (E.cons (E.bin Bop.add (E.bin Bop.mul (E.v 3) (E.k (D.int 48271))) (E.k (D.int 11))) E.nil)) (E.k (D.int 2147483647)))) (S.seq (S.drop (E.mth Mth.append (E.v 1) (E.cons (E.bin Bop.mod (E.blt Blt.int (E.cons (E.bin Bop.add (E.bin Bop.mul (E.v 4) (E.k (D.int 69621))) (E.v 3)) E.nil)) (E.k (D.int 2147483629))) E.nil))) (S.seq (S.drop (E.mth Mth.append (E.v 1) (E.cons (E.bin Bop.mod (E.blt Blt.int (E.cons (E.bin Bop.add (E.v 4) (E.bin Bop.fdiv (E.v 3) (E.k (D.int 7)))) E.nil)) (E.k (D.int 1000003))) E.nil))) (S.seq (S.set 3 (E.k (D.int 0))) S.skip)))) S.skip) (S.seq (S.for_ (Tg.nm 5) (E.irng 1 (E.cons (E.k (D.int 60)) E.nil)) b60) S.skip)))
theorem for_num {v0 : D} : ∀ (ns : List Int) (xs : List Int) (o2 o3 o4 o5 o6 : Option D), xs.length + 70 * ns.length ≤ 50000 →
    ∃ xs' o2' o3' o4' o5', xs'.length ≤ xs.length + 70 * ns.length ∧ loopF (.nm 2) (evS cl bNum) (ns.map .int) [some v0, some (.ref 0), o2, o3, o4, o5, o6] [iD xs] = some (.nx [some v0, some (.ref 0), o2', o3', o4', o5', o6] [iD xs'])
  | [], xs, o2, o3, o4, o5, o6, _ => ⟨xs, o2, o3, o4, o5, Nat.le_refl _, rfl⟩
  | z :: ns, xs, o2, o3, o4, o5, o6, h => by
    simp only [List.length_cons] at h
    simp only [List.map_cons, loopF, bindL_nm, Option.bind_some, List.set_cons_succ, List.set_cons_zero]
    have hr : ∀ G : Hs, arity 1 rngK [.int 60] G = some (.tup (rgN 0 1 60), G) := fun G => rng1_s (q := (0, 1, 60)) (by rw [rgA_1, if_pos (by omega)]; rfl)
    have hrl : (rgN 0 1 60).length = 60 := by simp [rgN]
    have ht : ∀ xs, hasTy .list (.ref 0) [iD xs] = true := fun xs => ref_ty (ds := xs.map .int) rfl
    generalize hy : (if z < 0 then -z else z) = y
    have hs : ∀ o4 o5, (ev cl (E.blt Blt.abs (E.cons (E.v 2) E.nil))).1 [some v0, some (.ref 0), some (.int z), o3, o4, o5, o6] [iD xs] = some (.int y, [iD xs]) := by
      intro o4 o5; simp [hy]
    by_cases hz : y < 10 ^ 18
    · let f : Int := (y * 48271 + 11) % 2147483647
      let x1 : Int := (f * 69621 + y) % 2147483629
      let x2 : Int := (f + y / 7) % 1000003
      obtain ⟨xs1, z1, o5', h1, e60⟩ := for_60 (cl := cl) (v0 := v0) (rgN 0 1 60) (xs ++ [x1] ++ [x2]) 0 (some (.int z)) (some (.int f)) o5 o6 (by simp [hrl]; omega)
      obtain ⟨xs', o2', o3', o4', o5'', h2, ih⟩ := for_num (v0 := v0) ns xs1 (some (.int z)) (some (.int z1)) (some (.int f)) o5' o6 (by simp [hrl] at h1; omega)
      refine ⟨xs', o2', o3', o4', o5'', by simp [hrl] at h1 ⊢; omega, ?_⟩
      have ha1 := app_i (x := x1) (G := [iD xs]) (n := 0) (xs := xs) rfl (by omega)
      have ha2 := app_i (x := x2) (G := [iD (xs ++ [x1])]) (n := 0) (xs := xs ++ [x1]) rfl (by simp; omega)
      rw [set_s (hs _ _)]
      simp only [List.set_cons_succ, List.set_cons_zero]
      have hz' : y < 1000000000000000000 := hz
      rw [seq_ife_tt (G1 := [iD xs]) (by simp [pow_18, hz'])]
      rw [evS_seq, set_s (d := .int f) (G1 := [iD xs]) (by simp [mul_s, mod_s, f])]
      simp only [List.set_cons_succ, List.set_cons_zero]
      rw [drop_s (d := .non) (G1 := [iD (xs ++ [x1])]) ?_, drop_s (d := .non) (G1 := [iD (xs ++ [x1] ++ [x2])]) ?_, set_s (d := .int 0) (G1 := [iD (xs ++ [x1] ++ [x2])]) (by simp)]
      · simp only [List.set_cons_succ, List.set_cons_zero, evS_skip, Option.bind_some]
        rw [for_nx (ds := rgN 0 1 60) (G1 := [iD (xs ++ [x1] ++ [x2])]) (by simp [hr]) e60]
        rw [evS_skip, Option.bind_some]
        exact ih
      · simp [mod_s, fdiv_s, show Mth.append.ty = .list from rfl, ht]
        exact ha2.trans (by simp)
      · simp [mul_s, mod_s, show Mth.append.ty = .list from rfl, ht]
        exact ha1
    · obtain ⟨xs1, z1, o5', h1, e60⟩ := for_60 (cl := cl) (v0 := v0) (rgN 0 1 60) xs y (some (.int z)) o4 o5 o6 (by simp [hrl]; omega)
      obtain ⟨xs', o2', o3', o4', o5'', h2, ih⟩ := for_num (v0 := v0) ns xs1 (some (.int z)) (some (.int z1)) o4 o5' o6 (by simp [hrl] at h1; omega)
      refine ⟨xs', o2', o3', o4', o5'', by simp [hrl] at h1 ⊢; omega, ?_⟩
      rw [set_s (hs _ _)]
      simp only [List.set_cons_succ, List.set_cons_zero]
      have hz' : ¬ y < 1000000000000000000 := hz
      rw [seq_ife_ff (G1 := [iD xs]) (by simp [pow_18, hz'])]
      rw [evS_seq, evS_skip, Option.bind_some]
      show (evS cl _ _ _).bind _ = _
      rw [for_nx (ds := rgN 0 1 60) (G1 := [iD xs]) (by simp [hr]) e60]
      rw [evS_skip, Option.bind_some]
      exact ih
abbrev b900 : S := (S.seq (S.set 6 (E.bin Bop.mod (E.blt Blt.int (E.cons (E.bin Bop.add (E.bin Bop.mul (E.v 6) (E.k (D.int 48271))) (E.k (D.int 69621))) E.nil)) (E.k (D.int 2147483647)))) (S.seq (S.drop (E.mth Mth.append (E.v 1) (E.cons (E.bin Bop.fdiv (E.v 6) (E.k (D.int 5))) E.nil))) S.skip))
theorem for_900 {v0 : D} : ∀ (ds : List D) (xs : List Int) (z : Int) (o2 o3 o4 o5 : Option D), xs.length + ds.length ≤ 100000 →
    ∃ xs' ς', xs'.length ≤ xs.length + ds.length ∧ ς'[1]? = some (some (D.ref 0)) ∧ loopF (.nm 5) (evS cl b900) ds [some v0, some (.ref 0), o2, o3, o4, o5, some (.int z)] [iD xs] = some (.nx ς' [iD xs'])
  | [], xs, z, o2, o3, o4, o5, _ => ⟨xs, _, Nat.le_refl _, rfl, rfl⟩
  | d :: ds, xs, z, o2, o3, o4, o5, h => by
    simp only [List.length_cons] at h
    simp only [loopF, bindL_nm, Option.bind_some, List.set_cons_succ, List.set_cons_zero]
    let y : Int := (z * 48271 + 69621) % 2147483647
    obtain ⟨xs', ς', h1, h2, ih⟩ := for_900 (v0 := v0) ds (xs ++ [y / 5]) y o2 o3 o4 (some d) (by simp; omega)
    refine ⟨xs', ς', by simp at h1 ⊢; omega, h2, ?_⟩
    have ha := app_i (x := y / 5) (G := [iD xs]) (n := 0) (xs := xs) rfl (by omega)
    have ht : hasTy .list (.ref 0) [iD xs] = true := ref_ty (ds := xs.map .int) rfl
    rw [set_s (d := .int y) (G1 := [iD xs]) (by simp [mul_s, mod_s, y])]
    simp only [List.set_cons_succ, List.set_cons_zero]
    rw [drop_s (d := .non) (G1 := [iD (xs ++ [y / 5])]) ?_]
    · rw [evS_skip, Option.bind_some]
      exact ih
    · simp [fdiv_s, show Mth.append.ty = .list from rfl, ht]
      exact ha
theorem draws_run {m : Nat} (hm : 1 ≤ m) {mk : List D → D} (hmk : mk = .lst ∨ mk = .fz) {ns : List Int} (hn : ns.length ≤ 63) : ∃ xs G', F m 36 [mk (ns.map .int)] [] = some (.ref 1, [G', iD xs]) := by
  obtain ⟨xs1, o2, o3, o4, o5, h1, e1⟩ := for_num (cl := F (m - 1)) (v0 := mk (ns.map .int)) ns [] none none none none none (by simp; omega)
  have hr : ∀ G : Hs, arity 1 rngK [.int 900] G = some (.tup (rgN 0 1 900), G) := fun G => rng1_s (q := (0, 1, 900)) (by rw [rgA_1, if_pos (by omega)]; rfl)
  have hrl : (rgN 0 1 900).length = 900 := by simp [rgN]
  have hsq : ∀ G : Hs, seqK (mk (ns.map .int)) G = some (.tup (ns.map .int), G) := by rcases hmk with rfl | rfl <;> intro G <;> rfl
  have hle : ∀ G : Hs, lenD (mk (ns.map .int)) G = some (.int ns.length, G) := by
    intro G
    rcases hmk with rfl | rfl <;> simp [lenD, seqOf, Mp.roOf, Mp.listOf]
  have hix : ∀ (G : Hs) (k : Int), idxD (mk (ns.map .int)) (.int k) G = (atI (ns.map D.int) k).map fun d => (d, G) := by
    rcases hmk with rfl | rfl <;> intro G k <;> rfl
  generalize mk (ns.map .int) = v0 at *
  have hz : ∃ z : Int, evS (F (m - 1)) (S.ife (E.cmp Cop.gt (E.blt Blt.len (E.cons (E.v 0) E.nil)) (E.k (D.int 0))) (S.seq (S.set 6 (E.bin Bop.add (E.k (D.int 1)) (E.blt Blt.abs (E.cons (E.idx (E.v 0) (E.k (D.int 0))) E.nil)))) S.skip) S.skip)
      [some v0, some (.ref 0), o2, o3, o4, o5, some (.int 1)] [iD xs1] = some (.nx [some v0, some (.ref 0), o2, o3, o4, o5, some (.int z)] [iD xs1]) := by
    cases ns with
    | nil => exact ⟨1, by simp [hle]⟩
    | cons n ns =>
      have q : atI ((n :: ns).map D.int) 0 = some (.int n) := atI_nat (j := 0) rfl
      have q2 : (0 : Int) < ns.length + 1 := by omega
      simp only [List.map_cons] at q hix hle
      exact ⟨_, by simp [hle, hix, q, q2]; rfl⟩
  obtain ⟨z, ez⟩ := hz
  obtain ⟨xs2, ς', h2, h3, e2⟩ := for_900 (cl := F (m - 1)) (v0 := v0) (rgN 0 1 900) xs1 z o2 o3 o4 o5 (by simp [hrl] at h1 ⊢; omega)
  refine ⟨xs2.reverse, iD xs2, run_ t36 rfl (by omega) ?_⟩
  show (evS (F (m - 1)) b36 [some v0, none, none, none, none, none, none] []).bind outD = _
  unfold b36
  rw [set_s (d := .ref 0) (G1 := [iD []]) (by simp [sz]; rfl)]
  simp only [List.set_cons_succ, List.set_cons_zero]
  rw [for_nx (ds := ns.map .int) (G1 := [iD []]) (by simp [hsq]) e1, set_s (d := .int 1) (G1 := [iD xs1]) (by simp)]
  simp only [List.set_cons_succ, List.set_cons_zero]
  rw [seq_nx ez, for_nx (ds := rgN 0 1 900) (G1 := [iD xs1]) (by simp [hr]) e2]
  refine seq_ret ?_
  rw [ev_lrev1, ev_v1, h3]
  simp [lrevK, Mp.roOf, Mp.listOf, iD]
end K01
set_option Elab.async false
set_option linter.all false
set_option autoImplicit false
set_option maxRecDepth 100000
set_option maxHeartbeats 1000000
namespace K01
open PySem PySem.Spec L2 Mp
open PyProof.Rows hiding St

/-! the cell of draws -/
def Dr (dn : Nat) (G : Hs) : Prop := ∃ xs, G[dn]? = some (iD xs)
def Mv (dn : Nat) (G G' : Hs) : Prop := ∃ xs l, G' = G.set dn (iD xs) ++ l
variable {dn : Nat} {G G1 G2 G' : Hs}
theorem Dr.lt (h : Dr dn G) : dn < G.length := by
  obtain ⟨xs, e⟩ := h
  exact (List.getElem?_eq_some_iff.mp e).1
theorem Dr.refl (h : Dr dn G) : Mv dn G G := by
  obtain ⟨xs, e⟩ := h
  refine ⟨xs, [], ?_⟩
  obtain ⟨hl, e⟩ := List.getElem?_eq_some_iff.mp e
  rw [← e]; simp
theorem Mv.dr (h : Dr dn G) (h2 : Mv dn G G') : Dr dn G' := by
  obtain ⟨xs, l, rfl⟩ := h2
  have := h.lt
  refine ⟨xs, ?_⟩
  rw [List.getElem?_append_left (by simpa using this), List.getElem?_set_self this]
theorem Mv.tr (h : Dr dn G) (h1 : Mv dn G G1) (h2 : Mv dn G1 G2) : Mv dn G G2 := by
  obtain ⟨xs, l, rfl⟩ := h1
  obtain ⟨ys, r, rfl⟩ := h2
  have := h.lt
  refine ⟨ys, l ++ r, ?_⟩
  rw [List.set_append_left _ _ (by simpa using this), List.set_set, List.append_assoc]
theorem Mv.app (h : Mv dn G G1) {l : Hs} : Mv dn G (G1 ++ l) := by
  obtain ⟨xs, r, rfl⟩ := h
  exact ⟨xs, r ++ l, by rw [List.append_assoc]⟩
theorem Dr.app (h : Dr dn G) {l : Hs} : Dr dn (G ++ l) := by
  obtain ⟨xs, e⟩ := h
  exact ⟨xs, by rw [List.getElem?_append_left (List.getElem?_eq_some_iff.mp e).1, e]⟩
theorem Mv.at (h : Mv dn G G1) {n : Nat} {c : Cell} (hn : n ≠ dn) (e : G[n]? = some c) : G1[n]? = some c := by
  obtain ⟨xs, r, rfl⟩ := h
  have hl := (List.getElem?_eq_some_iff.mp e).1
  rw [List.getElem?_append_left (by simpa using hl), List.getElem?_set_ne (Ne.symm hn), e]
theorem Mv.len (h : Mv dn G G1) : G.length ≤ G1.length := by
  obtain ⟨xs, r, rfl⟩ := h
  simp
/-- a later cell of ours was written -/
theorem Mv.set (h : Mv dn G G1) (hd : Dr dn G) {c d : Cell} {k : Nat} (hk : G.length ≤ k) : Mv dn G (G1.set k d) := by
  obtain ⟨xs, r, rfl⟩ := h
  refine ⟨xs, r.set (k - G.length) d, ?_⟩
  rw [List.set_append_right _ _ (by simpa using hk)]; simp
theorem take_run {m : Nat} (hm : 1 ≤ m) (hd : Dr dn G) {b : Nat} (hb : 0 < b) : ∃ r G', r < b ∧ Mv dn G G' ∧ F m 37 [.ref dn, .int b] G = some (.int (r : Nat), G') := by
  obtain ⟨xs, e⟩ := hd
  have hlen := len_r e
  rcases List.eq_nil_or_concat xs with rfl | ⟨pre, z, rfl⟩
  · refine ⟨0, G, hb, Dr.refl ⟨_, e⟩, run_ t37 rfl (by omega) ?_⟩
    show (evS (F (m - 1)) b37 [some (.ref dn), some (.int b)] G).bind outD = _
    unfold b37
    simp at hlen
    simp [hlen]
  · rw [List.concat_eq_append] at e hlen
    have hz : 0 ≤ z % (b : Int) := Int.emod_nonneg _ (by omega)
    have hz2 : z % (b : Int) < b := Int.emod_lt_of_pos _ (by omega)
    refine ⟨(z % (b : Int)).toNat, G.set dn (iD pre), by omega, ⟨pre, [], by simp⟩, run_ t37 rfl (by omega) ?_⟩
    show (evS (F (m - 1)) b37 [some (.ref dn), some (.int b)] G).bind outD = _
    unfold b37
    have hl : ¬ ((((pre ++ [z]).map D.int).length : Nat) : Int) = 0 := by simp; omega
    have hb' : (0 : Int) < b := by omega
    have hpop : popM (.ref dn) [] G = some (.int z, G.set dn (iD pre)) := by
      simp only [popM, e, iD]
      simp
    have hty : hasTy .list (.ref dn) G = true := ref_ty e
    rw [seq_ife_f (G1 := G) (by
      simp only [ev_cmp2, ev_blt1, ev_cons1, ev_v1, ev_nil1, ev_k1, List.getElem?_cons_zero, Option.bind_some, bnd_s, consK_s, argK_s, blt_len, one_s, hlen, cmpD_s, cmp_eqI, Option.map_some, blB_b]
      simp only [beq_eq_false_iff_ne.mpr hl])]
    refine seq_ret ?_
    simp only [ev_bin1, ev_blt1, ev_cons1, ev_mth01, ev_v1, ev_nil1, List.getElem?_cons_zero, List.getElem?_cons_succ, Option.bind_some, bnd_s, show Mth.pop.ty = .list from rfl, hty, if_true, show Mth.pop.k = popM from rfl, hpop, consK_s, argK_s, blt_int, one_s, int_s, mod_s]
    rw [if_pos hb', Int.toNat_of_nonneg hz]
theorem take0_run {m : Nat} (hm : 1 ≤ m) (hd : Dr dn G) {b : Nat} (hb : 0 < b) : ∃ r G', r < b ∧ Mv dn G G' ∧ Dr dn G' ∧ F m 37 [.ref dn, .int b] G = some (.int (r : Nat), G') := by
  obtain ⟨r, G', h1, h2, h3⟩ := take_run hm hd hb
  exact ⟨r, G', h1, h2, h2.dr hd, h3⟩
/-! 39 -/
theorem loop_signs {m : Nat} (hm : 1 ≤ m) {v1 : D} {o : Option D} : ∀ (ds : List D) (acc : List D) (ts : List (List Nat)) (G : Hs), Dr dn G → strsD acc = some ts → (∀ t ∈ ts, t.length = 1) → Sg ts.flatten → acc.length + ds.length ≤ 10000 →
    ∃ acc' ts' G', Mv dn G G' ∧ strsD acc' = some ts' ∧ (∀ t ∈ ts', t.length = 1) ∧ Sg ts'.flatten ∧ ts'.length = ts.length + ds.length ∧
      loopC (ev (F m) E.yes).2 (ev (F m) (E.idx (E.k (D.str [97, 98, 99, 32, 10])) (E.call 37 2 (E.cons (E.v 0) (E.cons (E.k (D.int 5)) E.nil))))).1 (Tg.nm 2) [some (.ref dn), some v1, o] ds acc G = some (acc', G')
  | [], acc, ts, G, hd, h1, h2, h3, _ => ⟨acc, ts, G, hd.refl, h1, h2, h3, rfl, rfl⟩
  | d :: ds, acc, ts, G, hd, h1, h2, h3, h4 => by
    simp only [List.length_cons] at h4
    obtain ⟨r, G1, hr, hmv, hd1, e⟩ := take0_run hm hd (b := 5) (by omega)
    have hstr : ∀ (acc : List D) (ts : List (List Nat)) (c : List Nat), strsD acc = some ts → strsD (acc ++ [.str c]) = some (ts ++ [c]) := by
      intro acc
      induction acc with
      | nil => intro ts c h; simp [strsD] at h ⊢; subst h; rfl
      | cons a acc ih =>
        intro ts c h
        cases a <;> simp [strsD] at h ⊢
        obtain ⟨u, h1, rfl⟩ := h
        simp [ih _ c h1]
    obtain ⟨c, hc, hcs⟩ : ∃ c, atI [97, 98, 99, 32, 10] (r : Int) = some c ∧ (c = 10 ∨ (32 ≤ c ∧ c ≤ 126)) := by
      match r, hr with
      | 0, _ => exact ⟨97, rfl, by omega⟩
      | 1, _ => exact ⟨98, rfl, by omega⟩
      | 2, _ => exact ⟨99, rfl, by omega⟩
      | 3, _ => exact ⟨32, rfl, by omega⟩
      | 4, _ => exact ⟨10, rfl, by omega⟩
    obtain ⟨acc', ts', G', q1, q2, q3, q4, q5, ih⟩ := loop_signs hm (v1 := v1) (o := o) ds (acc ++ [.str [c]]) (ts ++ [[c]]) G1 hd1 (hstr _ _ _ h1) (by
      intro t ht; rcases List.mem_append.mp ht with h | h
      · exact h2 t h
      · simp at h; subst h; rfl) (by
      intro x hx
      simp only [List.flatten_append, List.mem_append] at hx
      rcases hx with hx | hx
      · exact h3 x hx
      · simp at hx; subst hx; exact hcs) (by simp; omega)
    refine ⟨acc', ts', G', hmv.tr hd q1, q2, q3, q4, by simp at q5 ⊢; omega, ?_⟩
    have hal : acc.length < 16777216 := by omega
    simp only [loopC, bindL_nm, Option.bind_some, List.set_cons_succ, List.set_cons_zero, ev_yes2, bnd_s, if_true]
    have e' : F m 37 [.ref dn, .int 5] G = some (.int (r : Nat), G1) := e
    simp only [ev_idx1, ev_k1, ev_call1, ev_cons1, ev_v1, ev_nil1, List.getElem?_cons_zero, Option.bind_some, bnd_s, consK_s, argK_s, List.length_cons, List.length_nil]
    rw [if_pos trivial, e', bnd_s, Mp.idx_str, if_pos (by rw [sz]; simp), hc, Option.map_some, bnd_s, if_pos (by rw [sz]; exact hal)]
    exact ih
end K01
set_option Elab.async false
set_option linter.all false
set_option autoImplicit false
set_option maxRecDepth 100000
set_option maxHeartbeats 1000000
namespace K01
open PySem PySem.Spec L2 Mp
open PyProof.Rows hiding St

variable {dn : Nat} {G G1 G2 G' : Hs}
theorem ones_len : ∀ {ts : List (List Nat)}, (∀ t ∈ ts, t.length = 1) → ts.flatten.length = ts.length ∧ (ts.map (·.length)).sum = ts.length
  | [], _ => ⟨rfl, rfl⟩
  | t :: ts, h => by
    have h1 := h t (by simp)
    have h2 := ones_len (ts := ts) fun t ht => h t (by simp [ht])
    constructor
    · simp [h1, h2.1]; omega
    · simp [h1, h2.2]; omega
theorem signs_run {m : Nat} (hm : 2 ≤ m) (hd : Dr dn G) {n : Nat} (hn : n ≤ 5000) : ∃ (t : List Nat) (G' : Hs), t.length = n ∧ Sg t ∧ Mv dn G G' ∧ Dr dn G' ∧ F m 39 [.ref dn, .int n] G = some (.str t, G') := by
  obtain ⟨acc, ts, G', h1, h2, h3, h4, h5, e⟩ := loop_signs (m := m - 1) (by omega) (v1 := .int n) (o := none) (rgN 0 1 n) [] [] G hd rfl (by simp) (by intro x hx; simp at hx) (by simp [rgN]; omega)
  have hln : ts.length = n := by simpa [rgN] using h5
  obtain ⟨l1, l2⟩ := ones_len h3
  refine ⟨ts.flatten, G', by omega, h4, h1, h1.dr hd, run_ t39 rfl (by omega) ?_⟩
  have hr : arity 1 rngK [.int (n : Int)] G = some (.tup (rgN 0 1 n), G) := rng1_s (q := (0, 1, n)) (by rw [rgA_1, if_pos (by omega)]; simp)
  show (evS (F (m - 1)) b39 [some (.ref dn), some (.int n), none] G).bind outD = _
  unfold b39
  refine seq_ret ?_
  simp only [ev_mth1, ev_k1, bnd_s, show Mth.join.ty = .str from rfl, show ∀ G, hasTy .str (.str []) G = true from fun _ => rfl, if_true, ev_cons1, ev_comp1, ev_irng1, ev_v1, ev_nil1, List.getElem?_cons_zero, List.getElem?_cons_succ, Option.bind_some, consK_s, argK_s, hr]
  simp only [wipeE, List.set_cons_succ, List.set_cons_zero, e, bnd_s, newD_f, consK_s, argK_s, show Mth.join.k = joinM from rfl]
  show (strsD acc).bind _ = _
  rw [h2]
  show (if (ts.map (·.length)).sum ≤ 16777216 then some (D.str ts.flatten, G') else none) = _
  rw [if_pos (by omega)]
/-! 40 -/
theorem pick4 (a b c d : Int) (r : Nat) (h : r < 4) : ∃ x, atI [D.int a, .int b, .int c, .int d] (r : Int) = some (.int x) ∧ (x = a ∨ x = b ∨ x = c ∨ x = d) := by
  match r, h with
  | 0, _ => exact ⟨a, rfl, .inl rfl⟩
  | 1, _ => exact ⟨b, rfl, .inr (.inl rfl)⟩
  | 2, _ => exact ⟨c, rfl, .inr (.inr (.inl rfl))⟩
  | 3, _ => exact ⟨d, rfl, .inr (.inr (.inr rfl))⟩
theorem edit_run {m : Nat} (hm : 3 ≤ m) (hd : Dr dn G) {long : Nat} (hn : long ≤ 4000) : ∃ (e : Ed) (G' : Hs), e.1 + e.2.1 ≤ long ∧ Sg e.2.2 ∧ e.2.2.length ≤ 4 ∧ Mv dn G G' ∧ Dr dn G' ∧ F m 40 [.ref dn, .int long] G = some (eD e, G') := by
  obtain ⟨p, G1, hp, m1, d1, e1⟩ := take0_run (m := m - 1) (by omega) hd (b := long + 1) (by omega)
  obtain ⟨r2, G2, hr2, m2, d2, e2⟩ := take0_run (m := m - 1) (by omega) d1 (b := 4) (by omega)
  obtain ⟨r3, G3, hr3, m3, d3, e3⟩ := take0_run (m := m - 1) (by omega) d2 (b := 4) (by omega)
  obtain ⟨x2, a2, hx2⟩ := pick4 0 1 2 5 r2 hr2
  obtain ⟨x3, a3, hx3⟩ := pick4 0 1 2 4 r3 hr3
  obtain ⟨n3, rfl⟩ : ∃ n3 : Nat, x3 = (n3 : Int) := ⟨x3.toNat, by omega⟩
  obtain ⟨n2, rfl⟩ : ∃ n2 : Nat, x2 = (n2 : Int) := ⟨x2.toNat, by omega⟩
  obtain ⟨c, G4, hc, sg, m4, d4, e4⟩ := signs_run (m := m - 1) (by omega) d3 (n := n3) (by omega)
  have hmv := ((m1.tr hd m2).tr hd m3).tr hd m4
  refine ⟨(p, min (long - p) n2, c), G4, by simp; omega, sg, by simp; omega, hmv, d4, run_ t40 rfl (by omega) ?_⟩
  show (evS (F (m - 1)) b40 [some (.ref dn), some (.int long), none] G).bind outD = _
  unfold b40
  have e1' : F (m - 1) 37 [.ref dn, .int ((long : Int) + 1)] G = some (.int (p : Nat), G1) := by
    rw [show ((long : Int) + 1) = ((long + 1 : Nat) : Int) by omega]; exact e1
  have e2' : F (m - 1) 37 [.ref dn, .int 4] G1 = some (.int (r2 : Nat), G2) := e2
  have e3' : F (m - 1) 37 [.ref dn, .int 4] G2 = some (.int (r3 : Nat), G3) := e3
  have hmin : (if (n2 : Int) < (long : Int) - p then (n2 : Int) else (long : Int) - p) = ((min (long - p) n2 : Nat) : Int) := by split <;> omega
  rw [set_s (d := .int p) (G1 := G1) (by simp [e1'])]
  refine seq_ret ?_
  simp only [List.set_cons_succ, List.set_cons_zero]
  simp only [ev_tup1, ev_cons1, ev_v1, ev_nil1, ev_blt1, ev_bin1, ev_idx1, ev_lst1, ev_k1, ev_call1, List.getElem?_cons_zero, List.getElem?_cons_succ, Option.bind_some, bnd_s, consK_s, argK_s, bin_subi, lstK_s, List.length_cons, List.length_nil, sz]
  simp only [show (0 + 1 + 1 + 1 + 1 ≤ 16777216) = True from by simp, if_true, newD_f, bnd_s]
  simp only [e2', bnd_s, idx_lst, a2, Option.map_some, consK_s, argK_s, blt_min2, two_s, min2_s, hmin, e3', a3, e4, tupK_s, List.length_cons, List.length_nil, sz]
  rw [if_pos (by simp)]; rfl
end K01
set_option Elab.async false
set_option linter.all false
set_option autoImplicit false
set_option maxRecDepth 100000
set_option maxHeartbeats 1000000
namespace K01
open PySem PySem.Spec L2 Mp
open PyProof.Rows hiding St

variable {dn : Nat} {G G1 G2 G' : Hs}
/-! 41 -/
theorem sep_app : ∀ {es : List Ed} {p g : Nat} {c : List Nat}, Sep es → (∀ e ∈ es, e.1 + e.2.1 < p) → Sep (es ++ [(p, g, c)])
  | [], p, g, c, _, _ => trivial
  | [e], p, g, c, _, h => ⟨h e (by simp), trivial⟩
  | e :: f :: r, p, g, c, h1, h2 => ⟨h1.1, sep_app (es := f :: r) h1.2 fun e he => h2 e (by simp at he ⊢; exact .inr he)⟩
theorem sep_take : ∀ {es : List Ed} {n : Nat}, Sep es → Sep (es.take n)
  | [], n, _ => by simp [Sep]
  | [e], 0, _ => trivial
  | [e], n + 1, _ => by simp [Sep]
  | e :: f :: r, 0, _ => trivial
  | e :: f :: r, 1, _ => trivial
  | e :: f :: r, n + 2, h => ⟨h.1, sep_take (es := f :: r) (n := n + 1) h.2⟩
abbrev bEds : S := (S.seq (S.set 4 (E.blt Blt.min2 (E.cons (E.bin Bop.sub (E.v 1) (E.v 3)) (E.cons (E.call 37 2 (E.cons (E.v 0) (E.cons (E.k (D.int 3)) E.nil))) E.nil)))) (S.seq (S.drop (E.mth Mth.append (E.v 2) (E.cons (E.tup (E.cons (E.v 3) (E.cons (E.v 4) (E.cons (E.call 39 2 (E.cons (E.v 0) (E.cons (E.call 37 2 (E.cons (E.v 0) (E.cons (E.k (D.int 3)) E.nil))) E.nil))) E.nil)))) E.nil))) (S.seq (S.set 3 (E.bin Bop.add (E.bin Bop.add (E.bin Bop.add (E.v 3) (E.v 4)) (E.k (D.int 1))) (E.call 37 2 (E.cons (E.v 0) (E.cons (E.k (D.int 5)) E.nil))))) S.skip)))
theorem bEds_ev {m : Nat} (hm : 2 ≤ m) {long k p : Nat} {es : List Ed} {o : Option D} (hd : Dr dn G) (hk : k ≠ dn) (hc : G[k]? = some (.lst (es.map eD))) (hp : p ≤ long) (hl : es.length ≤ 10000) :
    ∃ g c p' G2 G3 o', p + g ≤ long ∧ Sg c ∧ c.length ≤ 2 ∧ p + g < p' ∧ Mv dn G G2 ∧ Dr dn G2 ∧ G2[k]? = some (.lst (es.map eD)) ∧ Mv dn (G2.set k (.lst ((es ++ [(p, g, c)]).map eD))) G3 ∧ G3[k]? = some (.lst ((es ++ [(p, g, c)]).map eD)) ∧
      evS (F m) bEds [some (.ref dn), some (.int long), some (.ref k), some (.int p), o] G = some (.nx [some (.ref dn), some (.int long), some (.ref k), some (.int p'), o'] G3) := by
  obtain ⟨r1, G1, hr1, m1, d1, e1⟩ := take0_run (m := m) (by omega) hd (b := 3) (by omega)
  obtain ⟨r2, G2, hr2, m2, d2, e2⟩ := take0_run (m := m) (by omega) d1 (b := 3) (by omega)
  obtain ⟨c, G3, hc3, sg, m3, d3, e3⟩ := signs_run (m := m) (by omega) d2 (n := r2) (by omega)
  have hm3 := (m1.tr hd m2).tr hd m3
  have hc1 := m1.at hk hc
  have hc3' := hm3.at hk hc
  have hkl : k < G3.length := (List.getElem?_eq_some_iff.mp hc3').1
  let g := min (long - p) r1
  have d4 : Dr dn (G3.set k (.lst ((es ++ [(p, g, c)]).map eD))) := by
    obtain ⟨xs, e⟩ := d3
    exact ⟨xs, by rw [List.getElem?_set_ne hk, e]⟩
  obtain ⟨r4, G4, hr4, m4, d5, e4⟩ := take0_run (m := m) (by omega) d4 (b := 5) (by omega)
  have hc4 := m4.at hk (List.getElem?_set_self hkl)
  refine ⟨g, c, p + g + 1 + r4, G3, G4, some (.int g), by omega, sg, by omega, by omega, hm3, d3, hc3', m4, hc4, ?_⟩
  have hmin : (if (r1 : Int) < (long : Int) - p then (r1 : Int) else (long : Int) - p) = ((g : Nat) : Int) := by split <;> omega
  have e1' : F m 37 [.ref dn, .int 3] G = some (.int (r1 : Nat), G1) := e1
  have e2' : F m 37 [.ref dn, .int 3] G1 = some (.int (r2 : Nat), G2) := e2
  have e4' : F m 37 [.ref dn, .int 5] (G3.set k (.lst ((es ++ [(p, g, c)]).map eD))) = some (.int (r4 : Nat), G4) := e4
  have hy : G3.set k (.lst ((es ++ [(p, g, c)]).map eD)) = G3.set k (.lst (es.map eD ++ [eD (p, g, c)])) := by simp
  rw [set_s (d := .int g) (G1 := G1) (by simp [e1', hmin])]
  simp only [List.set_cons_succ, List.set_cons_zero]
  rw [drop_s (d := .non) (G1 := G3.set k (.lst ((es ++ [(p, g, c)]).map eD)))]
  · rw [set_s (d := .int ((p : Int) + g + 1 + r4)) (G1 := G4) (by simp only [ev_bin1, ev_v1, ev_k1, ev_call1, ev_cons1, ev_nil1, List.getElem?_cons_zero, List.getElem?_cons_succ, Option.bind_some, bnd_s, consK_s, argK_s, List.length_cons, List.length_nil, bin_addi, if_true, e4'])]
    rfl
  · simp only [ev_mth1, ev_v1, ev_cons1, ev_tup1, ev_call1, ev_k1, ev_nil1, List.getElem?_cons_zero, List.getElem?_cons_succ, Option.bind_some, bnd_s, consK_s, argK_s, List.length_cons, List.length_nil, show Mth.append.ty = .list from rfl, ref_ty hc1, if_true]
    simp only [e2', bnd_s, consK_s, argK_s, List.length_cons, List.length_nil, if_true, e3, tupK_s, sz]
    rw [if_pos (by simp), bnd_s, bnd_s, argK_s, hy]
    exact app_s hc3' (by simp; omega)
theorem edits_run {m : Nat} (hm : 3 ≤ m) (hd : Dr dn G) {long : Nat} (hn : long ≤ 4000) :
    ∃ (es : List Ed) (G' : Hs), es.length ≤ 6 ∧ Sep es ∧ (∀ e ∈ es, e.1 + e.2.1 ≤ long ∧ Sg e.2.2 ∧ e.2.2.length ≤ 2) ∧ Mv dn G G' ∧ Dr dn G' ∧ F m 41 [.ref dn, .int long] G = some (esD es, G') := by
  have hdl := hd.lt
  obtain ⟨p0, G0, hp0, m0, d0, e0⟩ := take0_run (m := m - 1) (by omega) (hd.app (l := [.lst []])) (b := 4) (by omega)
  have hk : G.length ≠ dn := by omega
  have hc0 : G0[G.length]? = some (.lst (([] : List Ed).map eD)) := m0.at hk at_new
  have mg0 : Mv dn G G0 := by
    obtain ⟨xs, l, rfl⟩ := m0
    refine ⟨xs, [.lst []] ++ l, ?_⟩
    rw [List.set_append_left _ _ hdl, List.append_assoc]
  obtain ⟨ς', G', e, p', es, o', h1, h2, h3, h4, h5, h6, h7, h8⟩ := loopW_run (c := (ev (F (m - 1)) (E.cmp Cop.le (E.v 3) (E.v 1))).2) (f := evS (F (m - 1)) bEds)
    (fun n ς G' => ∃ (p : Nat) (es : List Ed) (o : Option D), n = long + 1 - p ∧ es.length + n ≤ long + 1 ∧ Sep es ∧ (∀ e ∈ es, e.1 + e.2.1 < p) ∧ (∀ e ∈ es, e.1 + e.2.1 ≤ long ∧ Sg e.2.2 ∧ e.2.2.length ≤ 2) ∧ Mv dn G G' ∧ Dr dn G' ∧ G'[G.length]? = some (.lst (es.map eD)) ∧ ς = [some (.ref dn), some (.int long), some (.ref G.length), some (.int p), o])
    (fun ς G' => ∃ (p : Nat) (es : List Ed) (o : Option D), Sep es ∧ (∀ e ∈ es, e.1 + e.2.1 < p) ∧ (∀ e ∈ es, e.1 + e.2.1 ≤ long ∧ Sg e.2.2 ∧ e.2.2.length ≤ 2) ∧ Mv dn G G' ∧ Dr dn G' ∧ G'[G.length]? = some (.lst (es.map eD)) ∧ es.length ≤ long + 1 ∧ ς = [some (.ref dn), some (.int long), some (.ref G.length), some (.int p), o])
    (fun n ς G' ⟨p, es, o, h1, h2, h3, h4, h5, h6, h7, h8, h9⟩ => by
      subst h9
      refine ⟨decide ((p : Int) ≤ long), G', by simp, fun _ => ⟨p, es, o, h3, h4, h5, h6, h7, h8, by omega, rfl⟩, fun q => ?_⟩
      have q : (p : Int) ≤ long := of_decide_eq_true q
      obtain ⟨g, c, p', G2, G3, o', k1, k2, k3, k4, k5, k6, k7, k8, k9, k10⟩ := bEds_ev (m := m - 1) (by omega) (long := long) (k := G.length) (p := p) (es := es) (o := o) h7 hk h8 (by omega) (by omega)
      have mm : Mv dn G (G2.set G.length (.lst ((es ++ [(p, g, c)]).map eD))) := (h6.tr hd k5).set (c := .gone) hd (Nat.le_refl _)
      have mm3 := mm.tr hd k8
      refine ⟨_, _, _, ?_, k10, p', es ++ [(p, g, c)], o', rfl, by simp; omega, sep_app h3 h4, ?_, ?_, mm3, mm3.dr hd, k9, rfl⟩
      · omega
      · intro e he
        rcases List.mem_append.mp he with he | he
        · have := h4 e he; omega
        · simp at he; subst he; exact k4
      · intro e he
        rcases List.mem_append.mp he with he | he
        · exact h5 e he
        · simp at he; subst he; exact ⟨k1, k2, k3⟩)
    100000 (long + 1 - p0) [some (.ref dn), some (.int long), some (.ref G.length), some (.int p0), none] G0 ⟨p0, [], none, rfl, by simp, trivial, by simp, by simp, mg0, d0, hc0, rfl⟩ (by omega)
  refine ⟨es.take 6, G', by simp; omega, sep_take h1, fun e he => h3 e (List.mem_of_mem_take he), h4, h5, run_ t41 rfl (by omega) ?_⟩
  show (evS (F (m - 1)) b41 [some (.ref dn), some (.int long), none, none, none] G).bind outD = _
  unfold b41
  have e0' : F (m - 1) 37 [.ref dn, .int 4] (G ++ [.lst []]) = some (.int (p0 : Nat), G0) := e0
  rw [seq_nx (ς' := [some (.ref dn), some (.int long), some (.ref G.length), some (.int p0), none]) (G1 := G0) (by simp [sz, e0'])]
  rw [seq_nx ((evS_whl).trans e), h8]
  refine seq_ret ?_
  have hs : slD false (.ref G.length) none (some 6) G' = some (.lst ((es.take 6).map eD), G') := by
    have := cut_to (es.map eD) 6
    simp only [slD, Mp.roOf, Mp.listOf, h6, Option.bind_some]
    rw [List.map_take, ← this]; rfl
  simp only [ev_blt1, ev_cons1, ev_sl1, slF_s, isNil_nil, isNil_k, if_true, Bool.false_eq_true, if_false, partD_n, partD_s, ev_k1, partI_i, ev_nil1, ev_v1, List.getElem?_cons_succ, List.getElem?_cons_zero, Option.bind_some, bnd_s, consK_s, argK_s, blt_tuple, one_s, hs, tup_l]
  rfl
end K01
set_option Elab.async false
set_option linter.all false
set_option autoImplicit false
set_option maxRecDepth 100000
set_option maxHeartbeats 1000000
namespace K01
open PySem PySem.Spec L2 Mp
open PyProof.Rows hiding St

variable {dn : Nat} {G G1 G2 G' : Hs}
/-! 38 -/
theorem alike_int {m : Nat} (hm : 1 ≤ m) {i : Int} : F m 38 [.int i, .int i] G = some (.bl true, G) := by
  refine run_ t38 rfl (by omega) ?_
  show (evS (F (m - 1)) b38 [some (.int i), some (.int i), none] G).bind outD = _
  unfold b38
  rw [seq_ife_f (G1 := G) (by simp), seq_ife_f (G1 := G) (by simp; rfl), seq_ife_f (G1 := G) (by simp)]
  rw [seq_ife_t (G1 := G) (d := some (.bl true, G)) (by simp) (by simp)]
  rfl
theorem eqC_nil : eqC (.lst []) (.lst []) G = some true := by rfl
theorem alike_tup {m : Nat} (hm : 1 ≤ m) {ds : List D} (hl : ds.length ≤ 10000) (h : ∀ d ∈ ds, F (m - 1) 38 [d, d] G = some (.bl true, G)) : F m 38 [.tup ds, .tup ds] G = some (.bl true, G) := by
  refine run_ t38 rfl (by omega) ?_
  show (evS (F (m - 1)) b38 [some (.tup ds), some (.tup ds), none] G).bind outD = _
  unfold b38
  have hr : arity 1 rngK [.int (ds.length : Int)] G = some (.tup (rgN 0 1 ds.length), G) := rng1_s (q := (0, 1, ds.length)) (by rw [rgA_1, if_pos (by omega)]; simp)
  have hc : loopC (ev (F (m - 1)) (E.not (E.call 38 2 (E.cons (E.idx (E.v 0) (E.v 2)) (E.cons (E.idx (E.v 1) (E.v 2)) E.nil))))).2 (ev (F (m - 1)) (E.v 2)).1 (Tg.nm 2) [some (.tup ds), some (.tup ds), none] (rgN 0 1 ds.length) [] G = some ([], G) := by
    have := loopC_filter (c := (ev (F (m - 1)) (E.not (E.call 38 2 (E.cons (E.idx (E.v 0) (E.v 2)) (E.cons (E.idx (E.v 1) (E.v 2)) E.nil))))).2) (e := (ev (F (m - 1)) (E.v 2)).1) (t := Tg.nm 2) (ς := [some (.tup ds), some (.tup ds), none]) (G := G) (fun _ => false) id (ds := rgN 0 1 ds.length) (acc := []) (by
      intro d hd
      unfold rgN at hd
      obtain ⟨i, hi, rfl⟩ := List.mem_map.mp hd
      have hi := List.mem_range.mp hi
      have ha : atI ds (0 + (i : Nat) * 1 : Int) = some ds[i] := by
        rw [show (0 + (i : Nat) * 1 : Int) = (i : Int) by omega]
        exact atI_nat (List.getElem?_eq_getElem hi)
      have hc := h ds[i] (by simp)
      refine ⟨_, bindL_nm, ?_, fun q => by cases q⟩
      simp only [List.set_cons_succ, List.set_cons_zero, ev_not2, ev_call2, ev_cons1, ev_idx1, ev_v1, ev_nil1, List.getElem?_cons_zero, List.getElem?_cons_succ, Option.bind_some, bnd_s, idx_tup, ha, Option.map_some, consK_s, argK_s, List.length_cons, List.length_nil, if_true, hc, truD_b]
      rfl) (by rw [sz]; simp [rgN]; omega)
    rw [this]; simp
  rw [evS_seq, evS_ife]
  have c1 : (ev (F (m - 1)) (E.or (E.isi Ty.list (E.v 1)) (E.isi Ty.tuple (E.v 1)))).2 [some (.tup ds), some (.tup ds), none] G = some (true, G) := by simp
  rw [c1, bnd_s, if_pos rfl, seq_ife_f (G1 := G) (by simp; rfl)]
  have c2 : (ev (F (m - 1)) (E.and (E.cmp Cop.eq (E.blt Blt.len (E.cons (E.v 0) E.nil)) (E.blt Blt.len (E.cons (E.v 1) E.nil))) (E.cmp Cop.eq (E.comp false (Tg.nm 2) [2] (E.irng 1 (E.cons (E.blt Blt.len (E.cons (E.v 1) E.nil)) E.nil)) (E.not (E.call 38 2 (E.cons (E.idx (E.v 0) (E.v 2)) (E.cons (E.idx (E.v 1) (E.v 2)) E.nil)))) (E.v 2)) (E.lst false E.nil)))).1 [some (.tup ds), some (.tup ds), none] G = some (.bl true, G) := by
    rw [ev_and1]
    have k1 : (ev (F (m - 1)) (E.cmp Cop.eq (E.blt Blt.len (E.cons (E.v 0) E.nil)) (E.blt Blt.len (E.cons (E.v 1) E.nil)))).1 [some (.tup ds), some (.tup ds), none] G = some (.bl true, G) := by simp
    rw [k1, blB_b, bnd_s, if_pos rfl]
    simp only [ev_cmp1, ev_comp1, ev_irng1, ev_cons1, ev_blt1, ev_v1, ev_nil1, ev_lst1, List.getElem?_cons_zero, List.getElem?_cons_succ, Option.bind_some, bnd_s, consK_s, argK_s, blt_len, one_s, len_tup, hr, wipeE, List.set_cons_succ, List.set_cons_zero, hc, newD_f, lstK_s, List.length_nil, Nat.zero_le, if_true, cmpD_s]
    rfl
  rw [evS_seq, evS_ret, c2]
  rfl
theorem alike_pairs {m : Nat} (hm : 3 ≤ m) {ps : List (Nat × Nat)} (hl : ps.length ≤ 10000) : F m 38 [psD ps, psD ps] G = some (.bl true, G) := by
  refine alike_tup (by omega) (by simpa using hl) fun d hd => ?_
  obtain ⟨p, hp, rfl⟩ := List.mem_map.mp hd
  refine alike_tup (by omega) (by simp) fun d hd => ?_
  simp at hd
  rcases hd with rfl | rfl <;> exact alike_int (by omega)
/-! 42: names -/
def nsD (xs : List Nat) : D := .lst (xs.map fun x => .int (x : Nat))
def fresh (n k : Nat) : List Nat := (List.range k).map (n + ·)
def nameEs (n : Nat) : List Ed → Eds Nat
  | [] => []
  | (p, g, c) :: r => (p, g, fresh n c.length) :: nameEs (n + c.length) r
def nameTot (es : List Ed) : Nat := (es.map (·.2.2.length)).sum
theorem cutN_map {α β : Type} (f : α → β) (xs : List α) (lo hi : Option Int) : cutN (xs.map f) lo hi = (cutN xs lo hi).map f := by
  unfold cutN; simp
theorem addN {a b : List Nat} (h : a.length + b.length ≤ 16777216) : binD .add (nsD a) (nsD b) G = some (nsD (a ++ b), G) := by
  simp only [nsD, bin_addl, List.length_map]
  rw [if_pos (by rw [sz]; exact h), List.map_append]
abbrev bBeh : S := (S.seq (S.set 3 (E.bin Bop.add (E.bin Bop.add (E.v 3) (E.sl false (E.v 0) (E.v 4) (E.v 5))) (E.comp false (Tg.nm 8) [8] (E.irng 1 (E.cons (E.blt Blt.len (E.cons (E.v 7) E.nil)) E.nil)) E.yes (E.bin Bop.add (E.v 2) (E.v 8))))) (S.seq (S.tgt (Tg.tp (Tg.cons (Tg.nm 4) (Tg.cons (Tg.nm 2) Tg.nil))) (E.tup (E.cons (E.bin Bop.add (E.v 5) (E.v 6)) (E.cons (E.bin Bop.add (E.v 2) (E.blt Blt.len (E.cons (E.v 7) E.nil))) E.nil)))) S.skip))
theorem fresh_comp {cl : Nat → List D → Hs → Rs} {ς : Env'} {n k i j : Nat} {a b : E} (hi : i < ς.length) (hk : (ev cl a).1 ς G = some (.int (k : Nat), G)) (hkl : k ≤ 10000) (hb : ∀ q : Nat, q < k → (ev cl b).1 ((wipeE ς [i]).set i (some (.int (q : Nat)))) G = some (.int (n + q : Nat), G)) :
    (ev cl (E.comp false (Tg.nm i) [i] (E.irng 1 (E.cons a E.nil)) E.yes b)).1 ς G = some (nsD (fresh n k), G) := by
  have hr : arity 1 rngK [.int (k : Int)] G = some (.tup (rgN 0 1 k), G) := rng1_s (q := (0, 1, k)) (by rw [rgA_1, if_pos (by omega)]; simp)
  simp only [ev_comp1, ev_irng1, ev_cons1, hk, ev_nil1, bnd_s, consK_s, argK_s, hr]
  rw [loopC_map (f := fun d => match d with | .int q => .int ((n : Int) + q) | d => d)]
  · have em : (rgN 0 1 k).map (fun d => match d with | .int q => D.int ((n : Int) + q) | d => d) = (fresh n k).map fun x => .int (x : Nat) := by
      simp only [rgN, fresh, List.map_map]
      apply List.map_congr_left
      intro q _
      have e : (n : Int) + (0 + (q : Nat) * 1) = ((n + q : Nat) : Int) := by omega
      simp only [Function.comp, e]
    rw [bnd_s, newD_f, em]; rfl
  · intro d hd
    unfold rgN at hd
    obtain ⟨q, hq, rfl⟩ := List.mem_map.mp hd
    have hq := List.mem_range.mp hq
    refine ⟨_, bindL_nm, by simp, ?_⟩
    have := hb q hq
    rw [show (0 + (q : Nat) * 1 : Int) = (q : Int) by omega, this]
    simp
  · rw [sz]; simp [rgN]; omega
theorem for_beh {cl : Nat → List D → Hs → Rs} {v1 : D} {nm : List Nat} (hnl : nm.length ≤ 10000) : ∀ (es : List Ed) (a n : Nat) (acc : List Nat) (o5 o6 o7 o8 : Option D), Wf nm.length a es → (∀ e ∈ es, e.2.2.length ≤ 100) → acc.length + (nm.length - a) + 100 * es.length ≤ 1000000 →
    ∃ a' acc' n' u5 u6 u7 u8, acc' ++ nm.drop a' = acc ++ weave nm a (nameEs n es) ∧ n' = n + nameTot es ∧ acc'.length + (nm.length - a') ≤ acc.length + (nm.length - a) + 100 * es.length ∧
      loopF (Tg.tp (Tg.cons (Tg.nm 5) (Tg.cons (Tg.nm 6) (Tg.cons (Tg.nm 7) Tg.nil)))) (evS cl bBeh) (es.map eD) [some (nsD nm), some v1, some (.int n), some (nsD acc), some (.int a), o5, o6, o7, o8] G = some (.nx [some (nsD nm), some v1, some (.int n'), some (nsD acc'), some (.int a'), u5, u6, u7, u8] G)
  | [], a, n, acc, o5, o6, o7, o8, h, _, _ => ⟨a, acc, n, o5, o6, o7, o8, rfl, by simp [nameTot], by omega, rfl⟩
  | (p, g, c) :: es, a, n, acc, o5, o6, o7, o8, ⟨w1, w2, w3⟩, h2, h3 => by
    simp only [List.length_cons] at h3
    have hc : c.length ≤ 100 := h2 (p, g, c) (by simp)
    have hc2 : c.length ≤ 16777216 := by omega
    have hsl : ((nm.drop a).take (p - a)).length = p - a := by simp; omega
    obtain ⟨a', acc', n', u5, u6, u7, u8, i1, i2, i3, ih⟩ := for_beh (cl := cl) (v1 := v1) hnl es (p + g) (n + c.length) (acc ++ (nm.drop a).take (p - a) ++ fresh n c.length) (some (.int p)) (some (.int g)) (some (.str c)) o8 w3 (fun e he => h2 e (by simp [he])) (by simp only [List.length_append, hsl, fresh, List.length_map, List.length_range]; omega)
    refine ⟨a', acc', n', u5, u6, u7, u8, ?_, ?_, ?_, ?_⟩
    · rw [i1]; simp [weave, nameEs]
    · rw [i2]; simp [nameTot]; omega
    · simp only [List.length_append, hsl, fresh, List.length_map, List.length_range, List.length_cons] at i3 ⊢; omega
    simp only [List.map_cons, loopF]
    have b : bindL (Tg.tp (Tg.cons (Tg.nm 5) (Tg.cons (Tg.nm 6) (Tg.cons (Tg.nm 7) Tg.nil)))) [eD (p, g, c)] [some (nsD nm), some v1, some (.int n), some (nsD acc), some (.int a), o5, o6, o7, o8] = some [some (nsD nm), some v1, some (.int n), some (nsD acc), some (.int a), some (.int p), some (.int g), some (.str c), o8] := by
      simp [eD, dE]
    rw [b, Option.bind_some]
    have fc := fresh_comp (cl := cl) (G := G) (ς := [some (nsD nm), some v1, some (.int n), some (nsD acc), some (.int a), some (.int p), some (.int g), some (.str c), o8]) (n := n) (k := c.length) (i := 8) (j := 0) (a := E.blt Blt.len (E.cons (E.v 7) E.nil)) (b := E.bin Bop.add (E.v 2) (E.v 8)) (by simp) (by simp [sz, hc2]) (by omega) (by intro q hq; simp [wipeE])
    rw [set_s (d := nsD (acc ++ (nm.drop a).take (p - a) ++ fresh n c.length)) (G1 := G)]
    · simp only [List.set_cons_succ, List.set_cons_zero]
      rw [tgt_s (d := .tup [.int ((p : Int) + g), .int ((n : Int) + c.length)]) (G1 := G) (by simp [sz, hc2]) (by simp; rfl)]
      rw [evS_skip, Option.bind_some]
      simp only [List.append_assoc] at ih ⊢
      exact ih
    ·
      have k2 : slD false (nsD nm) (some (a : Int)) (some (p : Int)) G = some (nsD ((nm.drop a).take (p - a)), G) := by
        simp only [nsD, sl_lst, cut_both, List.map_take, List.map_drop]
      have k3 : binD .add (nsD acc) (nsD ((nm.drop a).take (p - a))) G = some (nsD (acc ++ (nm.drop a).take (p - a)), G) := addN (by rw [hsl]; omega)
      have k4 : binD .add (nsD (acc ++ (nm.drop a).take (p - a))) (nsD (fresh n c.length)) G = some (nsD (acc ++ (nm.drop a).take (p - a) ++ fresh n c.length), G) := addN (by rw [List.length_append, hsl]; simp [fresh]; omega)
      simp only [ev_bin1, ev_v1, ev_sl1, slF_s, isNil_v, Bool.false_eq_true, if_false, partD_s, List.getElem?_cons_zero, List.getElem?_cons_succ, Option.bind_some, bnd_s, partI_i, k2, k3, fc, k4]
theorem behind_names_run {m : Nat} (hm : 1 ≤ m) {nm : List Nat} {es : List Ed} {n : Nat} (hnl : nm.length ≤ 10000) (hw : Wf nm.length 0 es) (h2 : ∀ e ∈ es, e.2.2.length ≤ 100) (h3 : es.length ≤ 1000) :
    F m 42 [nsD nm, esD es, .int n] G = some (.tup [nsD (weave nm 0 (nameEs n es)), .int (n + nameTot es : Nat)], G) := by
  obtain ⟨a', acc', n', u5, u6, u7, u8, i1, i2, i3, hr⟩ := for_beh (cl := F (m - 1)) (G := G) (v1 := esD es) hnl es 0 n [] none none none none hw h2 (by simp; omega)
  refine run_ t42 rfl (by omega) ?_
  show (evS (F (m - 1)) b42 [some (nsD nm), some (esD es), some (.int n), none, none, none, none, none, none] G).bind outD = _
  unfold b42
  rw [seq_nx (ς' := [some (nsD nm), some (esD es), some (.int n), some (nsD []), some (.int ((0 : Nat) : Int)), none, none, none, none]) (G1 := G) (by simp [sz]; rfl)]
  rw [for_nx (ds := es.map eD) (G1 := G) (by simp [esD]) hr]
  refine seq_ret ?_
  have k2 : slD false (nsD nm) (some (a' : Int)) none G = some (nsD (nm.drop a'), G) := by
    simp only [nsD, sl_lst, cut_from, List.map_drop]
  simp only [List.length_nil, Nat.zero_add] at i3
  have k3 : binD .add (nsD acc') (nsD (nm.drop a')) G = some (nsD (acc' ++ nm.drop a'), G) := addN (by simp; omega)
  simp only [ev_tup1, ev_cons1, ev_bin1, ev_v1, ev_sl1, ev_nil1, slF_s, isNil_v, isNil_nil, if_true, Bool.false_eq_true, if_false, partD_s, partD_n, List.getElem?_cons_zero, List.getElem?_cons_succ, Option.bind_some, bnd_s, partI_i, k2, k3, consK_s, argK_s, tupK_s, i1, i2]
  rw [if_pos (by rw [sz]; simp)]; rfl
end K01
set_option Elab.async false
set_option linter.all false
set_option autoImplicit false
set_option maxRecDepth 100000
set_option maxHeartbeats 1000000
namespace K01
open PySem PySem.Spec L2 Mp
open PyProof.Rows hiding St

variable {dn : Nat} {G G1 G2 G' : Hs}
/-! 43 -/
theorem okDs_ints : ∀ xs : List Nat, okDs (xs.map fun x => .int (x : Nat)) = true ∧ depDs (xs.map fun x => .int (x : Nat)) = 0
  | [] => ⟨by simp [okDs], by simp [depDs]⟩
  | x :: r => by
    obtain ⟨h1, h2⟩ := okDs_ints r
    exact ⟨by simp [okDs, okD, h1], by simp [depDs, depD, h2]⟩
theorem okC_nsD (xs : List Nat) : okC (nsD xs) = true := by
  obtain ⟨h1, h2⟩ := okDs_ints xs
  simp [okC, nsD, okD, depD, h1, h2]
theorem okC_int (i : Int) : okC (.int i) = true := by simp [okC, okD, depD]
theorem eqD_int (a b : Nat) : eqD (.int a) (.int b) = (a == b) := by
  simp only [eqD]
  by_cases h : a = b
  · subst h; simp
  · have : ¬ (a : Int) = b := by omega
    rw [beq_eq_false_iff_ne.mpr this, beq_eq_false_iff_ne.mpr h]
theorem in_ns {x : Nat} {xs : List Nat} : cmpB .in_ (.int x) (nsD xs) G = some (decide (x ∈ xs)) := by
  show (if okC (.int x) ∧ okC (nsD xs) then some ((xs.map fun x => D.int (x : Nat)).any fun z => eqD z (.int x)) else none) = _
  rw [if_pos ⟨okC_int _, okC_nsD _⟩]
  congr 1
  rw [Bool.eq_iff_iff]
  simp only [List.any_eq_true, List.mem_map, decide_eq_true_eq]
  constructor
  · rintro ⟨d, ⟨y, hy, rfl⟩, h⟩
    rw [eqD_int] at h
    have := beq_iff_eq.mp h
    subst this; exact hy
  · intro h
    exact ⟨_, ⟨x, h, rfl⟩, by rw [eqD_int]; simp⟩
theorem find_ns {x : Nat} : ∀ {xs : List Nat}, x ∈ xs → (xs.map fun x => D.int (x : Nat)).findIdx? (fun z => eqD z (.int x)) = some (xs.idxOf x)
  | y :: xs, h => by
    rw [List.map_cons, List.findIdx?_cons, eqD_int, List.idxOf_cons]
    by_cases e : y = x
    · subst e; simp
    · have h2 : x ∈ xs := by
        rcases List.mem_cons.mp h with q | q
        · exact absurd q.symm e
        · exact q
      have eb : (y == x) = false := by simp [e]
      rw [eb, find_ns h2]; simp
def inL (nm later : List Nat) (k : Nat) : Bool := match nm[k]? with | some x => decide (x ∈ later) | none => false
def pairsOf (nm later : List Nat) : List (Nat × Nat) := ((List.range nm.length).filter (inL nm later)).map fun k => (k, later.idxOf (nm[k]?.getD 0))
theorem pairs_run {m : Nat} (hm : 1 ≤ m) {nm later : List Nat} (hn : nm.length ≤ 10000) : F m 43 [nsD nm, nsD later] G = some (psD (pairsOf nm later), G) := by
  refine run_ t43 rfl (by omega) ?_
  show (evS (F (m - 1)) b43 [some (nsD nm), some (nsD later), none] G).bind outD = _
  unfold b43
  refine seq_ret ?_
  have hr : arity 1 rngK [.int (nm.length : Int)] G = some (.tup (rgN 0 1 nm.length), G) := rng1_s (q := (0, 1, nm.length)) (by rw [rgA_1, if_pos (by omega)]; simp)
  have hlen : lenD (nsD nm) G = some (.int nm.length, G) := by simp [nsD]
  have hc := loopC_filter (c := (ev (F (m - 1)) (E.cmp Cop.in_ (E.idx (E.v 0) (E.v 2)) (E.v 1))).2) (e := (ev (F (m - 1)) (E.tup (E.cons (E.v 2) (E.cons (E.mth Mth.index (E.v 1) (E.cons (E.idx (E.v 0) (E.v 2)) E.nil)) E.nil)))).1) (t := Tg.nm 2) (ς := [some (nsD nm), some (nsD later), none]) (G := G)
    (fun d => match d with | .int k => inL nm later k.toNat | _ => false) (fun d => match d with | .int k => pD (k.toNat, later.idxOf (nm[k.toNat]?.getD 0)) | d => d) (ds := rgN 0 1 nm.length) (acc := []) (by
      intro d hd
      unfold rgN at hd
      obtain ⟨k, hk, rfl⟩ := List.mem_map.mp hd
      have hk := List.mem_range.mp hk
      rw [show (0 + (k : Nat) * 1 : Int) = (k : Int) by omega]
      have ha : idxD (nsD nm) (.int (k : Nat)) G = some (.int (nm[k] : Nat), G) := by
        simp only [nsD, idx_lst]
        rw [atI_nat (j := k) (v := .int (nm[k] : Nat)) (by rw [List.getElem?_map, List.getElem?_eq_getElem hk]; rfl)]; rfl
      have hg : nm[k]? = some nm[k] := List.getElem?_eq_getElem hk
      have e1 : inL nm later k = decide (nm[k] ∈ later) := by unfold inL; rw [hg]
      refine ⟨_, bindL_nm, ?_, fun q => ?_⟩
      · simp only [List.set_cons_succ, List.set_cons_zero, ev_cmp2, ev_idx1, ev_v1, List.getElem?_cons_zero, List.getElem?_cons_succ, Option.bind_some, bnd_s, ha, cmpD_s, in_ns, Option.map_some, blB_b, Int.toNat_natCast, e1]
      · simp only [Int.toNat_natCast, e1, decide_eq_true_eq] at q
        have hi : indexM (nsD later) [.int (nm[k] : Nat)] G = some (.int (later.idxOf nm[k] : Nat), G) := by
          show (if okC (.int (nm[k] : Nat)) ∧ okC (nsD later) then ((later.map fun x => D.int (x : Nat)).findIdx? fun z => eqD z (.int (nm[k] : Nat))).bind fun j => some (D.int (j : Nat), G) else none) = _
          rw [if_pos ⟨okC_int _, okC_nsD _⟩, find_ns q]; rfl
        simp only [List.set_cons_succ, List.set_cons_zero, ev_tup1, ev_cons1, ev_mth1, ev_idx1, ev_v1, ev_nil1, List.getElem?_cons_zero, List.getElem?_cons_succ, Option.bind_some, bnd_s, ha, show Mth.index.ty = .list from rfl, show hasTy .list (nsD later) G = true from rfl, if_true, consK_s, argK_s, show Mth.index.k = indexM from rfl, hi, tupK_s, Int.toNat_natCast, hg, Option.getD_some]
        rw [if_pos (by rw [sz]; simp)]; rfl) (by rw [sz]; simp [rgN]; omega)
  simp only [ev_blt1, ev_cons1, ev_comp1, ev_irng1, ev_v1, ev_nil1, List.getElem?_cons_zero, List.getElem?_cons_succ, Option.bind_some, bnd_s, consK_s, argK_s, blt_len, one_s, hlen, hr, wipeE, List.set_cons_succ, List.set_cons_zero, hc, newD_f, blt_tuple, tup_l, List.nil_append]
  refine congrArg (fun z => some (D.tup z, G)) ?_
  unfold rgN pairsOf
  rw [List.filter_map, List.map_map, List.map_map]
  have hp : ∀ k : Nat, ((fun d : D => match d with | .int k => inL nm later k.toNat | _ => false) ∘ fun i : Nat => D.int (0 + (i : Nat) * 1)) k = inL nm later k := by
    intro k
    simp only [Function.comp]
    rw [show ((0 : Int) + (k : Nat) * 1).toNat = k by omega]
  rw [show ((fun d : D => match d with | .int k => inL nm later k.toNat | _ => false) ∘ fun i : Nat => D.int (0 + (i : Nat) * 1)) = fun k => inL nm later k from funext hp]
  apply List.map_congr_left
  intro k _
  simp only [Function.comp]
  rw [show ((0 : Int) + (k : Nat) * 1).toNat = k by omega]
end K01
set_option Elab.async false
set_option linter.all false
set_option autoImplicit false
set_option maxRecDepth 100000
set_option maxHeartbeats 1000000
namespace K01
open PySem PySem.Spec L2 Mp
open PyProof.Rows hiding St

variable {dn : Nat} {G G1 G2 G' : Hs}
/-! 44 -/
def kv (f : Nat → D) (p : Nat × Nat) : Key × D := (.inl (p.1 : Int), f p.2)
theorem dlook_kv (f : Nat → D) (k : Nat) : ∀ ps : List (Nat × Nat), dlook (ps.map (kv f)) (.inl (k : Int)) = (ps.find? fun q => q.1 == k).map fun q => f q.2
  | [] => rfl
  | p :: ps => by
    have ih := dlook_kv f k ps
    unfold dlook at ih ⊢
    simp only [List.map_cons, List.find?_cons]
    by_cases h : p.1 = k
    · subst h; simp [kv]
    · have : ¬ (kv f p).1 = (Sum.inl (k : Int) : Key) := by
        intro e
        have : (p.1 : Int) = k := by injection e
        omega
      rw [decide_eq_false this]
      have hb : (p.1 == k) = false := by simp [h]
      rw [hb]
      exact ih
theorem dput_new {kvs : List (Key × D)} {k : Key} {d : D} (h : ∀ p ∈ kvs, p.1 ≠ k) : dput kvs k d = kvs ++ [(k, d)] := by
  unfold dput
  rw [if_neg]
  simp only [List.any_eq_true, decide_eq_true_eq]
  rintro ⟨p, hp, e⟩
  exact h p hp e
theorem dmerge_new : ∀ (more kvs : List (Key × D)), (kvs ++ more).Pairwise (fun p q => p.1 ≠ q.1) → dmerge kvs more = kvs ++ more
  | [], kvs, _ => by simp [dmerge]
  | m :: more, kvs, h => by
    have h1 : ∀ p ∈ kvs, p.1 ≠ m.1 := fun p hp => (List.pairwise_append.mp h).2.2 p hp m (by simp)
    have := dmerge_new more (kvs ++ [m]) (by simpa using h)
    show dmerge (dput kvs m.1 m.2) more = _
    rw [dput_new h1]
    simpa using this
theorem pairsD_ps (f : Nat → D) : ∀ ps : List (Nat × Nat), pairsD (ps.map fun p => .tup [.int p.1, f p.2]) = some (ps.map (kv f))
  | [] => rfl
  | p :: ps => by
    simp only [List.map_cons, pairsD, Mp.pairD, keyD, Option.map_some, Option.bind_some, pairsD_ps f ps]
    rfl
theorem dict_kv (f : Nat → D) {ps : List (Nat × Nat)} (h : ps.Pairwise fun p q => p.1 ≠ q.1) : dictD (.lst (ps.map fun p => .tup [.int p.1, f p.2])) G = some (.ref G.length, G ++ [.dct (ps.map (kv f))]) := by
  show (pairsD (ps.map fun p => .tup [.int p.1, f p.2])).bind (fun qs => some (D.ref G.length, G ++ [.dct (dmerge [] qs)])) = _
  rw [pairsD_ps, Option.bind_some, dmerge_new _ [] (by
    rw [List.nil_append, List.pairwise_map]
    exact h.imp fun {a b} hne e => hne (by have : (a.1 : Int) = b.1 := by injection e
                                           omega))]
  rfl
def lookP (ps : List (Nat × Nat)) (k : Nat) : Option Nat := (ps.find? fun q => q.1 == k).map (·.2)
def behindP (one other : List (Nat × Nat)) : List (Nat × Nat) := (one.filter fun p => (lookP other p.2).isSome).map fun p => (p.1, (lookP other p.2).getD 0)
theorem in_dct {n k : Nat} {f : Nat → D} {ps : List (Nat × Nat)} (h : G[n]? = some (.dct (ps.map (kv f)))) : cmpB .in_ (.int k) (.ref n) G = some (lookP ps k).isSome := by
  show inC (.int k) (.ref n) G = _
  unfold inC
  simp only [h, keyD, Option.map_some]
  rw [dlook_kv]
  unfold lookP
  cases ps.find? fun q => q.1 == k <;> rfl
theorem idx_dct {n k : Nat} {f : Nat → D} {ps : List (Nat × Nat)} (h : G[n]? = some (.dct (ps.map (kv f)))) : idxD (.ref n) (.int k) G = (lookP ps k).map fun v => (f v, G) := by
  simp only [idxD, h, keyD, Option.bind_some]
  rw [dlook_kv]
  unfold lookP
  cases ps.find? fun q => q.1 == k <;> rfl
theorem put_behind_run {m : Nat} (hm : 1 ≤ m) {one other : List (Nat × Nat)} (h : other.Pairwise fun p q => p.1 ≠ q.1) (hl : one.length ≤ 10000) : ∃ l, F m 44 [psD one, psD other] G = some (psD (behindP one other), G ++ l) := by
  refine ⟨[.dct (other.map (kv fun v => .int v))], run_ t44 rfl (by omega) ?_⟩
  show (evS (F (m - 1)) b44 [some (psD one), some (psD other), none, none, none] G).bind outD = _
  unfold b44
  have hd := dict_kv (G := G) (fun v : Nat => D.int v) h
  have hpd : other.map pD = other.map fun p => .tup [.int p.1, .int p.2] := rfl
  have hli : ∀ G, listD false (psD other) G = some (.lst (other.map fun p => .tup [.int p.1, .int p.2]), G) := fun G => by rfl
  generalize hG2 : G ++ [Cell.dct (other.map (kv fun v => .int v))] = G2 at *
  have hat : G2[G.length]? = some (.dct (other.map (kv fun v => .int v))) := by rw [← hG2]; simp
  rw [set_s (d := .ref G.length) (G1 := G2) (by simp [hli, hd])]
  simp only [List.set_cons_succ, List.set_cons_zero]
  refine seq_ret ?_
  have hc := loopC_filter (c := (ev (F (m - 1)) (E.cmp Cop.in_ (E.v 4) (E.v 2))).2) (e := (ev (F (m - 1)) (E.tup (E.cons (E.v 3) (E.cons (E.idx (E.v 2) (E.v 4)) E.nil)))).1) (t := Tg.tp (Tg.cons (Tg.nm 3) (Tg.cons (Tg.nm 4) Tg.nil))) (ς := [some (psD one), some (psD other), some (.ref G.length), none, none]) (G := G2)
    (fun d => match d with | .tup [.int _, .int k] => (lookP other k.toNat).isSome | _ => false) (fun d => match d with | .tup [.int h, .int k] => pD (h.toNat, (lookP other k.toNat).getD 0) | d => d) (ds := one.map pD) (acc := []) (by
      intro d hd
      obtain ⟨⟨a, b⟩, hp, rfl⟩ := List.mem_map.mp hd
      refine ⟨[some (psD one), some (psD other), some (.ref G.length), some (.int a), some (.int b)], by simp [pD], ?_, fun q => ?_⟩
      · simp only [pD, ev_cmp2, ev_v1, List.getElem?_cons_zero, List.getElem?_cons_succ, Option.bind_some, bnd_s, cmpD_s, in_dct hat, Option.map_some, blB_b, Int.toNat_natCast]
      · simp only [pD, Int.toNat_natCast] at q
        obtain ⟨v, hv⟩ := Option.isSome_iff_exists.mp q
        simp only [pD, ev_tup1, ev_cons1, ev_idx1, ev_v1, ev_nil1, List.getElem?_cons_zero, List.getElem?_cons_succ, Option.bind_some, bnd_s, idx_dct hat, hv, Option.map_some, consK_s, argK_s, tupK_s, Int.toNat_natCast, Option.getD_some]
        rw [if_pos (by rw [sz]; simp)]) (by rw [sz]; simp; omega)
  have hsq : seqK (psD one) G2 = some (.tup (one.map pD), G2) := rfl
  simp only [ev_blt1, ev_cons1, ev_comp1, ev_iseq1, ev_v1, ev_nil1, List.getElem?_cons_zero, List.getElem?_cons_succ, Option.bind_some, bnd_s, consK_s, argK_s, hsq, wipeE, List.set_cons_succ, List.set_cons_zero, hc, newD_f, blt_tuple, one_s, tup_l, List.nil_append]
  refine congrArg (fun z => some (D.tup z, G2)) ?_
  unfold behindP
  rw [List.filter_map, List.map_map, List.map_map]
  rfl
end K01
set_option Elab.async false
set_option linter.all false
set_option autoImplicit false
set_option maxRecDepth 100000
set_option maxHeartbeats 1000000
namespace K01
open PySem PySem.Spec L2 Mp
open PyProof.Rows hiding St

variable {dn : Nat} {G G1 G2 G' : Hs}
/-! 45 -/
def inE (e : Ed) (i : Nat) : Bool := decide (e.1 ≤ i ∧ i < e.1 + e.2.1)
def keepL (nm : List Nat) (f s : Ed) (i : Nat) : List Nat := match nm[i]? with
  | some x => if inE f i = false ∧ inE s i = false then [x] else []
  | none => []
def mstep (nm : List Nat) (f s : Ed) (one other : List Nat) (i : Nat) : List Nat := (if f.1 = i then one else []) ++ (if s.1 = i then other else []) ++ keepL nm f s i
def mergeF (nm : List Nat) (f s : Ed) (one other : List Nat) : List Nat := (List.range (nm.length + 1)).flatMap (mstep nm f s one other)
abbrev bMer : S := (S.seq (S.set 5 (E.catM (E.bin Bop.add (E.v 5) (E.ite (E.cmp Cop.eq (E.idx (E.v 1) (E.k (D.int 0))) (E.v 6)) (E.v 3) (E.lst false E.nil))) (E.ite (E.cmp Cop.eq (E.idx (E.v 2) (E.k (D.int 0))) (E.v 6)) (E.v 4) (E.lst false E.nil)))) (S.seq (S.ife (E.and (E.cmp Cop.lt (E.v 6) (E.blt Blt.len (E.cons (E.v 0) E.nil))) (E.and (E.not (E.chain Cop.le Cop.lt (E.idx (E.v 1) (E.k (D.int 0))) (E.v 6) (E.bin Bop.add (E.idx (E.v 1) (E.k (D.int 0))) (E.idx (E.v 1) (E.k (D.int 1)))))) (E.not (E.chain Cop.le Cop.lt (E.idx (E.v 2) (E.k (D.int 0))) (E.v 6) (E.bin Bop.add (E.idx (E.v 2) (E.k (D.int 0))) (E.idx (E.v 2) (E.k (D.int 1)))))))) (S.seq (S.drop (E.mth Mth.append (E.v 5) (E.cons (E.idx (E.v 0) (E.v 6)) E.nil))) S.skip) S.skip) S.skip))
theorem chain_ev {cl : Nat → List D → Hs → Rs} {ς : Env'} {j i : Nat} {e : Ed} (h1 : ς[j]? = some (some (eD e))) (h2 : ς[6]? = some (some (.int (i : Nat)))) :
    (ev cl (E.not (E.chain Cop.le Cop.lt (E.idx (E.v j) (E.k (D.int 0))) (E.v 6) (E.bin Bop.add (E.idx (E.v j) (E.k (D.int 0))) (E.idx (E.v j) (E.k (D.int 1))))))).2 ς G = some (!inE e i, G) := by
  by_cases c : e.1 ≤ i
  · have c' : (e.1 : Int) ≤ i := by omega
    have e1 : inE e i = decide (i < e.1 + e.2.1) := by simp [inE, c]
    have e2 : decide ((i : Int) < (e.1 : Int) + e.2.1) = decide (i < e.1 + e.2.1) := by
      rw [Bool.eq_iff_iff]; simp only [decide_eq_true_eq]; omega
    simp only [ev_not2, ev_chain2, ev_idx1, ev_v1, ev_k1, h1, h2, Option.bind_some, bnd_s, idxE0, idxE1, cmp_leI, decide_eq_true c', chK_t, ev_bin1, bin_addi, cmpD_s, cmp_ltI, Option.map_some, blB_b, e1, e2]
  · have c' : ¬ (e.1 : Int) ≤ i := by omega
    have e1 : inE e i = false := by simp [inE, c]
    simp only [ev_not2, ev_chain2, ev_idx1, ev_v1, ev_k1, h1, h2, Option.bind_some, bnd_s, idxE0, cmp_leI, decide_eq_false c', chK_f, blB_b, e1]
theorem bMer_ev {cl : Nat → List D → Hs → Rs} {nm one other acc : List Nat} {f s : Ed} {i k : Nat} (hat : G[k]? = some (.lst (acc.map fun x => .int (x : Nat)))) (hl : acc.length + one.length + other.length ≤ 1000000) :
    ∃ k' l, k' < (G ++ l).length ∧ evS cl bMer [some (nsD nm), some (eD f), some (eD s), some (nsD one), some (nsD other), some (.ref k), some (.int (i : Nat))] G =
      some (.nx [some (nsD nm), some (eD f), some (eD s), some (nsD one), some (nsD other), some (.ref k'), some (.int (i : Nat))] (G ++ l)) ∧ (G ++ l)[k']? = some (.lst ((acc ++ mstep nm f s one other i).map fun x => .int (x : Nat))) ∧ G.length ≤ k' := by
  let x := if f.1 = i then one else []
  let y := if s.1 = i then other else []
  have hx : x.length ≤ one.length := by show (if f.1 = i then one else []).length ≤ _; split <;> simp
  have hy : y.length ≤ other.length := by show (if s.1 = i then other else []).length ≤ _; split <;> simp
  have ite1 : ∀ (G : Hs) (o : Option D), (ev cl (E.ite (E.cmp Cop.eq (E.idx (E.v 1) (E.k (D.int 0))) (E.v 6)) (E.v 3) (E.lst false E.nil))).1 [some (nsD nm), some (eD f), some (eD s), some (nsD one), some (nsD other), o, some (.int (i : Nat))] G = some (nsD x, G) := by
    intro G o
    rw [ev_ite1, ev_cmp2]
    simp only [ev_idx1, ev_v1, ev_k1, List.getElem?_cons_zero, List.getElem?_cons_succ, Option.bind_some, bnd_s, idxE0, cmpD_s, cmp_eqI, Option.map_some, blB_b]
    by_cases c : f.1 = i
    · have : ((f.1 : Int) == (i : Int)) = true := by simp [c]
      rw [this, if_pos rfl]; simp [x, c]
    · have : ((f.1 : Int) == (i : Int)) = false := by simp; omega
      rw [this, if_neg (by decide)]
      simp only [ev_lst1, ev_nil1, bnd_s, argK_s, lstK_s, List.length_nil, Nat.zero_le, if_true, newD_f]
      simp [x, c, nsD]
  have ite2 : ∀ (G : Hs) (o : Option D), (ev cl (E.ite (E.cmp Cop.eq (E.idx (E.v 2) (E.k (D.int 0))) (E.v 6)) (E.v 4) (E.lst false E.nil))).1 [some (nsD nm), some (eD f), some (eD s), some (nsD one), some (nsD other), o, some (.int (i : Nat))] G = some (nsD y, G) := by
    intro G o
    rw [ev_ite1, ev_cmp2]
    simp only [ev_idx1, ev_v1, ev_k1, List.getElem?_cons_zero, List.getElem?_cons_succ, Option.bind_some, bnd_s, idxE0, cmpD_s, cmp_eqI, Option.map_some, blB_b]
    by_cases c : s.1 = i
    · have : ((s.1 : Int) == (i : Int)) = true := by simp [c]
      rw [this, if_pos rfl]; simp [y, c]
    · have : ((s.1 : Int) == (i : Int)) = false := by simp; omega
      rw [this, if_neg (by decide)]
      simp only [ev_lst1, ev_nil1, bnd_s, argK_s, lstK_s, List.length_nil, Nat.zero_le, if_true, newD_f]
      simp [y, c, nsD]
  have had : binD .add (.ref k) (nsD x) G = some (nsD (acc ++ x), G) := by
    show (Mp.listOf G (.ref k)).bind (fun a => (Mp.listOf G (nsD x)).bind fun b => if a.length + b.length ≤ sizeLine then some (D.lst (a ++ b), G) else none) = _
    have : Mp.listOf G (.ref k) = some (acc.map fun x => D.int (x : Nat)) := by simp [Mp.listOf, hat]
    rw [this, Option.bind_some]
    show (if (acc.map fun x => D.int (x : Nat)).length + (x.map fun x => D.int (x : Nat)).length ≤ sizeLine then some (D.lst ((acc.map fun x => D.int (x : Nat)) ++ x.map fun x => D.int (x : Nat)), G) else none) = _
    rw [if_pos (by rw [sz]; simp; omega), ← List.map_append]; rfl
  have hcat : Mp.catM (nsD (acc ++ x)) (nsD y) G = some (.ref G.length, G ++ [.lst ((acc ++ x ++ y).map fun x => .int (x : Nat))]) := by
    show (if ((acc ++ x).map fun x => D.int (x : Nat)).length + (y.map fun x => D.int (x : Nat)).length ≤ sizeLine then some (D.ref G.length, G ++ [.lst (((acc ++ x).map fun x => D.int (x : Nat)) ++ y.map fun x => D.int (x : Nat))]) else none) = _
    rw [if_pos (by rw [sz]; simp; omega), ← List.map_append]
  have hset : (ev cl (E.catM (E.bin Bop.add (E.v 5) (E.ite (E.cmp Cop.eq (E.idx (E.v 1) (E.k (D.int 0))) (E.v 6)) (E.v 3) (E.lst false E.nil))) (E.ite (E.cmp Cop.eq (E.idx (E.v 2) (E.k (D.int 0))) (E.v 6)) (E.v 4) (E.lst false E.nil)))).1 [some (nsD nm), some (eD f), some (eD s), some (nsD one), some (nsD other), some (.ref k), some (.int (i : Nat))] G = some (.ref G.length, G ++ [.lst ((acc ++ x ++ y).map fun x => .int (x : Nat))]) := by
    simp only [ev_catM1, ev_bin1, ite1, ite2, ev_v1, List.getElem?_cons_zero, List.getElem?_cons_succ, Option.bind_some, bnd_s, had, hcat]
  have hlen : ∀ G, lenD (nsD nm) G = some (.int nm.length, G) := by intro G; simp [nsD]
  rw [set_s hset]
  simp only [List.set_cons_succ, List.set_cons_zero]
  have cond : ∀ G2 : Hs, (ev cl (E.and (E.cmp Cop.lt (E.v 6) (E.blt Blt.len (E.cons (E.v 0) E.nil))) (E.and (E.not (E.chain Cop.le Cop.lt (E.idx (E.v 1) (E.k (D.int 0))) (E.v 6) (E.bin Bop.add (E.idx (E.v 1) (E.k (D.int 0))) (E.idx (E.v 1) (E.k (D.int 1)))))) (E.not (E.chain Cop.le Cop.lt (E.idx (E.v 2) (E.k (D.int 0))) (E.v 6) (E.bin Bop.add (E.idx (E.v 2) (E.k (D.int 0))) (E.idx (E.v 2) (E.k (D.int 1)))))))) ).2
      [some (nsD nm), some (eD f), some (eD s), some (nsD one), some (nsD other), some (.ref G.length), some (.int (i : Nat))] G2 = some (decide (i < nm.length) && (!inE f i && !inE s i), G2) := by
    intro G2
    have c1 : (ev cl (E.cmp Cop.lt (E.v 6) (E.blt Blt.len (E.cons (E.v 0) E.nil)))).2 [some (nsD nm), some (eD f), some (eD s), some (nsD one), some (nsD other), some (.ref G.length), some (.int (i : Nat))] G2 = some (decide (i < nm.length), G2) := by
      have e2 : decide ((i : Int) < (nm.length : Int)) = decide (i < nm.length) := by
        rw [Bool.eq_iff_iff]; simp only [decide_eq_true_eq]; omega
      simp only [ev_cmp2, ev_blt1, ev_cons1, ev_v1, ev_nil1, List.getElem?_cons_zero, List.getElem?_cons_succ, Option.bind_some, bnd_s, consK_s, argK_s, blt_len, one_s, hlen, cmpD_s, cmp_ltI, Option.map_some, blB_b, e2]
    rw [ev_and2, c1, bnd_s]
    by_cases q : i < nm.length
    · rw [decide_eq_true q, if_pos rfl, ev_and2, chain_ev (i := i) (e := f) rfl rfl, bnd_s]
      cases inE f i
      · rw [Bool.not_false, if_pos rfl, chain_ev (i := i) (e := s) rfl rfl]; simp
      · simp
    · rw [decide_eq_false q]; simp
  by_cases q : i < nm.length ∧ inE f i = false ∧ inE s i = false
  · have hg : nm[i]? = some nm[i] := List.getElem?_eq_getElem q.1
    have hk : keepL nm f s i = [nm[i]] := by simp [keepL, hg, q.2]
    refine ⟨G.length, [.lst ((acc ++ x ++ y ++ [nm[i]]).map fun x => .int (x : Nat))], by simp, ?_, ?_, Nat.le_refl _⟩
    · rw [seq_ife_tt (by rw [cond, decide_eq_true q.1, q.2.1, q.2.2]; rfl)]
      rw [evS_seq, drop_s (d := .non) (G1 := G ++ [.lst ((acc ++ x ++ y ++ [nm[i]]).map fun x => .int (x : Nat))])]
      · rfl
      · rw [ev_mth1, ev_v1]
        simp only [List.getElem?_cons_succ, List.getElem?_cons_zero, Option.bind_some, bnd_s]
        have ha : ∀ G, idxD (nsD nm) (.int (i : Nat)) G = some (.int (nm[i]'q.1 : Nat), G) := by
          intro G
          simp only [nsD, idx_lst]
          rw [atI_nat (j := i) (v := .int (nm[i]'q.1 : Nat)) (by rw [List.getElem?_map, hg]; rfl)]; rfl
        rw [show Mth.append.ty = .list from rfl, ref_ty at_new, if_pos rfl]
        simp only [ev_cons1, ev_idx1, ev_v1, ev_nil1, List.getElem?_cons_succ, List.getElem?_cons_zero, Option.bind_some, bnd_s, ha, consK_s, argK_s]
        refine (app_new (by simp; omega)).trans ?_
        simp
    · rw [at_new, mstep, hk]; simp [x, y]
  · have hk : keepL nm f s i = [] := by
      unfold keepL
      split
      · rename_i z hz
        have : i < nm.length := (List.getElem?_eq_some_iff.mp hz).1
        rw [if_neg fun h => q ⟨this, h⟩]
      · rfl
    have hb : (decide (i < nm.length) && (!inE f i && !inE s i)) = false := by
      by_cases c1 : i < nm.length
      · cases c2 : inE f i <;> cases c3 : inE s i <;> simp
        exact absurd ⟨c1, c2, c3⟩ q
      · simp [c1]
    refine ⟨G.length, [.lst ((acc ++ x ++ y).map fun x => .int (x : Nat))], by simp, ?_, ?_, Nat.le_refl _⟩
    · rw [seq_ife_ff (by rw [cond, hb])]; rfl
    · rw [at_new, mstep, hk]; simp [x, y]
theorem keepL_len {nm : List Nat} {f s : Ed} {i : Nat} : (keepL nm f s i).length ≤ 1 := by
  unfold keepL
  split
  · split <;> simp
  · simp
theorem mstep_len {nm one other : List Nat} {f s : Ed} {i : Nat} : (mstep nm f s one other i).length ≤ one.length + other.length + 1 := by
  have := @keepL_len nm f s i
  simp only [mstep, List.length_append]
  have h1 : (if f.1 = i then one else []).length ≤ one.length := by split <;> simp
  have h2 : (if s.1 = i then other else []).length ≤ other.length := by split <;> simp
  omega
theorem for_mer {cl : Nat → List D → Hs → Rs} {nm one other : List Nat} {f s : Ed} (ho : one.length ≤ 50) (ho2 : other.length ≤ 50) : ∀ (is : List Nat) (acc : List Nat) (k : Nat) (G : Hs) (o : Option D), G[k]? = some (.lst (acc.map fun x => .int (x : Nat))) → acc.length + 101 * is.length ≤ 900000 →
    ∃ k' l ς', loopF (Tg.nm 6) (evS cl bMer) (is.map fun i : Nat => D.int (0 + (i : Nat) * 1)) [some (nsD nm), some (eD f), some (eD s), some (nsD one), some (nsD other), some (.ref k), o] G = some (.nx ς' (G ++ l)) ∧ ς'[5]? = some (some (.ref k')) ∧
      (G ++ l)[k']? = some (.lst ((acc ++ is.flatMap (mstep nm f s one other)).map fun x => .int (x : Nat))) ∧ (G.length ≤ k' ∨ k' = k)
  | [], acc, k, G, o, h, _ => ⟨k, [], _, by rw [List.append_nil]; rfl, rfl, by rw [List.append_nil, h]; simp, .inr rfl⟩
  | i :: is, acc, k, G, o, h, hl => by
    simp only [List.length_cons] at hl
    obtain ⟨k1, l1, a1, a2, a3, a4⟩ := bMer_ev (cl := cl) (nm := nm) (one := one) (other := other) (acc := acc) (f := f) (s := s) (i := i) h (by omega)
    have hm := @mstep_len nm one other f s i
    obtain ⟨k2, l2, ς', b1, b2, b3, b4⟩ := for_mer (cl := cl) (nm := nm) (f := f) (s := s) ho ho2 is (acc ++ mstep nm f s one other i) k1 (G ++ l1) (some (.int (i : Nat))) a3 (by simp only [List.length_append]; omega)
    refine ⟨k2, l1 ++ l2, ς', ?_, b2, ?_, ?_⟩
    · simp only [List.map_cons, loopF, bindL_nm, Option.bind_some, List.set_cons_succ, List.set_cons_zero]
      rw [show (0 + (i : Nat) * 1 : Int) = (i : Int) by omega, a2, Option.bind_some, ← List.append_assoc]
      exact b1
    · rw [← List.append_assoc, b3]; simp
    · rcases b4 with b4 | b4
      · simp at b4; omega
      · omega
theorem merged_run {m : Nat} (hm : 1 ≤ m) {nm one other : List Nat} {f s : Ed} (hn : nm.length ≤ 5000) (ho : one.length ≤ 50) (ho2 : other.length ≤ 50) : ∃ l, F m 45 [nsD nm, eD f, eD s, nsD one, nsD other] G = some (nsD (mergeF nm f s one other), G ++ l) := by
  obtain ⟨k', l, ς', b1, b2, b3, b4⟩ := for_mer (cl := F (m - 1)) (nm := nm) (one := one) (other := other) (f := f) (s := s) ho ho2 (List.range (nm.length + 1)) [] G.length (G ++ [.lst []]) none (by rw [at_new]; rfl) (by simp; omega)
  have hk : G.length ≤ k' := by
    rcases b4 with b4 | b4
    · simp at b4; omega
    · omega
  refine ⟨(.lst [] :: l).set (k' - G.length) .gone, run_ t45 rfl (by omega) ?_⟩
  show (evS (F (m - 1)) b45 [some (nsD nm), some (eD f), some (eD s), some (nsD one), some (nsD other), none, none] G).bind outD = _
  unfold b45
  have hr : ∀ G, arity 1 rngK [.int ((nm.length : Int) + 1)] G = some (.tup (rgN 0 1 (nm.length + 1)), G) := fun G => rng1_s (q := (0, 1, nm.length + 1)) (by rw [rgA_1, if_pos (by omega), show ((nm.length : Int) + 1).toNat = nm.length + 1 by omega])
  have hlen : ∀ G, lenD (nsD nm) G = some (.int nm.length, G) := by intro G; simp [nsD]
  rw [set_s (d := .ref G.length) (G1 := G ++ [.lst []]) (by simp [sz])]
  simp only [List.set_cons_succ, List.set_cons_zero]
  rw [for_nx (ds := rgN 0 1 (nm.length + 1)) (G1 := G ++ [.lst []]) (by simp [hlen, hr]) b1]
  refine seq_ret ?_
  rw [ev_frz1, b2]
  simp only [Option.bind_some]
  rw [frz_r b3, List.append_assoc, List.set_append_right _ _ hk]
  rfl
end K01
set_option Elab.async false
set_option linter.all false
set_option autoImplicit false
set_option maxRecDepth 100000
set_option maxHeartbeats 1000000
namespace K01
open PySem PySem.Spec L2 Mp
open PyProof.Rows hiding St

/-! ### names -/
theorem mem_pairsOf {nm later : List Nat} (hn : later.Nodup) {k j : Nat} : (k, j) ∈ pairsOf nm later ↔ ∃ x, nm[k]? = some x ∧ later[j]? = some x := by
  unfold pairsOf
  simp only [List.mem_map, List.mem_filter, List.mem_range, Prod.mk.injEq, inL]
  constructor
  · rintro ⟨i, ⟨hi, h⟩, rfl, rfl⟩
    have hg : nm[i]? = some nm[i] := List.getElem?_eq_getElem hi
    rw [hg] at h ⊢
    simp only [decide_eq_true_eq] at h
    refine ⟨nm[i], rfl, ?_⟩
    rw [Option.getD_some, List.getElem?_eq_getElem (List.idxOf_lt_length_iff.mpr h), List.getElem_idxOf]
  · rintro ⟨x, h1, h2⟩
    have hi : k < nm.length := (List.getElem?_eq_some_iff.mp h1).1
    have hx : x ∈ later := List.mem_of_getElem? h2
    refine ⟨k, ⟨hi, by rw [h1]; simpa using hx⟩, rfl, ?_⟩
    rw [h1, Option.getD_some]
    have hl := List.idxOf_lt_length_iff.mpr hx
    exact (List.getElem?_inj hl hn).mp (by rw [h2, List.getElem?_eq_getElem hl, List.getElem_idxOf])
theorem pairsOf_sorted (nm later : List Nat) : (pairsOf nm later).Pairwise fun x y => x.1 < y.1 := by
  unfold pairsOf
  rw [List.pairwise_map]
  exact (List.pairwise_lt_range).filter _
theorem hold_pairs {nm : List Nat} {es : Eds Nat} (hn : nm.Nodup) (hw : WfG nm.length 0 es) (hv : (weave nm 0 es).Nodup) (hd : ∀ e ∈ es, ∀ x ∈ e.2.2, x ∉ nm) : hold nm.length 0 0 es = pairsOf nm (weave nm 0 es) := by
  refine sorted_eq (hold_sorted hw) (pairsOf_sorted _ _) fun ⟨k, j⟩ => ?_
  rw [mem_pairsOf hv]
  constructor
  · intro h
    have hk := hold_mem hw h
    obtain ⟨h1, h2⟩ := hold_at nm hw h
    rw [Nat.sub_zero] at h1
    exact ⟨nm[k], List.getElem?_eq_getElem hk.2.1, by rw [h1]; exact List.getElem?_eq_getElem hk.2.1⟩
  · rintro ⟨x, h1, h2⟩
    have hj := (List.getElem?_eq_some_iff.mp h2).1
    rcases hold_or nm (now := 0) hw hj with ⟨k', h⟩ | ⟨e, he, y, hy, q⟩
    · rw [Nat.zero_add] at h
      obtain ⟨h3, _⟩ := hold_at nm hw h
      rw [Nat.sub_zero, h2] at h3
      have hk := (List.getElem?_eq_some_iff.mp h1).1
      have := (List.getElem?_inj hk hn).mp (h1.trans h3)
      subst this; exact h
    · rw [h2] at q
      injection q with q
      subst q
      exact absurd (List.mem_of_getElem? h1) (hd e he x hy)
theorem hold_name {n : Nat} : ∀ {es : List Ed} {a now k : Nat}, hold n a now (nameEs k es) = hold n a now es
  | [], a, now, k => rfl
  | (p, g, c) :: r, a, now, k => by
    simp only [nameEs, hold, hold_name (es := r)]
    simp [fresh]
theorem wf_name {n : Nat} : ∀ {es : List Ed} {a k : Nat}, Wf n a es → WfG n a (nameEs k es)
  | [], a, k, h => h
  | (p, g, c) :: r, a, k, ⟨h1, h2, h3⟩ => ⟨h1, h2, wf_name h3⟩
theorem fresh_mem {n k x : Nat} : x ∈ fresh n k ↔ n ≤ x ∧ x < n + k := by
  simp only [fresh, List.mem_map, List.mem_range]
  constructor
  · rintro ⟨i, hi, rfl⟩; omega
  · intro h; exact ⟨x - n, by omega, by omega⟩
theorem fresh_nodup (n k : Nat) : (fresh n k).Nodup := by
  unfold fresh List.Nodup
  rw [List.pairwise_map]
  exact List.nodup_range.imp fun h => by omega
theorem name_mem : ∀ {es : List Ed} {n : Nat} {e : Nat × Nat × List Nat}, e ∈ nameEs n es → ∀ x ∈ e.2.2, n ≤ x ∧ x < n + nameTot es
  | (p, g, c) :: r, n, e, he, x, hx => by
    simp only [nameEs, List.mem_cons] at he
    have ht : nameTot ((p, g, c) :: r) = c.length + nameTot r := by simp [nameTot]
    rcases he with rfl | he
    · have := fresh_mem.mp hx; omega
    · have := name_mem he x hx; omega
theorem weave_mem {α : Type} (t : List α) : ∀ {es : Eds α} {a : Nat} {x : α}, WfG t.length a es → x ∈ weave t a es → x ∈ t.drop a ∨ ∃ e ∈ es, x ∈ e.2.2
  | [], a, x, _, h => .inl h
  | (p, g, c) :: r, a, x, ⟨h1, h2, h3⟩, h => by
    simp only [weave, List.append_assoc, List.mem_append] at h
    rcases h with h | h | h
    · exact .inl (List.mem_of_mem_take h)
    · exact .inr ⟨(p, g, c), by simp, h⟩
    · rcases weave_mem t h3 h with h | ⟨e, he, hx⟩
      · refine .inl ?_
        have : t.drop (p + g) = (t.drop a).drop (p + g - a) := by rw [List.drop_drop]; congr 1; omega
        rw [this] at h
        exact List.mem_of_mem_drop h
      · exact .inr ⟨e, by simp [he], hx⟩
theorem weave_nodup {nm : List Nat} (hn : nm.Nodup) : ∀ {es : List Ed} {a n : Nat}, Wf nm.length a es → (∀ x ∈ nm, x < n) → (weave nm a (nameEs n es)).Nodup
  | [], a, n, _, _ => hn.sublist (List.drop_sublist _ _)
  | (p, g, c) :: r, a, n, ⟨h1, h2, h3⟩, hlt => by
    have ih := weave_nodup hn (n := n + c.length) h3 fun x hx => by have := hlt x hx; omega
    simp only [nameEs, weave, List.append_assoc]
    have hs : nm.drop a = (nm.drop a).take (p - a) ++ nm.drop p := by
      conv => lhs; rw [← List.take_append_drop (p - a) (nm.drop a)]
      rw [List.drop_drop, show a + (p - a) = p by omega]
    have hnd : ((nm.drop a).take (p - a) ++ nm.drop p).Nodup := by rw [← hs]; exact hn.sublist (List.drop_sublist _ _)
    rw [List.nodup_append] at hnd ⊢
    have hin : ∀ x ∈ (nm.drop a).take (p - a), x ∈ nm := fun x hx => List.mem_of_mem_drop (List.mem_of_mem_take hx)
    refine ⟨hnd.1, ?_, ?_⟩
    · rw [List.nodup_append]
      refine ⟨fresh_nodup _ _, ih, ?_⟩
      intro x hx y hy e
      subst e
      have h4 := fresh_mem.mp hx
      rcases weave_mem nm (wf_name h3) hy with h5 | ⟨e, he, h5⟩
      · have := hlt x (List.mem_of_mem_drop h5); omega
      · have := name_mem he x h5; omega
    · intro x hx y hy e
      subst e
      have hxl := hlt x (hin x hx)
      rcases List.mem_append.mp hy with hy | hy
      · have := fresh_mem.mp hy; omega
      · rcases weave_mem nm (wf_name h3) hy with h5 | ⟨e, he, h5⟩
        · have h6 : x ∈ nm.drop p := by
            have : nm.drop (p + g) = (nm.drop p).drop g := by rw [List.drop_drop]
            rw [this] at h5
            exact List.mem_of_mem_drop h5
          exact hnd.2.2 x hx x h6 rfl
        · have := name_mem he x h5; omega
theorem weave_lt {nm : List Nat} {es : List Ed} {n : Nat} (hw : Wf nm.length 0 es) (hlt : ∀ x ∈ nm, x < n) : ∀ x ∈ weave nm 0 (nameEs n es), x < n + nameTot es := by
  intro x hx
  rcases weave_mem nm (wf_name hw) hx with h | ⟨e, he, h⟩
  · have := hlt x (List.mem_of_mem_drop h); omega
  · exact (name_mem he x h).2
/-- what the law of rows asks of one turn -/
theorem own_hold {nm : List Nat} {es : List Ed} {n : Nat} (hn : nm.Nodup) (hw : Wf nm.length 0 es) (hlt : ∀ x ∈ nm, x < n) : hold nm.length 0 0 es = pairsOf nm (weave nm 0 (nameEs n es)) := by
  rw [← hold_name (k := n)]
  exact hold_pairs hn (wf_name hw) (weave_nodup hn hw hlt) fun e he x hx hin => by
    have := name_mem he x hx
    have := hlt x hin
    omega
end K01
set_option Elab.async false
set_option linter.all false
set_option autoImplicit false
set_option maxRecDepth 100000
set_option maxHeartbeats 1000000
namespace K01
open PySem PySem.Spec L2 Mp
open PyProof.Rows hiding St

/-! ### one turn of the law of rows, in plain Lean -/
theorem inv_hold (t : List Nat) : ∀ (es : List Ed) (a now : Nat), Wf t.length a es → hold (now + (weave t a es).length) now a (invs t a now es) = (hold t.length a now es).map fun p => (p.2, p.1)
  | [], a, now, h => by
    simp only [invs, hold, weave, List.map_map, List.length_drop]
    rw [show now + (t.length - a) - now = t.length - a by omega]
    apply List.map_congr_left
    intro i _; rfl
  | (p, g, c) :: r, a, now, ⟨h1, h2, h3⟩ => by
    have ih := inv_hold t r (p + g) (now + (p - a) + c.length) h3
    have hl : (weave t a ((p, g, c) :: r)).length = (p - a) + c.length + (weave t (p + g) r).length := by
      simp [weave]; omega
    have hg : ((t.drop p).take g).length = g := by simp; omega
    simp only [invs, hold, List.map_append, List.map_map]
    rw [hl, hg]
    rw [show now + (p - a + c.length + (weave t (p + g) r).length) = now + (p - a) + c.length + (weave t (p + g) r).length by omega]
    rw [show now + (p - a) - now = p - a by omega]
    rw [show a + (p - a) + g = p + g by omega, ih]
    congr 1
theorem invs_len (t : List Nat) : ∀ {es : List Ed} {a now : Nat}, (invs t a now es).length = es.length
  | [], a, now => rfl
  | (p, g, c) :: r, a, now => by simp [invs, invs_len t (es := r)]
theorem Sg.drop {t : List Nat} (h : Sg t) {n : Nat} : Sg (t.drop n) := fun c hc => h c (List.mem_of_mem_drop hc)
theorem Sg.take {t : List Nat} (h : Sg t) {n : Nat} : Sg (t.take n) := fun c hc => h c (List.mem_of_mem_take hc)
theorem Sg.app {a b : List Nat} (h1 : Sg a) (h2 : Sg b) : Sg (a ++ b) := fun c hc => (List.mem_append.mp hc).elim (h1 c) (h2 c)
theorem Sg.weave {t : List Nat} (h : Sg t) : ∀ {es : List Ed} {a : Nat}, (∀ e ∈ es, Sg e.2.2) → Sg (weave t a es)
  | [], a, _ => h.drop
  | (p, g, c) :: r, a, h2 => by
    have ih := h.weave (es := r) (a := p + g) fun e he => h2 e (by simp [he])
    have hc := h2 (p, g, c) (by simp)
    simp only [K01.weave]
    exact ((h.drop.take).app hc).app ih
theorem grow_weave (t : List Nat) : ∀ (es : List Ed) (a : Nat), Wf t.length a es → ((weave t a es).length : Int) = ((t.length - a : Nat) : Int) + grow es
  | [], a, h => by simp [weave, grow]
  | (p, g, c) :: r, a, ⟨h1, h2, h3⟩ => by
    have ih := grow_weave t r (p + g) h3
    have hl : (weave t a ((p, g, c) :: r)).length = (p - a) + c.length + (weave t (p + g) r).length := by simp [weave]; omega
    have hg : grow ((p, g, c) :: r) = ((c.length : Int) - g) + grow r := by simp [grow]
    omega
theorem grow_inv (t : List Nat) : ∀ (es : List Ed) (a now : Nat), Wf t.length a es → grow (invs t a now es) = - grow es
  | [], a, now, h => by simp [invs, grow]
  | (p, g, c) :: r, a, now, ⟨h1, h2, h3⟩ => by
    have ih := grow_inv t r (p + g) (now + (p - a) + c.length) h3
    have hl : ((t.drop p).take g).length = g := by simp; omega
    have h1 : grow (invs t a now ((p, g, c) :: r)) = ((((t.drop p).take g).length : Int) - c.length) + grow (invs t (p + g) (now + (p - a) + c.length) r) := by simp [invs, grow]
    have h2 : grow ((p, g, c) :: r) = ((c.length : Int) - g) + grow r := by simp [grow]
    omega
theorem inv_each (t : List Nat) (ht : Sg t) : ∀ (es : List Ed) (a now : Nat), Wf t.length a es → ∀ e ∈ invs t a now es, now ≤ e.1 ∧ e.1 + e.2.1 ≤ now + (weave t a es).length ∧ Sg e.2.2 ∧ e.2.2.length ≤ t.length
  | [], a, now, h => by simp [invs]
  | (p, g, c) :: r, a, now, ⟨h1, h2, h3⟩ => by
    intro e he
    have hl : (weave t a ((p, g, c) :: r)).length = (p - a) + c.length + (weave t (p + g) r).length := by simp [weave]; omega
    simp only [invs, List.mem_cons] at he
    rcases he with rfl | he
    · refine ⟨by simp, ?_, ht.drop.take, by simp; omega⟩
      rw [hl]; simp; omega
    · obtain ⟨k1, k2, k3, k4⟩ := inv_each t ht r (p + g) (now + (p - a) + c.length) h3 e he
      exact ⟨by omega, by rw [hl]; omega, k3, k4⟩
theorem inv_sep (t : List Nat) : ∀ (es : List Ed) (a now : Nat), Wf t.length a es → Sep es → Sep (invs t a now es)
  | [], a, now, _, _ => trivial
  | [(p, g, c)], a, now, _, _ => trivial
  | (p, g, c) :: (p', g', c') :: r, a, now, ⟨h1, h2, h3⟩, hs => by
    have ih := inv_sep t ((p', g', c') :: r) (p + g) (now + (p - a) + c.length) h3 hs.2
    have h4 : p + g < p' := hs.1
    exact ⟨by show now + (p - a) + c.length < now + (p - a) + c.length + (p' - (p + g)); omega, ih⟩
theorem inv_ok {t : List Nat} {es : List Ed} (h : OkEs t es) (ht : Sg t) (hl : t.length ≤ 2000) : OkEs (weave t 0 es) (invs t 0 0 es) where
  few := by rw [invs_len]; exact h.few
  each e he := by
    obtain ⟨k1, k2, k3, k4⟩ := inv_each t ht es 0 0 h.wf e he
    exact ⟨by omega, k3, by omega⟩
  sep := inv_sep t es 0 0 h.wf h.sep
  size := by
    have h1 := grow_weave t es 0 h.wf
    have h2 := grow_inv t es 0 0 h.wf
    omega
/-! marks -/
theorem movedL_stay_r : ∀ (es : List Ed) (a now x : Nat), (∀ e ∈ es, a ≤ e.1) → Sep es → True → (∀ e ∈ turns a now es, x < e.1) → movedL x false (turns a now es) = x := by
  intro es a now x _ _ _ h
  generalize turns a now es = ts at h
  induction ts with
  | nil => rfl
  | cons e ts ih =>
    have := h e (by simp)
    show movedL (movedN x false e) false ts = x
    rw [show movedN x false e = x by simp [movedN, this]]
    exact ih fun e he => h e (by simp [he])
theorem movedL_stay (left : Bool) (ts : List Ed) (x : Nat) (h : ∀ e ∈ ts, x < e.1 ∨ (left = true ∧ x = e.1)) : movedL x left ts = x := by
  induction ts with
  | nil => rfl
  | cons e ts ih =>
    have h1 := h e (by simp)
    show movedL (movedN x left e) left ts = x
    have : movedN x left e = x := by
      unfold movedN
      rcases h1 with h1 | ⟨rfl, rfl⟩
      · rw [if_pos h1]
      · rw [if_neg (by omega), if_neg (by omega), if_pos rfl]
    rw [this]
    exact ih fun e he => h e (by simp [he])
theorem turns_ge {n : Nat} : ∀ (es : List Ed) (a now : Nat), Wf n a es → ∀ e ∈ turns a now es, now ≤ e.1
  | [], a, now, _ => by simp [turns]
  | (p, g, c) :: r, a, now, ⟨h1, h2, h3⟩ => by
    intro e he
    simp only [turns, List.mem_cons] at he
    rcases he with rfl | he
    · simp
    · have := turns_ge r (p + g) (now + (p - a) + c.length) h3 e he; omega
theorem moved_hold {n : Nat} : ∀ (es : List Ed) (a now k j : Nat), Wf n a es → (k, j) ∈ hold n a now es → movedL (now + (k - a)) false (turns a now es) = j ∧ movedL (now + (k - a) + 1) true (turns a now es) = j + 1
  | [], a, now, k, j, h, hm => by
    simp [hold] at hm
    obtain ⟨i, hi, rfl, rfl⟩ := hm
    simp only [turns, movedL, List.foldl_nil]; omega
  | (p, g, c) :: r, a, now, k, j, ⟨h1, h2, h3⟩, hm => by
    have hge := turns_ge ((p, g, c) :: r) a now ⟨h1, h2, h3⟩
    simp only [hold, List.mem_append, List.mem_map, List.mem_range, Prod.mk.injEq] at hm
    rcases hm with ⟨i, hi, rfl, rfl⟩ | hm
    · have hg2 : ∀ e ∈ turns a now ((p, g, c) :: r), now + (p - a) ≤ e.1 := by
        intro e he
        simp only [turns, List.mem_cons] at he
        rcases he with rfl | he
        · simp
        · have := turns_ge r (p + g) (now + (p - a) + c.length) h3 e he; omega
      constructor
      · rw [movedL_stay false _ _ fun e he => .inl (by have := hg2 e he; omega)]; omega
      · rw [movedL_stay true _ _ fun e he => by have := hg2 e he; by_cases q : now + (a + i - a) + 1 < e.1; · exact .inl q
                                                · exact .inr ⟨rfl, by omega⟩]; omega
    · have hk := hold_mem (wf_wf h3) hm
      obtain ⟨i1, i2⟩ := moved_hold r (p + g) (now + (p - a) + c.length) k j h3 hm
      simp only [turns]
      constructor
      · show movedL (movedN (now + (k - a)) false (now + (p - a), g, c)) false _ = j
        rw [← i1]; congr 1
        unfold movedN
        simp only
        rw [if_neg (by omega)]
        split
        · omega
        · rw [if_neg (by decide)]; omega
      · show movedL (movedN (now + (k - a) + 1) true (now + (p - a), g, c)) true _ = j + 1
        rw [← i2]; congr 1
        unfold movedN
        simp only
        rw [if_neg (by omega), if_pos (by omega)]
        omega
end K01
set_option Elab.async false
set_option linter.all false
set_option autoImplicit false
set_option maxRecDepth 100000
set_option maxHeartbeats 1000000
namespace K01
open PySem PySem.Spec L2 Mp
open PyProof.Rows hiding St

theorem endOf_cons (e f : Ed) (r : List Ed) : endOf (e :: f :: r) = endOf (f :: r) := rfl
theorem weave_end2 (t : List Nat) : ∀ (r : List Ed) (e : Ed) (a : Nat), Wf t.length a (e :: r) → e.1 ≤ endOf (e :: r) ∧ endOf (e :: r) ≤ t.length ∧ ∃ x, weave t a (e :: r) = (t.drop a).take (e.1 - a) ++ x ++ t.drop (endOf (e :: r))
  | [], (p, g, c), a, ⟨w1, w2, w3⟩ => ⟨by simp [endOf], w2, c, by simp [weave, endOf]⟩
  | f :: r, (p, g, c), a, ⟨w1, w2, w3⟩ => by
    obtain ⟨h1, h2, x, h3⟩ := weave_end2 t r f (p + g) w3
    have hf : p + g ≤ f.1 := by obtain ⟨q, h, d⟩ := f; exact w3.1
    refine ⟨by rw [endOf_cons]; show p ≤ _; omega, by rw [endOf_cons]; exact h2, c ++ (t.drop (p + g)).take (f.1 - (p + g)) ++ x, ?_⟩
    rw [endOf_cons]
    show (t.drop a).take (p - a) ++ c ++ weave t (p + g) (f :: r) = _
    rw [h3]; simp
theorem hold_end {n : Nat} (t : List Nat) (hn : t.length = n) : ∀ (es : List Ed) (a now k : Nat), Wf n a es → endOf es ≤ k → a ≤ k → k < n → (k, now + (weave t a es).length - (n - k)) ∈ hold n a now es
  | [], a, now, k, h, _, h2, h3 => by
    simp [hold, weave, hn]
    exact ⟨k - a, by omega, by omega, by omega⟩
  | [(p, g, c)], a, now, k, ⟨w1, w2, w3⟩, h1, h2, h3 => by
    have h1 : p + g ≤ k := h1
    simp only [hold, List.mem_append]
    refine .inr ?_
    have := hold_end t hn [] (p + g) (now + (p - a) + c.length) k w3 (by simp [endOf]) h1 h3
    have hl : (weave t a [(p, g, c)]).length = (p - a) + c.length + (weave t (p + g) []).length := by simp [weave]; omega
    rw [hl]
    simp only [hold] at this
    rwa [show now + (p - a + c.length + (weave t (p + g) []).length) = now + (p - a) + c.length + (weave t (p + g) []).length by omega]
  | (p, g, c) :: f :: r, a, now, k, ⟨w1, w2, w3⟩, h1, h2, h3 => by
    rw [endOf_cons] at h1
    have hf := weave_end t (f :: r) (p + g) (by simp) (hn ▸ w3)
    have := hold_end t hn (f :: r) (p + g) (now + (p - a) + c.length) k w3 h1 (by omega) h3
    have hl : (weave t a ((p, g, c) :: f :: r)).length = (p - a) + c.length + (weave t (p + g) (f :: r)).length := by
      show ((t.drop a).take (p - a) ++ c ++ weave t (p + g) (f :: r)).length = _
      simp; omega
    show _ ∈ _ ++ hold n (p + g) (now + (p - a) + c.length) (f :: r)
    rw [List.mem_append, hl]
    refine .inr ?_
    rwa [show now + (p - a + c.length + (weave t (p + g) (f :: r)).length) = now + (p - a) + c.length + (weave t (p + g) (f :: r)).length by omega]
theorem one_ok {t : List Nat} {es : List Ed} (h : OkEs t es) (ht : Sg t) (hl : t.length ≤ 2000) :
    okEd t (oneFor t es) ∧ putE t (oneFor t es) = weave t 0 es ∧ ∀ p ∈ hold t.length 0 0 [oneFor t es], p ∈ hold t.length 0 0 es := by
  have hwl := grow_weave t es 0 h.wf
  have hsz := h.size
  have hL : (weave t 0 es).length ≤ 2000 := by omega
  have hSg : Sg (weave t 0 es) := ht.weave fun e he => (h.each e he).2.1
  cases es with
  | nil =>
    refine ⟨⟨by simp [oneFor], by intro c hc; simp [oneFor] at hc, by simp [oneFor]; omega, by simp [oneFor]⟩, by simp [oneFor, putE, put, weave], ?_⟩
    intro p hp
    simpa [oneFor, hold] using hp
  | cons e r =>
    obtain ⟨k1, k2, x, k3⟩ := weave_end2 t r e 0 h.wf
    have hend := fun k => hold_end t rfl (e :: r) 0 0 k h.wf
    have hbeg : ∀ i, i < e.1 → (i, i) ∈ hold t.length 0 0 (e :: r) := by
      intro i hi
      obtain ⟨p, g, c⟩ := e
      simp only [hold, List.mem_append, List.mem_map, List.mem_range]
      exact .inl ⟨i, by simpa using hi, by simp⟩
    have hxl : (weave t 0 (e :: r)).length = e.1 + x.length + (t.length - endOf (e :: r)) := by rw [k3]; simp; omega
    have hcome : ((weave t 0 (e :: r)).drop e.1).take ((weave t 0 (e :: r)).length - (t.length - endOf (e :: r)) - e.1) = x := by
      rw [hxl, k3]
      have l0 : ((t.drop 0).take (e.1 - 0)).length = e.1 := by simp; omega
      rw [List.append_assoc, List.drop_append, List.drop_of_length_le (l := (t.drop 0).take (e.1 - 0)) (by omega), l0, Nat.sub_self, List.nil_append, List.drop_zero (l := x ++ _)]
      rw [show e.1 + x.length + (t.length - endOf (e :: r)) - (t.length - endOf (e :: r)) - e.1 = x.length by omega]
      simp
    have hone : oneFor t (e :: r) = (e.1, endOf (e :: r) - e.1, x) := by simp only [oneFor, hcome]
    rw [hone]
    have hSx : Sg x := by
      rw [k3] at hSg
      intro c hc
      exact hSg c (by simp [hc])
    refine ⟨⟨by show e.1 + (endOf (e :: r) - e.1) ≤ _; omega, hSx, by show t.length - (endOf (e :: r) - e.1) + x.length ≤ 2000; omega, by show x.length ≤ 2000; omega⟩, ?_, ?_⟩
    · show t.take e.1 ++ x ++ t.drop (e.1 + (endOf (e :: r) - e.1)) = _
      rw [k3, show e.1 + (endOf (e :: r) - e.1) = endOf (e :: r) by omega]; simp
    · intro p hp
      simp only [hold, List.mem_append, List.mem_map, List.mem_range] at hp
      rcases hp with ⟨i, hi, rfl⟩ | ⟨i, hi, rfl⟩
      · rw [Nat.zero_add]; exact hbeg i (by omega)
      · have := hend (e.1 + (endOf (e :: r) - e.1) + i) (by omega) (by omega) (by omega)
        rw [hxl] at this
        have e2 : 0 + (e.1 + x.length + (t.length - endOf (e :: r))) - (t.length - (e.1 + (endOf (e :: r) - e.1) + i)) = 0 + (e.1 - 0) + x.length + i := by omega
        rw [e2] at this
        exact this
end K01
set_option Elab.async false
set_option linter.all false
set_option autoImplicit false
set_option maxRecDepth 100000
set_option maxHeartbeats 1000000
namespace K01
open PySem PySem.Spec L2 Mp
open PyProof.Rows hiding St

/-! ### edits applied in turn -/
def comeTot (es : List Ed) : Nat := (es.map fun e => e.2.2.length).sum
/-- every step is an edit of what it finds -/
def okSteps : List Nat → List Ed → Prop
  | _, [] => True
  | t, e :: r => okEd t e ∧ t.length ≤ 5000 ∧ okSteps (putE t e) r
theorem turns_steps (t : List Nat) (ht : t.length ≤ 2000) : ∀ (es : List Ed) (a : Nat) (pre : List Nat), Wf t.length a es → (∀ e ∈ es, Sg e.2.2) → pre.length + (t.length - a) + comeTot es ≤ 2000 →
    okSteps (pre ++ t.drop a) (turns a pre.length es) ∧ (turns a pre.length es).foldl putE (pre ++ t.drop a) = pre ++ weave t a es
  | [], a, pre, _, _, _ => ⟨trivial, by simp [turns, weave]⟩
  | (p, g, c) :: r, a, pre, ⟨h1, h2, h3⟩, hs, hb => by
    have hct : comeTot ((p, g, c) :: r) = c.length + comeTot r := by simp [comeTot]
    have e1 : putE (pre ++ t.drop a) (pre.length + (p - a), g, c) = (pre ++ (t.drop a).take (p - a) ++ c) ++ t.drop (p + g) := by
      unfold putE put
      have l : (t.drop a).length = t.length - a := by simp
      simp only
      rw [List.take_append, List.drop_append, List.take_of_length_le (l := pre) (by omega), List.drop_of_length_le (l := pre) (by omega), List.drop_drop]
      have x1 : pre.length + (p - a) - pre.length = p - a := by omega
      have x2 : a + (pre.length + (p - a) + g - pre.length) = p + g := by omega
      rw [x1, x2]
      simp
    have e2 : (pre ++ (t.drop a).take (p - a) ++ c).length = pre.length + (p - a) + c.length := by simp; omega
    have ih := turns_steps t ht r (p + g) (pre ++ (t.drop a).take (p - a) ++ c) h3 (fun e he => hs e (by simp [he])) (by omega)
    rw [e2] at ih
    have hlen : (pre ++ t.drop a).length = pre.length + (t.length - a) := by simp
    simp only [turns]
    refine ⟨⟨⟨by show pre.length + (p - a) + g ≤ _; omega, hs (p, g, c) (by simp), by show (pre ++ t.drop a).length - g + c.length ≤ 2000; omega, by show c.length ≤ 2000; omega⟩, by omega, ?_⟩, ?_⟩
    · rw [e1]; exact ih.1
    · rw [List.foldl_cons, e1, ih.2]; simp [weave]
/-! ### composition of what is held -/
/-- both places rise -/
def Rise (ps : List (Nat × Nat)) : Prop := ps.Pairwise fun x y => x.1 < y.1 ∧ x.2 < y.2
theorem hold_rise {α : Type} {n : Nat} : ∀ {es : Eds α} {a now : Nat}, WfG n a es → Rise (hold n a now es)
  | [], a, now, h => by
    unfold Rise hold
    rw [List.pairwise_map]
    exact (List.pairwise_lt_range).imp fun h => by constructor <;> (show _ + _ < _ + _; omega)
  | (p, g, c) :: r, a, now, ⟨h1, h2, h3⟩ => by
    unfold Rise
    simp only [hold]
    rw [List.pairwise_append]
    refine ⟨?_, hold_rise h3, fun x hx y hy => ?_⟩
    · rw [List.pairwise_map]
      exact (List.pairwise_lt_range).imp fun h => by constructor <;> (show _ + _ < _ + _; omega)
    · simp only [List.mem_map, List.mem_range] at hx
      obtain ⟨i, hi, rfl⟩ := hx
      have := hold_mem (k := y.1) (j := y.2) h3 hy
      constructor
      · show a + i < y.1; omega
      · show now + i < y.2; omega
theorem lookP_of {ps : List (Nat × Nat)} (h : Rise ps) {k j : Nat} : lookP ps k = some j ↔ (k, j) ∈ ps := by
  unfold lookP
  induction ps with
  | nil => simp
  | cons p ps ih =>
    have h := List.pairwise_cons.mp h
    rw [List.find?_cons]
    by_cases e : p.1 = k
    · have eb : (p.1 == k) = true := by simp [e]
      rw [eb]
      simp only [Option.map_some, Option.some.injEq, List.mem_cons]
      constructor
      · rintro rfl; left; rw [← e]
      · rintro (q | q)
        · rw [← q]
        · have := (h.1 _ q).1; simp only at this; omega
    · have eb : (p.1 == k) = false := by simp [e]
      rw [eb]
      simp only [List.mem_cons]
      rw [ih h.2]
      constructor
      · exact .inr
      · rintro (q | q)
        · rw [← q] at e; exact absurd rfl e
        · exact q
theorem mem_behindP {one other : List (Nat × Nat)} (h : Rise other) {k j : Nat} : (k, j) ∈ behindP one other ↔ ∃ m, (k, m) ∈ one ∧ (m, j) ∈ other := by
  unfold behindP
  simp only [List.mem_map, List.mem_filter, Prod.mk.injEq, Prod.exists]
  constructor
  · rintro ⟨a, b, ⟨h1, h2⟩, rfl, rfl⟩
    obtain ⟨v, hv⟩ := Option.isSome_iff_exists.mp h2
    refine ⟨b, h1, ?_⟩
    rw [hv]
    exact (lookP_of h).mp hv
  · rintro ⟨m, h1, h2⟩
    have := (lookP_of h).mpr h2
    exact ⟨k, m, ⟨h1, by rw [this]; rfl⟩, rfl, by rw [this]; rfl⟩
theorem rise_lt : ∀ {ps : List (Nat × Nat)}, Rise ps → ∀ {p q : Nat × Nat}, p ∈ ps → q ∈ ps → p.1 < q.1 → p.2 < q.2
  | a :: ps, h, p, q, hp, hq, hlt => by
    have h := List.pairwise_cons.mp h
    rcases List.mem_cons.mp hp with e1 | hp1
    · rcases List.mem_cons.mp hq with e2 | hq1
      · rw [e1, e2] at hlt; omega
      · rw [e1]; exact (h.1 q hq1).2
    · rcases List.mem_cons.mp hq with e2 | hq1
      · have := (h.1 p hp1).1; rw [e2] at hlt; omega
      · exact rise_lt h.2 hp1 hq1 hlt
theorem behindP_rise {one other : List (Nat × Nat)} (h1 : Rise one) (h : Rise other) : Rise (behindP one other) := by
  unfold behindP Rise
  rw [List.pairwise_map]
  have h2 : (one.filter fun p => (lookP other p.2).isSome).Pairwise fun x y => (x.1 < y.1 ∧ x.2 < y.2) ∧ (lookP other x.2).isSome ∧ (lookP other y.2).isSome := by
    have := List.Pairwise.and (List.Pairwise.filter (fun p : Nat × Nat => (lookP other p.2).isSome) h1) (List.pairwise_of_forall_mem_list (l := one.filter fun p => (lookP other p.2).isSome) (r := fun x y => (lookP other x.2).isSome ∧ (lookP other y.2).isSome) fun a ha b hb => ⟨(List.mem_filter.mp ha).2, (List.mem_filter.mp hb).2⟩)
    exact this
  refine h2.imp fun {x y} ⟨⟨a1, a2⟩, a3, a4⟩ => ⟨a1, ?_⟩
  obtain ⟨u, hu⟩ := Option.isSome_iff_exists.mp a3
  obtain ⟨v, hv⟩ := Option.isSome_iff_exists.mp a4
  rw [hu, hv]
  have q1 := (lookP_of h).mp hu
  have q2 := (lookP_of h).mp hv
  exact rise_lt h (p := (x.2, u)) (q := (y.2, v)) q1 q2 a2
end K01
set_option Elab.async false
set_option linter.all false
set_option autoImplicit false
set_option maxRecDepth 100000
set_option maxHeartbeats 1000000
namespace K01
open PySem PySem.Spec L2 Mp
open PyProof.Rows hiding St

/-! ### the distance and common sublists -/
theorem dist_sub : ∀ (n : Nat) (a b w : List Nat), a.length + b.length ≤ n → w.Sublist a → w.Sublist b → dist a b + 2 * w.length ≤ a.length + b.length := by
  intro n
  induction n with
  | zero =>
    intro a b w hn h1 h2
    have := h1.length_le; have := h2.length_le
    have hd := dist_le _ a b (Nat.le_refl _)
    omega
  | succ n ih =>
    intro a b w hn h1 h2
    cases a with
    | nil =>
      have := h1.length_le
      rw [dist_nil]; simp at this ⊢; subst this; simp
    | cons x a => cases b with
      | nil =>
        have := h2.length_le
        rw [dist_nil2]; simp at this ⊢; subst this; simp
      | cons y b =>
        simp only [List.length_cons] at hn ⊢
        rw [dist_cons]
        cases w with
        | nil =>
          split
          · have := dist_le _ a b (Nat.le_refl _); simp; omega
          · have := dist_le _ a (y :: b) (Nat.le_refl _)
            simp only [List.length_cons] at this
            simp; omega
        | cons z w =>
          split
          · have := ih a b w (by omega) (by simpa using h1.tail) (by simpa using h2.tail)
            simp only [List.length_cons]; omega
          · rename_i hne
            by_cases hz : z = x
            · have hzy : z ≠ y := fun e => hne (e.symm.trans hz)
              have h3 : (z :: w).Sublist b := by
                cases h2 with
                | cons _ h => exact h
                | cons_cons _ h => exact absurd rfl hzy
              have := ih (x :: a) b (z :: w) (by simp; omega) h1 h3
              simp only [List.length_cons] at this ⊢
              omega
            · have h3 : (z :: w).Sublist a := by
                cases h1 with
                | cons _ h => exact h
                | cons_cons _ h => exact absurd rfl hz
              have := ih a (y :: b) (z :: w) (by simp; omega) h3 h2
              simp only [List.length_cons] at this ⊢
              omega
/-- an equal head taken off -/
theorem sub_drop : ∀ (k : Nat) (a b w : List Nat), a.take k = b.take k → k ≤ a.length → k ≤ b.length → w.Sublist a → w.Sublist b → ∃ w' : List Nat, w'.Sublist (a.drop k) ∧ w'.Sublist (b.drop k) ∧ w.length ≤ w'.length + k
  | 0, a, b, w, _, _, _, h1, h2 => ⟨w, by simpa using h1, by simpa using h2, by omega⟩
  | k + 1, [], b, w, _, h, _, _, _ => by simp at h
  | k + 1, x :: a, [], w, _, _, h, _, _ => by simp at h
  | k + 1, x :: a, y :: b, w, e, ha, hb, h1, h2 => by
    simp only [List.take_succ_cons, List.cons.injEq] at e
    simp only [List.length_cons] at ha hb
    obtain ⟨w', q1, q2, q3⟩ := sub_drop k a b w.tail e.2 (by omega) (by omega) (by simpa using h1.tail) (by simpa using h2.tail)
    refine ⟨w', by simpa using q1, by simpa using q2, ?_⟩
    rw [List.length_tail] at q3
    omega
theorem sub_mid {a b w : List Nat} {k l : Nat} (h1 : k + l ≤ a.length) (h2 : k + l ≤ b.length) (e1 : a.take k = b.take k) (e2 : a.drop (a.length - l) = b.drop (b.length - l)) (w1 : w.Sublist a) (w2 : w.Sublist b) :
    dist ((a.drop k).take (a.length - k - l)) ((b.drop k).take (b.length - l - k)) + 2 * w.length ≤ a.length + b.length := by
  obtain ⟨u, u1, u2, u3⟩ := sub_drop k a b w e1 (by omega) (by omega) w1 w2
  have ea : (a.drop k).reverse.take l = (b.drop k).reverse.take l := by
    have r1 : (a.drop k).reverse.take l = (a.drop (a.length - l)).reverse := by
      rw [List.take_reverse, List.drop_drop, List.length_drop]; congr 2; omega
    have r2 : (b.drop k).reverse.take l = (b.drop (b.length - l)).reverse := by
      rw [List.take_reverse, List.drop_drop, List.length_drop]; congr 2; omega
    rw [r1, r2, e2]
  obtain ⟨v, v1, v2, v3⟩ := sub_drop l (a.drop k).reverse (b.drop k).reverse u.reverse ea (by simp; omega) (by simp; omega) (List.reverse_sublist.mpr u1) (List.reverse_sublist.mpr u2)
  have q1 : v.reverse.Sublist ((a.drop k).take (a.length - k - l)) := by
    have := List.reverse_sublist.mpr v1
    rw [List.drop_reverse, List.reverse_reverse, List.length_drop] at this
    exact this
  have q2 : v.reverse.Sublist ((b.drop k).take (b.length - l - k)) := by
    have := List.reverse_sublist.mpr v2
    rw [List.drop_reverse, List.reverse_reverse, List.length_drop] at this
    rwa [show b.length - l - k = b.length - k - l by omega]
  have := dist_sub _ _ _ v.reverse (Nat.le_refl _) q1 q2
  have la : ((a.drop k).take (a.length - k - l)).length = a.length - k - l := by simp
  have lb : ((b.drop k).take (b.length - l - k)).length = b.length - l - k := by simp; omega
  rw [la, lb, List.length_reverse] at this
  rw [List.length_reverse] at v3
  omega
/-- rising places pick a sublist -/
theorem pick_sub {α : Type} (xs : List α) : ∀ (is : List Nat) (a : Nat) (ys : List α), (∀ i ∈ is, a ≤ i) → is.Pairwise (· < ·) → is.map (fun i => xs[i]?) = ys.map some → ys.Sublist (xs.drop a)
  | [], a, [], _, _, _ => List.nil_sublist _
  | [], a, y :: ys, _, _, h => by simp at h
  | i :: is, a, [], _, _, h => by simp at h
  | i :: is, a, y :: ys, ha, hp, h => by
    simp only [List.map_cons, List.cons.injEq] at h
    have hp := List.pairwise_cons.mp hp
    obtain ⟨hl, hy⟩ := List.getElem?_eq_some_iff.mp h.1
    have hs := pick_sub xs is (i + 1) ys (fun j hj => hp.1 j hj) hp.2 h.2
    have e : xs.drop i = y :: xs.drop (i + 1) := by rw [List.drop_eq_getElem_cons hl, hy]
    have h3 : (y :: ys).Sublist (xs.drop i) := by rw [e]; exact hs.cons_cons y
    have hai := ha i (by simp)
    have e2 : xs.drop i = (xs.drop a).drop (i - a) := by rw [List.drop_drop]; congr 1; omega
    rw [e2] at h3
    exact h3.trans (List.drop_sublist _ _)
/-- pairs of equal signs that rise at both places: a common sublist -/
theorem rise_common {a b : List Nat} {ps : List (Nat × Nat)} (h : Rise ps) (e : ∀ p ∈ ps, a[p.1]? = b[p.2]? ∧ p.1 < a.length) : ∃ w : List Nat, w.length = ps.length ∧ w.Sublist a ∧ w.Sublist b := by
  refine ⟨ps.map fun p => a[p.1]?.getD 0, by simp, ?_, ?_⟩
  · refine pick_sub a (ps.map (·.1)) 0 _ (fun _ _ => Nat.zero_le _) ?_ ?_
    · rw [List.pairwise_map]; exact h.imp fun h => h.1
    · rw [List.map_map, List.map_map]
      apply List.map_congr_left
      intro p hp
      have := (e p hp).2
      simp [this]
  · refine pick_sub b (ps.map (·.2)) 0 _ (fun _ _ => Nat.zero_le _) ?_ ?_
    · rw [List.pairwise_map]; exact h.imp fun h => h.2
    · rw [List.map_map, List.map_map]
      apply List.map_congr_left
      intro p hp
      obtain ⟨e1, e2⟩ := e p hp
      simp only [Function.comp]
      rw [← e1]
      simp [e2]
end K01
set_option Elab.async false
set_option linter.all false
set_option autoImplicit false
set_option maxRecDepth 100000
set_option maxHeartbeats 1000000
namespace K01
open PySem PySem.Spec L2 Mp
open PyProof.Rows hiding St

theorem nodup_le : ∀ {xs ys : List Nat}, xs.Nodup → (∀ x ∈ xs, x ∈ ys) → xs.length ≤ ys.length
  | [], ys, _, _ => Nat.zero_le _
  | x :: xs, ys, h, hs => by
    have h := List.nodup_cons.mp h
    obtain ⟨l, r, rfl⟩ := List.append_of_mem (hs x (by simp))
    have := nodup_le (ys := l ++ r) h.2 fun y hy => by
      have h1 := hs y (by simp [hy])
      have hne : y ≠ x := fun e => h.1 (e ▸ hy)
      simp only [List.mem_append, List.mem_cons] at h1 ⊢
      rcases h1 with h1 | h1 | h1
      · exact .inl h1
      · exact absurd h1 hne
      · exact .inr h1
    simp only [List.length_append, List.length_cons] at this ⊢
    omega
def goneTot (es : List Ed) : Nat := (es.map fun e => e.2.1).sum
theorem hold_len {n : Nat} : ∀ {es : List Ed} {a now : Nat}, Wf n a es → (hold n a now es).length + goneTot es = n - a
  | [], a, now, h => by simp [hold, goneTot]
  | (p, g, c) :: r, a, now, ⟨h1, h2, h3⟩ => by
    have := hold_len (now := now + (p - a) + c.length) h3
    have hg : goneTot ((p, g, c) :: r) = g + goneTot r := by simp [goneTot]
    have := (wf_wf h3).le
    simp only [hold, List.length_append, List.length_map, List.length_range]
    omega
theorem len_split {α : Type} (p : α → Bool) : ∀ xs : List α, xs.length = (xs.filter p).length + (xs.filter fun x => !p x).length
  | [] => rfl
  | x :: xs => by
    have := len_split p xs
    cases h : p x <;> simp [List.filter_cons, h] <;> omega
theorem behindP_len {one other : List (Nat × Nat)} {n : Nat} (h1 : Rise one) (h2 : Rise other) (hn : ∀ p ∈ one, p.2 < n) (ho : ∀ p ∈ other, p.1 < n) : one.length + other.length ≤ (behindP one other).length + n := by
  have hb : (behindP one other).length = (one.filter fun p => (lookP other p.2).isSome).length := by simp [behindP]
  have hsplit : one.length = (one.filter fun p => (lookP other p.2).isSome).length + (one.filter fun p => !(lookP other p.2).isSome).length := by
    exact len_split _ one
  let xs := ((one.filter fun p => !(lookP other p.2).isSome).map (·.2)) ++ other.map (·.1)
  have hx : xs.Nodup := by
    refine List.nodup_append.mpr ?_
    refine ⟨?_, ?_, ?_⟩
    · unfold List.Nodup
      rw [List.pairwise_map]
      exact (List.Pairwise.filter _ h1).imp fun h => by have := h.2; omega
    · unfold List.Nodup
      rw [List.pairwise_map]
      exact h2.imp fun h => by have := h.1; omega
    · intro x hx y hy e
      subst e
      obtain ⟨p, hp, rfl⟩ := List.mem_map.mp hx
      obtain ⟨q, hq, e⟩ := List.mem_map.mp hy
      have hp := (List.mem_filter.mp hp).2
      have : lookP other p.2 = some q.2 := (lookP_of h2).mpr (by rw [← e]; exact hq)
      rw [this] at hp
      cases hp
  have := nodup_le (ys := List.range n) hx (by
    intro x hx
    rw [List.mem_range]
    rcases List.mem_append.mp hx with hx | hx
    · obtain ⟨p, hp, rfl⟩ := List.mem_map.mp hx
      exact hn p (List.mem_filter.mp hp).1
    · obtain ⟨q, hq, rfl⟩ := List.mem_map.mp hx
      exact ho q hq)
  simp only [xs, List.length_append, List.length_map, List.length_range] at this
  omega
theorem pairs_rise_of {nm later : List Nat} {ps : List (Nat × Nat)} (hl : later.Nodup) (h : Rise ps) (hm : ∀ k j, (k, j) ∈ ps ↔ ∃ x, nm[k]? = some x ∧ later[j]? = some x) : ps = pairsOf nm later :=
  sorted_eq (h.imp fun h => h.1) (pairsOf_sorted _ _) fun ⟨k, j⟩ => by rw [hm, mem_pairsOf hl]
end K01
set_option Elab.async false
set_option linter.all false
set_option autoImplicit false
set_option maxRecDepth 100000
set_option maxHeartbeats 1000000
namespace K01
open PySem PySem.Spec L2 Mp
open PyProof.Rows hiding St

/-! ### what merging gives -/
def segL (nm : List Nat) (f s : Ed) (a n : Nat) : List Nat := (List.range' a n).flatMap (keepL nm f s)
theorem segL_add (nm : List Nat) (f s : Ed) (a m n : Nat) : segL nm f s a (m + n) = segL nm f s a m ++ segL nm f s (a + m) n := by
  unfold segL
  have := List.range'_append (s := a) (m := m) (n := n) (step := 1)
  rw [Nat.one_mul] at this
  rw [← List.flatMap_append, this]
theorem segL_keep {nm : List Nat} {f s : Ed} : ∀ {n a : Nat}, (∀ i, a ≤ i → i < a + n → inE f i = false ∧ inE s i = false) → segL nm f s a n = (nm.drop a).take n
  | 0, a, _ => by simp [segL]
  | n + 1, a, h => by
    have ih := segL_keep (nm := nm) (n := n) (a := a + 1) fun i h1 h2 => h i (by omega) (by omega)
    have h0 := h a (Nat.le_refl _) (by omega)
    have e : segL nm f s a (n + 1) = keepL nm f s a ++ segL nm f s (a + 1) n := by
      simp [segL, List.range'_succ]
    rw [e, ih]
    by_cases hl : a < nm.length
    · have hg : nm[a]? = some nm[a] := List.getElem?_eq_getElem hl
      have hk : keepL nm f s a = [nm[a]] := by simp [keepL, hg, h0]
      rw [hk, List.drop_eq_getElem_cons (i := a) hl]; rfl
    · have hg : nm[a]? = none := List.getElem?_eq_none (by omega)
      have hk : keepL nm f s a = [] := by simp [keepL, hg]
      rw [hk, List.drop_of_length_le (by omega), List.drop_of_length_le (by omega)]; simp
theorem segL_gone {nm : List Nat} {f s : Ed} {n a : Nat} (h : ∀ i, a ≤ i → i < a + n → inE f i = true ∨ inE s i = true) : segL nm f s a n = [] := by
  unfold segL
  rw [List.flatMap_eq_nil_iff]
  intro i hi
  rw [List.mem_range'_1] at hi
  unfold keepL
  split
  · rw [if_neg]
    rcases h i hi.1 hi.2 with q | q
    · rw [q]; simp
    · rw [q]; simp
  · rfl
theorem fm_step {nm : List Nat} {f s : Ed} {one other : List Nat} : ∀ {n a : Nat}, (∀ i, a ≤ i → i < a + n → f.1 ≠ i ∧ s.1 ≠ i) → (List.range' a n).flatMap (mstep nm f s one other) = segL nm f s a n := by
  intro n a h
  unfold segL
  unfold List.flatMap
  congr 1
  apply List.map_congr_left
  intro i hi
  rw [List.mem_range'_1] at hi
  obtain ⟨h1, h2⟩ := h i hi.1 hi.2
  simp [mstep, h1, h2]
theorem segL_one (nm : List Nat) (f s : Ed) (a n : Nat) : keepL nm f s a ++ segL nm f s (a + 1) n = segL nm f s a (n + 1) := by
  simp [segL, List.range'_succ]
theorem segL_mid {nm : List Nat} {f s : Ed} (h1 : f.1 < s.1) : segL nm f s f.1 (s.1 - f.1) = (nm.drop (f.1 + f.2.1)).take (s.1 - (f.1 + f.2.1)) := by
  by_cases h : f.1 + f.2.1 ≤ s.1
  · have e : s.1 - f.1 = f.2.1 + (s.1 - (f.1 + f.2.1)) := by omega
    rw [e, segL_add, segL_gone (fun i a b => .inl (by simp [inE]; omega)), segL_keep (fun i a b => by simp [inE]; omega), List.nil_append]
  · rw [segL_gone (fun i a b => .inl (by simp [inE]; omega)), show s.1 - (f.1 + f.2.1) = 0 by omega]; simp
theorem segL_tail {nm : List Nat} {f s : Ed} {p : Nat} (h1 : f.1 ≤ p) (h2 : s.1 ≤ p) (hp : p = f.1 ∨ p = s.1) (hf : f.1 + f.2.1 ≤ nm.length) (hs : s.1 + s.2.1 ≤ nm.length) : segL nm f s p (nm.length + 1 - p) = nm.drop (max (f.1 + f.2.1) (s.1 + s.2.1)) := by
  have e : nm.length + 1 - p = (max (f.1 + f.2.1) (s.1 + s.2.1) - p) + (nm.length + 1 - max (f.1 + f.2.1) (s.1 + s.2.1)) := by omega
  rw [e, segL_add, segL_gone (fun i a b => by simp [inE]; omega), List.nil_append, show p + (max (f.1 + f.2.1) (s.1 + s.2.1) - p) = max (f.1 + f.2.1) (s.1 + s.2.1) by omega, segL_keep (fun i a b => by simp [inE]; omega)]
  rw [List.take_of_length_le (by simp; omega)]
theorem merge_lt {nm : List Nat} {f s : Ed} {one other : List Nat} (h1 : f.1 < s.1) (hf : f.1 + f.2.1 ≤ nm.length) (hs : s.1 + s.2.1 ≤ nm.length) :
    mergeF nm f s one other = nm.take f.1 ++ one ++ (nm.drop (f.1 + f.2.1)).take (s.1 - (f.1 + f.2.1)) ++ other ++ nm.drop (max (f.1 + f.2.1) (s.1 + s.2.1)) := by
  unfold mergeF
  rw [List.range_eq_range']
  have r1 : nm.length + 1 = f.1 + (1 + ((s.1 - f.1 - 1) + (1 + (nm.length - s.1)))) := by omega
  have ra : ∀ a m n, List.range' a (m + n) = List.range' a m ++ List.range' (a + m) n := fun a m n => by
    have := List.range'_append (s := a) (m := m) (n := n) (step := 1)
    rw [Nat.one_mul] at this; exact this.symm
  rw [r1, ra, ra, ra, ra]
  simp only [List.flatMap_append, Nat.zero_add]
  have m1 : (List.range' f.1 1).flatMap (mstep nm f s one other) = one ++ keepL nm f s f.1 := by
    simp [mstep, show s.1 ≠ f.1 by omega]
  have m2 : (List.range' (f.1 + 1 + (s.1 - f.1 - 1)) 1).flatMap (mstep nm f s one other) = other ++ keepL nm f s s.1 := by
    rw [show f.1 + 1 + (s.1 - f.1 - 1) = s.1 by omega]
    simp [mstep, show f.1 ≠ s.1 by omega]
  rw [m1, m2, fm_step (fun i a b => by omega), fm_step (fun i a b => by omega), fm_step (fun i a b => by omega), segL_keep (a := 0) (fun i a b => by simp [inE]; omega)]
  have t1 := segL_one nm f s f.1 (s.1 - f.1 - 1)
  have t2 := segL_one nm f s s.1 (nm.length - s.1)
  rw [show s.1 - f.1 - 1 + 1 = s.1 - f.1 by omega, segL_mid h1] at t1
  rw [show nm.length - s.1 + 1 = nm.length + 1 - s.1 by omega, segL_tail (by omega) (Nat.le_refl _) (.inr rfl) hf hs] at t2
  rw [show f.1 + 1 + (s.1 - f.1 - 1) + 1 = s.1 + 1 by omega]
  rw [← t1, ← t2]
  simp
theorem keepL_comm (nm : List Nat) (f s : Ed) (i : Nat) : keepL nm f s i = keepL nm s f i := by
  unfold keepL
  split
  · simp only [and_comm]
  · rfl
/-- with the other one's behind -/
theorem merge_gt {nm : List Nat} {f s : Ed} {one other : List Nat} (h1 : s.1 < f.1) (hf : f.1 + f.2.1 ≤ nm.length) (hs : s.1 + s.2.1 ≤ nm.length) :
    mergeF nm f s one other = nm.take s.1 ++ other ++ (nm.drop (s.1 + s.2.1)).take (f.1 - (s.1 + s.2.1)) ++ one ++ nm.drop (max (f.1 + f.2.1) (s.1 + s.2.1)) := by
  have e : mergeF nm f s one other = mergeF nm s f other one := by
    unfold mergeF List.flatMap
    congr 1
    apply List.map_congr_left
    intro i _
    unfold mstep
    rw [keepL_comm]
    by_cases a : f.1 = i
    · have b : ¬ s.1 = i := by omega
      simp [a, b]
    · simp [a]
  rw [e, merge_lt h1 hs hf, Nat.max_comm]
theorem merge_eq {nm : List Nat} {f s : Ed} {one other : List Nat} (h1 : f.1 = s.1) (hf : f.1 + f.2.1 ≤ nm.length) (hs : s.1 + s.2.1 ≤ nm.length) :
    mergeF nm f s one other = nm.take f.1 ++ one ++ other ++ nm.drop (max (f.1 + f.2.1) (s.1 + s.2.1)) := by
  unfold mergeF
  rw [List.range_eq_range']
  have r1 : nm.length + 1 = f.1 + (1 + (nm.length - f.1)) := by omega
  have ra : ∀ a m n, List.range' a (m + n) = List.range' a m ++ List.range' (a + m) n := fun a m n => by
    have := List.range'_append (s := a) (m := m) (n := n) (step := 1)
    rw [Nat.one_mul] at this; exact this.symm
  rw [r1, ra, ra]
  simp only [List.flatMap_append, Nat.zero_add]
  have m1 : (List.range' f.1 1).flatMap (mstep nm f s one other) = one ++ other ++ keepL nm f s f.1 := by
    simp [mstep, h1]
  rw [m1, fm_step (fun i a b => by omega), fm_step (fun i a b => by omega), segL_keep (a := 0) (fun i a b => by simp [inE]; omega)]
  have t1 := segL_one nm f s f.1 (nm.length - f.1)
  rw [show nm.length - f.1 + 1 = nm.length + 1 - f.1 by omega, segL_tail (Nat.le_refl _) (by omega) (.inl rfl) hf hs] at t1
  rw [← t1]
  simp
end K01
set_option Elab.async false
set_option linter.all false
set_option autoImplicit false
set_option maxRecDepth 100000
set_option maxHeartbeats 1000000
namespace K01
open PySem PySem.Spec L2 Mp
open PyProof.Rows hiding St

/-! ### carrying an edit over another -/
variable {t d : List Nat} {q h : Nat}
theorem put_take1 {i : Nat} (hi : i ≤ q) (hq : q ≤ t.length) : (put t q h d).take i = t.take i := by
  unfold put
  rw [List.append_assoc, List.take_append_of_le_length (by simp; omega), List.take_take, Nat.min_eq_left hi]
theorem put_take2 {i : Nat} (hq : q ≤ t.length) : (put t q h d).take (q + d.length + i) = t.take q ++ d ++ (t.drop (q + h)).take i := by
  unfold put
  have l : (t.take q ++ d).length = q + d.length := by simp; omega
  rw [List.take_append, List.take_of_length_le (by omega), l, Nat.add_sub_cancel_left]
theorem put_drop2 {i : Nat} (hq : q ≤ t.length) : (put t q h d).drop (q + d.length + i) = t.drop (q + h + i) := by
  unfold put
  have l : (t.take q ++ d).length = q + d.length := by simp; omega
  rw [List.drop_append, List.drop_of_length_le (by omega), l, Nat.add_sub_cancel_left, List.drop_drop, List.nil_append]
theorem put_drop1 {i : Nat} (hi : i ≤ q) (hq : q ≤ t.length) : (put t q h d).drop i = (t.drop i).take (q - i) ++ d ++ t.drop (q + h) := by
  unfold put
  rw [List.append_assoc, List.drop_append_of_le_length (by simp; omega), List.drop_take, List.append_assoc]
theorem put_len (hq : q + h ≤ t.length) : (put t q h d).length = t.length - h + d.length := by
  unfold put; simp; omega
theorem weave1 {p g : Nat} {c : List Nat} {m : List Nat} : weave m 0 [(p, g, c)] = m.take p ++ c ++ m.drop (p + g) := by simp [weave]
theorem carry_weave {p g : Nat} {c : List Nat} {first : Bool} (hp : p + g ≤ t.length) (hq : q + h ≤ t.length) :
    weave (put t q h d) 0 (carry (p, g, c) (q, h, d) first) = (if first then mergeF t (p, g, c) (q, h, d) c d else mergeF t (q, h, d) (p, g, c) d c) ∧ Wf (put t q h d).length 0 (carry (p, g, c) (q, h, d) first) ∧ Sep (carry (p, g, c) (q, h, d) first) := by
  have hpl := put_len (d := d) hq
  unfold carry
  simp only
  by_cases h1 : q + h < p
  · rw [if_pos h1]
    refine ⟨?_, ⟨Nat.zero_le _, by rw [hpl]; omega, by show p + d.length - h + g ≤ _; rw [hpl]; omega⟩, trivial⟩
    rw [weave1]
    have e1 : p + d.length - h = q + d.length + (p - (q + h)) := by omega
    have e2 : p + d.length - h + g = q + d.length + (p - (q + h) + g) := by omega
    rw [e2, e1, put_take2 (by omega), put_drop2 (by omega), show q + h + (p - (q + h) + g) = p + g by omega]
    cases first with
    | true => rw [if_pos rfl, merge_gt (by show q < p; omega) hp hq]; simp only; rw [show max (p + g) (q + h) = p + g by omega]
    | false => rw [if_neg (by decide), merge_lt (by show q < p; omega) hq hp]; simp only; rw [show max (q + h) (p + g) = p + g by omega]
  rw [if_neg h1]
  by_cases h2 : q < p ∨ (p = q ∧ first = false)
  · rw [if_pos h2]
    refine ⟨?_, ⟨Nat.zero_le _, by rw [hpl]; omega, by show q + d.length + (p + g - max p (q + h)) ≤ _; rw [hpl]; omega⟩, trivial⟩
    rw [weave1]
    have e1 : (put t q h d).take (q + d.length) = t.take q ++ d := by
      have := put_take2 (t := t) (d := d) (q := q) (h := h) (i := 0) (by omega)
      simpa using this
    rw [e1, put_drop2 (by omega)]
    have e2 : q + h + (p + g - max p (q + h)) = max (p + g) (q + h) := by omega
    rw [e2]
    rcases h2 with h2 | ⟨rfl, rfl⟩
    · cases first with
      | true => rw [if_pos rfl, merge_gt (by show q < p; omega) hp hq]; simp only; rw [show p - (q + h) = 0 by omega]; simp
      | false => rw [if_neg (by decide), merge_lt (by show q < p; omega) hq hp]; simp only; rw [show p - (q + h) = 0 by omega, Nat.max_comm]; simp
    · rw [if_neg (by decide), merge_eq (f := (p, h, d)) (s := (p, g, c)) rfl hq hp]; simp only; rw [Nat.max_comm]
  · rw [if_neg h2]
    have hpq : p ≤ q := by omega
    have hM : (if first then mergeF t (p, g, c) (q, h, d) c d else mergeF t (q, h, d) (p, g, c) d c) = t.take p ++ c ++ (t.drop (p + g)).take (q - (p + g)) ++ d ++ t.drop (max (p + g) (q + h)) := by
      by_cases e : p = q
      · have hf : first = true := by
          cases first with
          | true => rfl
          | false => exact absurd (.inr ⟨e, rfl⟩) h2
        subst e hf
        rw [if_pos rfl, merge_eq (f := (p, g, c)) (s := (p, h, d)) rfl hp hq]; simp only; rw [show p - (p + g) = 0 by omega]; simp
      · cases first with
        | true => rw [if_pos rfl, merge_lt (by show p < q; omega) hp hq]
        | false => rw [if_neg (by decide), merge_gt (by show p < q; omega) hq hp]; simp only; rw [Nat.max_comm]
    rw [hM]
    by_cases h3 : p + g - max p (q + h) = 0
    · rw [if_pos h3]
      refine ⟨?_, ⟨Nat.zero_le _, by rw [hpl]; omega, by show p + min g (q - p) ≤ _; rw [hpl]; omega⟩, trivial⟩
      rw [weave1, put_take1 hpq (by omega), put_drop1 (by omega) (by omega), show max (p + g) (q + h) = q + h by omega]
      by_cases h4 : g ≤ q - p
      · rw [Nat.min_eq_left h4]; simp
      · rw [Nat.min_eq_right (by omega), show p + (q - p) = q by omega, Nat.sub_self, show q - (p + g) = 0 by omega]; simp
    · rw [if_neg h3]
      have hmin : min g (q - p) = q - p := by omega
      have hmax : max (p + g) (q + h) = p + g := by omega
      have hdq : (put t q h d).drop q = d ++ t.drop (q + h) := by
        rw [put_drop1 (Nat.le_refl _) (by omega), Nat.sub_self]; simp
      have hrest : q + h + (p + g - max p (q + h)) = p + g := by omega
      rw [hmin, hmax, show q - (p + g) = 0 by omega]
      unfold touch
      simp only
      by_cases h5 : p + (q - p) = q + d.length
      · rw [if_pos h5]
        have hd0 : d = [] := List.eq_nil_of_length_eq_zero (by omega)
        refine ⟨?_, ⟨Nat.zero_le _, by rw [hpl]; omega, by show p + (q - p + (p + g - max p (q + h))) ≤ _; rw [hpl]; omega⟩, trivial⟩
        rw [weave1, put_take1 hpq (by omega), show p + (q - p + (p + g - max p (q + h))) = q + d.length + (p + g - max p (q + h)) by omega, put_drop2 (by omega), hrest, hd0]
        simp
      · rw [if_neg h5]
        refine ⟨?_, ⟨Nat.zero_le _, by rw [hpl]; omega, by show p + (q - p) ≤ q + d.length; omega, by rw [hpl]; omega, by show q + d.length + (p + g - max p (q + h)) ≤ _; rw [hpl]; omega⟩, ⟨by show p + (q - p) < q + d.length; omega, trivial⟩⟩
        simp only [weave]
        rw [show p + (q - p) = q by omega, hdq, put_drop2 (by omega), hrest, List.drop_zero, Nat.sub_zero, put_take1 hpq (by omega), show q + d.length - q = d.length by omega]
        simp
end K01
set_option Elab.async false
set_option linter.all false
set_option autoImplicit false
set_option maxRecDepth 100000
set_option maxHeartbeats 1000000
namespace K01
open PySem PySem.Spec L2 Mp
open PyProof.Rows hiding St

theorem carry_come {e o : Ed} {first : Bool} : (∀ x ∈ carry e o first, x.2.2 = e.2.2 ∨ x.2.2 = []) ∧ 1 ≤ (carry e o first).length ∧ (carry e o first).length ≤ 2 ∧ grow (carry e o first) ≤ e.2.2.length := by
  unfold carry
  split
  · exact ⟨by simp, by simp, by simp, by simp [grow]; omega⟩
  · split
    · exact ⟨by simp, by simp, by simp, by simp [grow]; omega⟩
    · split
      · exact ⟨by simp, by simp, by simp, by simp [grow]; omega⟩
      · unfold touch
        simp only
        split
        · exact ⟨by simp, by simp, by simp, by simp [grow]; omega⟩
        · exact ⟨by simp, by simp, by simp, by simp [grow]; omega⟩
theorem wf_each {n : Nat} : ∀ {es : List Ed} {a : Nat}, Wf n a es → ∀ e ∈ es, e.1 + e.2.1 ≤ n
  | (p, g, c) :: r, a, ⟨h1, h2, h3⟩, e, he => by
    rcases List.mem_cons.mp he with rfl | he
    · exact h2
    · exact wf_each h3 e he
theorem carry_ok {t : List Nat} {e o : Ed} {first : Bool} (hp : e.1 + e.2.1 ≤ t.length) (hq : o.1 + o.2.1 ≤ t.length) (hs : Sg e.2.2) (hl : t.length + e.2.2.length + o.2.2.length ≤ 2000) : OkEs (putE t o) (carry e o first) := by
  obtain ⟨p, g, c⟩ := e
  obtain ⟨q, h, d⟩ := o
  obtain ⟨_, hw, hsep⟩ := carry_weave (t := t) (c := c) (d := d) (first := first) hp hq
  obtain ⟨k1, k2, k3, k4⟩ := carry_come (e := (p, g, c)) (o := (q, h, d)) (first := first)
  have hq' : q + h ≤ t.length := hq
  have hpl := put_len (t := t) (d := d) hq'
  have hl' : t.length + c.length + d.length ≤ 2000 := hl
  have k4' : grow (carry (p, g, c) (q, h, d) first) ≤ c.length := k4
  refine { few := by omega, each := fun x hx => ⟨wf_each hw x hx, ?_⟩, sep := hsep, size := ?_ }
  · rcases k1 x hx with e | e
    · rw [e]; exact ⟨hs, by show c.length ≤ 2000; omega⟩
    · rw [e]; exact ⟨fun y hy => (by cases hy), by simp⟩
  · show ((put t q h d).length : Int) + _ ≤ 2000
    omega
/-! the same edit of names and of signs -/
def lenEq : List Ed → List Ed → Prop
  | [], [] => True
  | (p, g, c) :: r, (p', g', c') :: r' => p = p' ∧ g = g' ∧ c.length = c'.length ∧ lenEq r r'
  | _, _ => False
theorem hold_lenEq {n : Nat} : ∀ {es es' : List Ed} {a now : Nat}, lenEq es es' → hold n a now es = hold n a now es'
  | [], [], _, _, _ => rfl
  | [], _ :: _, _, _, h => h.elim
  | _ :: _, [], _, _, h => h.elim
  | (p, g, c) :: r, (p', g', c') :: r', a, now, ⟨h1, h2, h3, h4⟩ => by
    subst h1 h2
    simp only [hold, h3, hold_lenEq h4]
theorem wf_lenEq {n : Nat} : ∀ {es es' : List Ed} {a : Nat}, lenEq es es' → Wf n a es → Wf n a es'
  | [], [], _, _, h => h
  | [], _ :: _, _, h, _ => h.elim
  | _ :: _, [], _, h, _ => h.elim
  | (p, g, c) :: r, (p', g', c') :: r', a, ⟨h1, h2, h3, h4⟩, h => by
    subst h1 h2
    exact ⟨h.1, h.2.1, wf_lenEq h4 h.2.2⟩
theorem carry_lenEq {p g q h : Nat} {c c' d d' : List Nat} {first : Bool} (h1 : c.length = c'.length) (h2 : d.length = d'.length) : lenEq (carry (p, g, c) (q, h, d) first) (carry (p, g, c') (q, h, d') first) := by
  unfold carry touch
  simp only
  split
  · exact ⟨by rw [h2], rfl, h1, trivial⟩
  · split
    · exact ⟨by rw [h2], rfl, h1, trivial⟩
    · split
      · exact ⟨rfl, rfl, h1, trivial⟩
      · rw [h2]
        split
        · exact ⟨rfl, rfl, by simp [h1], trivial⟩
        · exact ⟨rfl, rfl, h1, rfl, rfl, rfl, trivial⟩
theorem keep_map (φ : Nat → Nat) {nm : List Nat} {f s : Ed} {i : Nat} : keepL (nm.map φ) f s i = (keepL nm f s i).map φ := by
  unfold keepL
  rw [List.getElem?_map]
  cases nm[i]? with
  | none => rfl
  | some x => simp only [Option.map_some]; split <;> simp
/-- merging names, then reading their signs -/
theorem merge_map (φ : Nat → Nat) {nm one other : List Nat} {f s f' s' : Ed} (hf : f.1 = f'.1 ∧ f.2.1 = f'.2.1) (hs : s.1 = s'.1 ∧ s.2.1 = s'.2.1) : mergeF (nm.map φ) f s (one.map φ) (other.map φ) = (mergeF nm f' s' one other).map φ := by
  unfold mergeF
  rw [List.length_map, List.map_flatMap]
  unfold List.flatMap
  congr 1
  apply List.map_congr_left
  intro i _
  have e1 : keepL (nm.map φ) f s i = (keepL nm f' s' i).map φ := by
    rw [keep_map]
    unfold keepL inE
    rw [hf.1, hf.2, hs.1, hs.2]
  simp only [mstep, e1, hf.1, hs.1, List.map_append]
  congr 2 <;> split <;> rfl
end K01
set_option Elab.async false
set_option linter.all false
set_option autoImplicit false
set_option maxRecDepth 100000
set_option maxHeartbeats 1000000
namespace K01
open PySem PySem.Spec L2 Mp
open PyProof.Rows hiding St

/-! the invariant of the law of rows -/
structure InvR (t now nm : List Nat) (P : List (Nat × Nat)) (N s b : Nat) : Prop where
  len : nm.length = now.length
  sg : Sg now
  nd : nm.Nodup
  lt : ∀ x ∈ nm, x < N
  bound : now.length ≤ b
  rise : Rise P
  mem : ∀ k j, (k, j) ∈ P ↔ ∃ x, (List.range t.length)[k]? = some x ∧ nm[j]? = some x
  same : ∀ p ∈ P, t[p.1]? = now[p.2]? ∧ p.1 < t.length
  cost : t.length + now.length ≤ s + 2 * P.length
  big : t.length ≤ N
def diag (n : Nat) : List (Nat × Nat) := (List.range n).map fun k => (k, k)
theorem inv_start {t : List Nat} (ht : Sg t) (hl : t.length ≤ 1000) : InvR t t (List.range t.length) (diag t.length) 1000 0 t.length where
  len := by simp
  sg := ht
  nd := List.nodup_range
  lt := fun x hx => by have := List.mem_range.mp hx; omega
  bound := Nat.le_refl _
  rise := by
    unfold Rise diag
    rw [List.pairwise_map]
    exact List.pairwise_lt_range.imp fun h => ⟨h, h⟩
  mem := fun k j => by
    unfold diag
    simp only [List.mem_map, List.mem_range, Prod.mk.injEq]
    constructor
    · rintro ⟨i, hi, rfl, rfl⟩
      exact ⟨i, by simp [hi], by simp [hi]⟩
    · rintro ⟨x, h1, h2⟩
      have h3 := List.getElem?_eq_some_iff.mp h1
      have h4 := List.getElem?_eq_some_iff.mp h2
      obtain ⟨a1, a2⟩ := h3
      obtain ⟨b1, b2⟩ := h4
      simp at a1 a2 b1 b2
      exact ⟨x, by omega, by omega, by omega⟩
  same := fun p hp => by
    unfold diag at hp
    obtain ⟨i, hi, rfl⟩ := List.mem_map.mp hp
    exact ⟨rfl, List.mem_range.mp hi⟩
  cost := by unfold diag; simp; omega
  big := hl
theorem name_gone : ∀ {es : List Ed} {n : Nat}, ((nameEs n es).map (·.2.1)).sum = goneTot es
  | [], n => rfl
  | (p, g, c) :: r, n => by
    have := name_gone (es := r) (n := n + c.length)
    simp [nameEs, goneTot] at this ⊢
    omega
theorem name_come : ∀ {es : List Ed} {n : Nat}, ((nameEs n es).map (·.2.2.length)).sum = comeTot es
  | [], n => rfl
  | (p, g, c) :: r, n => by
    have := name_come (es := r) (n := n + c.length)
    simp [nameEs, comeTot, fresh] at this ⊢
    omega
theorem gone_le {n : Nat} : ∀ {es : List Ed} {a : Nat}, Wf n a es → goneTot es + a ≤ n
  | [], a, h => by have h : a ≤ n := h; simpa [goneTot] using h
  | (p, g, c) :: r, a, ⟨h1, h2, h3⟩ => by
    have := gone_le h3
    simp [goneTot] at this ⊢
    omega
theorem weave_same_len {nm now : List Nat} {es : List Ed} {N : Nat} (he : nm.length = now.length) (hw : Wf now.length 0 es) : (weave nm 0 (nameEs N es)).length = (weave now 0 es).length := by
  have h1 := weave_len now es 0 (wf_wf hw)
  have h2 := weave_len nm (nameEs N es) 0 (wf_name (by rw [he]; exact hw))
  rw [name_gone, name_come] at h2
  have e1 : (es.map (·.2.1)).sum = goneTot es := rfl
  have e2 : (es.map (·.2.2.length)).sum = comeTot es := rfl
  rw [e1, e2] at h1
  omega
theorem cost_split (es : List Ed) : costOf es = goneTot es + comeTot es := by
  induction es with
  | nil => rfl
  | cons e r ih => simp [costOf, goneTot, comeTot] at ih ⊢; omega
theorem come_le : ∀ {es : List Ed} {n : Nat}, (∀ e ∈ es, e.2.2.length ≤ n) → comeTot es ≤ n * es.length
  | [], n, _ => by simp [comeTot]
  | e :: r, n, h => by
    have h1 := h e (by simp)
    have h2 := come_le (es := r) fun x hx => h x (by simp [hx])
    have e1 : comeTot (e :: r) = e.2.2.length + comeTot r := by simp [comeTot]
    rw [e1, List.length_cons, Nat.mul_succ]
    omega
theorem inv_step {t now nm : List Nat} {P : List (Nat × Nat)} {N s b : Nat} {es : List Ed} (I : InvR t now nm P N s b) (hw : Wf now.length 0 es) (h6 : es.length ≤ 6) (he : ∀ e ∈ es, Sg e.2.2 ∧ e.2.2.length ≤ 2) :
    InvR t (weave now 0 es) (weave nm 0 (nameEs N es)) (behindP P (hold now.length 0 0 es)) (N + nameTot es) (s + costOf es) (b + 12) := by
  have hwn : Wf nm.length 0 es := by rw [I.len]; exact hw
  have hr : Rise (hold now.length 0 0 es) := hold_rise (wf_wf hw)
  have hl1 := weave_len now es 0 (wf_wf hw)
  have e1 : (es.map (·.2.1)).sum = goneTot es := rfl
  have e2 : (es.map (·.2.2.length)).sum = comeTot es := rfl
  rw [e1, e2] at hl1
  have hc := come_le (es := es) (n := 2) fun e h => (he e h).2
  have hb := I.bound
  have hnd := weave_nodup I.nd (n := N) hwn I.lt
  have hown := own_hold (n := N) I.nd hwn I.lt
  rw [I.len] at hown
  refine { len := weave_same_len I.len hw, sg := I.sg.weave fun e h => (he e h).1, nd := hnd, lt := weave_lt hwn I.lt, bound := by omega, rise := behindP_rise I.rise hr, mem := fun k j => ?_, same := fun p hp => ?_, cost := ?_, big := by have := I.big; omega }
  · rw [mem_behindP hr]
    constructor
    · rintro ⟨m, h1, h2⟩
      obtain ⟨x, a1, a2⟩ := (I.mem k m).mp h1
      rw [hown, mem_pairsOf hnd] at h2
      obtain ⟨y, b1, b2⟩ := h2
      rw [a2] at b1
      cases b1
      exact ⟨x, a1, b2⟩
    · rintro ⟨x, h1, h2⟩
      have hx : x < t.length := by
        obtain ⟨q1, q2⟩ := List.getElem?_eq_some_iff.mp h1
        simp at q1 q2
        omega
      have hin : x ∈ nm := by
        rcases weave_mem nm (wf_name hwn) (List.mem_of_getElem? h2) with h | ⟨e, hm, h⟩
        · exact List.mem_of_mem_drop h
        · have := (name_mem hm x h).1
          have := I.big
          omega
      obtain ⟨m, hm, hx2⟩ := List.mem_iff_getElem.mp hin
      have hx3 : nm[m]? = some x := by rw [List.getElem?_eq_getElem hm, hx2]
      exact ⟨m, (I.mem k m).mpr ⟨x, h1, hx3⟩, by rw [hown, mem_pairsOf hnd]; exact ⟨x, hx3, h2⟩⟩
  · obtain ⟨k, j⟩ := p
    obtain ⟨m, h1, h2⟩ := (mem_behindP hr).mp hp
    obtain ⟨a1, a2⟩ := I.same _ h1
    obtain ⟨b1, b2⟩ := hold_at now (wf_wf hw) h2
    rw [Nat.sub_zero] at b1
    exact ⟨a1.trans b1.symm, a2⟩
  · have h1 := hold_len (now := 0) hw
    have h2 := behindP_len I.rise hr (n := now.length) (fun p hp => by
      obtain ⟨x, a1, a2⟩ := (I.mem p.1 p.2).mp hp
      have := (List.getElem?_eq_some_iff.mp a2).1
      rw [I.len] at this
      exact this) (fun p hp => (hold_mem (wf_wf hw) (k := p.1) (j := p.2) hp).2.1)
    have h3 := I.cost
    have h4 := cost_split es
    have h5 := gone_le hw
    omega
theorem inv_end {t now nm : List Nat} {P : List (Nat × Nat)} {N s b k l : Nat} (I : InvR t now nm P N s b) (h1 : k + l ≤ t.length) (h2 : k + l ≤ now.length) (e1 : t.take k = now.take k) (e2 : t.drop (t.length - l) = now.drop (now.length - l)) :
    P = pairsOf (List.range t.length) nm ∧ dist ((t.drop k).take (t.length - k - l)) ((now.drop k).take (now.length - l - k)) + 2 * P.length ≤ t.length + now.length ∧ dist ((t.drop k).take (t.length - k - l)) ((now.drop k).take (now.length - l - k)) ≤ s := by
  obtain ⟨w, w1, w2, w3⟩ := rise_common I.rise I.same
  have h := sub_mid h1 h2 e1 e2 w2 w3
  have := I.cost
  exact ⟨pairs_rise_of I.nd I.rise I.mem, by omega, by omega⟩
end K01
set_option Elab.async false
set_option linter.all false
set_option autoImplicit false
set_option maxRecDepth 100000
set_option maxHeartbeats 1000000
namespace K01
open PySem PySem.Spec L2 Mp
open PyProof.Rows hiding St

variable {dn : Nat} {G G1 G2 G' : Hs}
/-! tests that are built alike -/
theorem okDs_ps : ∀ ps : List (Nat × Nat), okDs (ps.map pD) = true ∧ depDs (ps.map pD) ≤ 1
  | [] => ⟨by simp [okDs], by simp [depDs]⟩
  | p :: r => by
    obtain ⟨h1, h2⟩ := okDs_ps r
    exact ⟨by simp [okDs, okD, pD, h1], by simp [depDs, depD, pD]; omega⟩
theorem okC_psD (ps : List (Nat × Nat)) : okC (psD ps) = true := by
  obtain ⟨h1, h2⟩ := okDs_ps ps
  simp [okC, psD, okD, depD, h1]; omega
theorem okC_pD (p : Nat × Nat) : okC (pD p) = true := by simp [okC, pD, okD, depD, okDs, depDs]
theorem nin_ps {p : Nat × Nat} {ps : List (Nat × Nat)} (h : p ∈ ps) : cmpB .nin (pD p) (psD ps) G = some false := by
  show (if okC (pD p) ∧ okC (psD ps) then some ((ps.map pD).any fun z => eqD z (pD p)) else none).map (!·) = _
  rw [if_pos ⟨okC_pD _, okC_psD _⟩]
  have : ((ps.map pD).any fun z => eqD z (pD p)) = true := by
    rw [List.any_eq_true]
    exact ⟨pD p, List.mem_map.mpr ⟨p, h, rfl⟩, by simp [pD, eqD, eqDs]⟩
  rw [this]; rfl
theorem ne_f {cl : Nat → List D → Hs → Rs} {ς : Env'} {x y : D} {a b : E} (h1 : (ev cl a).1 ς G = some (x, G1)) (h2 : (ev cl b).1 ς G1 = some (y, G2)) (h : cmpB .ne x y G2 = some false) : (ev cl (.cmp .ne a b)).2 ς G = some (false, G2) := by
  rw [ev_cmp2, h1, bnd_s, h2, bnd_s, cmpD_s, h]; rfl
theorem ne_nil : cmpB .ne (.lst []) (.lst []) G = some false := by rfl
theorem ne_str {s : List Nat} : cmpB .ne (.str s) (.str s) G = some false := by simp
theorem ne_mk {p : Nat} {b : Bool} : cmpB .ne (mk p b) (mk p b) G = some false := by
  show (if okC (mk p b) ∧ okC (mk p b) then some (eqD (mk p b) (mk p b)) else none).map (!·) = _
  have : okC (mk p b) = true := by cases b <;> simp [okC, mk, okD, depD, okDs, depDs]
  rw [if_pos ⟨this, this⟩]
  simp [mk, eqD, eqDs]
theorem call_t {cl : Nat → List D → Hs → Rs} {ς : Env'} {f n : Nat} {a : E} {ds : List D} {b : Bool} (h1 : (ev cl a).1 ς G = some (.tup ds, G1)) (hl : ds.length = n) (h2 : cl f ds G1 = some (.bl b, G2)) : (ev cl (.call f n a)).2 ς G = some (b, G2) := by
  rw [ev_call2, h1, bnd_s, argK_s, if_pos hl, h2]; rfl
theorem call_s {cl : Nat → List D → Hs → Rs} {ς : Env'} {f n : Nat} {a : E} {ds : List D} {r : Rs} (h1 : (ev cl a).1 ς G = some (.tup ds, G1)) (hl : ds.length = n) (h2 : cl f ds G1 = r) : (ev cl (.call f n a)).1 ς G = r := by
  rw [ev_call1, h1, bnd_s, argK_s, if_pos hl, h2]
theorem cons_s {cl : Nat → List D → Hs → Rs} {ς : Env'} {a b : E} {x : D} {r : List D} (h1 : (ev cl a).1 ς G = some (x, G1)) (h2 : (ev cl b).1 ς G1 = some (.tup r, G2)) : (ev cl (.cons a b)).1 ς G = some (.tup (x :: r), G2) := by
  rw [ev_cons1, h1, bnd_s, h2, bnd_s, consK_s]
theorem nil_s {cl : Nat → List D → Hs → Rs} {ς : Env'} : (ev cl .nil).1 ς G = some (.tup [], G) := rfl
theorem v_s {cl : Nat → List D → Hs → Rs} {ς : Env'} {i : Nat} {d : D} (h : ς[i]? = some (some d)) : (ev cl (.v i)).1 ς G = some (d, G) := by
  rw [ev_v1, h]; rfl
theorem one_v {cl : Nat → List D → Hs → Rs} {ς : Env'} {i : Nat} {d : D} (h : ς[i]? = some (some d)) : (ev cl (.cons (.v i) .nil)).1 ς G = some (.tup [d], G) := cons_s (v_s h) nil_s
theorem two_v {cl : Nat → List D → Hs → Rs} {ς : Env'} {i j : Nat} {d e : D} (h : ς[i]? = some (some d)) (h2 : ς[j]? = some (some e)) : (ev cl (.cons (.v i) (.cons (.v j) .nil))).1 ς G = some (.tup [d, e], G) := cons_s (v_s h) (one_v h2)
theorem three_v {cl : Nat → List D → Hs → Rs} {ς : Env'} {i j k : Nat} {d e f : D} (h : ς[i]? = some (some d)) (h2 : ς[j]? = some (some e)) (h3 : ς[k]? = some (some f)) : (ev cl (.cons (.v i) (.cons (.v j) (.cons (.v k) .nil)))).1 ς G = some (.tup [d, e, f], G) := cons_s (v_s h) (two_v h2 h3)
theorem wipe_len : ∀ {own : List Nat} {ς : Env'}, (wipeE ς own).length = ς.length
  | [], _ => rfl
  | v :: vs, ς => by simp [wipeE, wipe_len (own := vs)]
theorem wipe_at : ∀ {own : List Nat} {ς : Env'} {i : Nat}, i ∉ own → (wipeE ς own)[i]? = ς[i]?
  | [], _, _, _ => rfl
  | v :: vs, ς, i, h => by
    simp only [List.mem_cons, not_or] at h
    simp only [wipeE]
    rw [List.getElem?_set_ne (Ne.symm h.1), wipe_at h.2]
theorem comp_rev {cl : Nat → List D → Hs → Rs} {ς : Env'} {H : List (Nat × Nat)} (h13 : ς[13]? = some (some (psD H))) (hlen : 15 < ς.length) (hl : H.length ≤ 10000) :
    (ev cl (E.comp false (Tg.nm 15) [15] (E.iseq (E.v 13)) E.yes (E.rev false (E.v 15)))).1 ς G = some (.lst ((H.map fun p => (p.2, p.1)).map pD), G) := by
  have hc := loopC_map (c := (ev cl E.yes).2) (e := (ev cl (E.rev false (E.v 15))).1) (t := Tg.nm 15) (ς := wipeE ς [15]) (G := G) (fun d => match d with | .tup xs => .tup xs.reverse | d => d) (ds := H.map pD) (by
    intro d hd
    obtain ⟨p, hp, rfl⟩ := List.mem_map.mp hd
    refine ⟨_, bindL_nm, ev_yes2, ?_⟩
    have hg : ((wipeE ς [15]).set 15 (some (pD p)))[15]? = some (some (pD p)) := List.getElem?_set_self (by rw [wipe_len]; exact hlen)
    rw [ev_rev1, v_s hg]; rfl) (by rw [sz]; simp; omega)
  rw [ev_comp1, ev_iseq1, v_s h13, bnd_s]
  show bnd (some (D.tup (H.map pD), G)) _ = _
  rw [bnd_s, argK_s, hc, bnd_s, newD_f, List.map_map, List.map_map]
  rfl
/-- a comprehension that finds none -/
theorem comp_none {cl : Nat → List D → Hs → Rs} {ς : Env'} {own : List Nat} {i : Nat} {it c e : E} {ds : List D} (hi : (ev cl it).1 ς G = some (.tup ds, G1)) (hl : ds.length ≤ 10000) (h : ∀ d ∈ ds, (ev cl c).2 ((wipeE ς own).set i (some d)) G1 = some (false, G1)) :
    (ev cl (E.comp false (Tg.nm i) own it c e)).1 ς G = some (.lst [], G1) := by
  have := loopC_filter (c := (ev cl c).2) (e := (ev cl e).1) (t := Tg.nm i) (ς := wipeE ς own) (G := G1) (fun _ => false) id (ds := ds) (acc := []) (fun d hd => ⟨_, bindL_nm, h d hd, fun q => by cases q⟩) (by rw [sz]; simp; omega)
  rw [ev_comp1, hi, bnd_s, argK_s, this]
  simp
end K01
set_option Elab.async false
set_option linter.all false
set_option autoImplicit false
set_option maxRecDepth 100000
set_option maxHeartbeats 1000000
namespace K01
open PySem PySem.Spec L2 Mp
open PyProof.Rows hiding St

variable {dn : Nat} {G G1 G2 G' : Hs}
/-! one turn of 46 -/
abbrev rE1 : E := (E.or (E.not (E.call 38 2 (E.cons (E.v 14) (E.cons (E.v 13) E.nil)))) (E.or (E.cmp Cop.ne (E.blt Blt.len (E.cons (E.v 12) E.nil)) (E.blt Blt.len (E.cons (E.v 11) E.nil))) (E.not (E.call 38 2 (E.cons (E.call 28 2 (E.cons (E.v 12) (E.cons (E.call 16 2 (E.cons (E.v 3) (E.cons (E.v 10) E.nil))) E.nil))) (E.cons (E.blt Blt.tuple (E.cons (E.comp false (Tg.nm 15) [15] (E.iseq (E.v 13)) E.yes (E.rev false (E.v 15))) E.nil)) E.nil))))))
abbrev rE2 : E := (E.or (E.cmp Cop.ne (E.call 6 2 (E.cons (E.v 3) (E.cons (E.v 16) E.nil))) (E.v 12)) (E.cmp Cop.ne (E.comp false (Tg.nm 15) [15] (E.iseq (E.call 28 2 (E.cons (E.v 3) (E.cons (E.tup (E.cons (E.v 16) E.nil)) E.nil)))) (E.cmp Cop.nin (E.v 15) (E.v 13)) (E.v 15)) (E.lst false E.nil)))
abbrev rB1 : S := (S.seq (S.set 18 (E.call 6 2 (E.cons (E.v 18) (E.cons (E.v 19) E.nil)))) S.skip)
abbrev rE3 : E := (E.or (E.cmp Cop.ne (E.idx (E.v 12) (E.v 21)) (E.idx (E.v 3) (E.v 20))) (E.or (E.cmp Cop.ne (E.call 20 3 (E.cons (E.v 3) (E.cons (E.tup (E.cons (E.v 20) (E.cons (E.k (D.str [114, 105, 103, 104, 116])) E.nil))) (E.cons (E.v 10) E.nil)))) (E.tup (E.cons (E.v 21) (E.cons (E.k (D.str [114, 105, 103, 104, 116])) E.nil)))) (E.cmp Cop.ne (E.call 20 3 (E.cons (E.v 3) (E.cons (E.tup (E.cons (E.bin Bop.add (E.v 20) (E.k (D.int 1))) (E.cons (E.k (D.str [108, 101, 102, 116])) E.nil))) (E.cons (E.v 10) E.nil)))) (E.tup (E.cons (E.bin Bop.add (E.v 21) (E.k (D.int 1))) (E.cons (E.k (D.str [108, 101, 102, 116])) E.nil))))))
abbrev rE4 : E := (E.cmp Cop.ne (E.call 19 2 (E.cons (E.tup (E.cons (E.v 20) (E.cons (E.k (D.str [114, 105, 103, 104, 116])) E.nil))) (E.cons (E.v 17) E.nil))) (E.tup (E.cons (E.v 21) (E.cons (E.k (D.str [114, 105, 103, 104, 116])) E.nil))))
abbrev retF : S := (S.seq (S.ret (E.k (D.bl false))) S.skip)
abbrev rB2 : S := (S.seq (S.ife rE3 retF S.skip) (S.seq (S.ife rE4 retF S.skip) S.skip))
abbrev rTurn : S := (S.seq (S.set 10 (E.call 41 2 (E.cons (E.v 0) (E.cons (E.blt Blt.len (E.cons (E.v 3) E.nil)) E.nil)))) (S.seq (S.tgt (Tg.tp (Tg.cons (Tg.nm 11) (Tg.cons (Tg.nm 7) Tg.nil))) (E.call 42 3 (E.cons (E.v 2) (E.cons (E.v 10) (E.cons (E.v 7) E.nil))))) (S.seq (S.tgt (Tg.tp (Tg.cons (Tg.nm 12) (Tg.cons (Tg.nm 13) Tg.nil))) (E.tup (E.cons (E.call 14 2 (E.cons (E.v 3) (E.cons (E.v 10) E.nil))) (E.cons (E.call 43 2 (E.cons (E.v 2) (E.cons (E.v 11) E.nil))) E.nil)))) (S.seq (S.set 14 (E.call 28 2 (E.cons (E.v 3) (E.cons (E.v 10) E.nil)))) (S.seq (S.ife rE1 retF S.skip) (S.seq (S.set 16 (E.call 17 2 (E.cons (E.v 3) (E.cons (E.v 10) E.nil)))) (S.seq (S.ife rE2 retF S.skip) (S.seq (S.par2 17 18 (E.cons (E.call 15 2 (E.cons (E.v 3) (E.cons (E.v 10) E.nil))) (E.cons (E.v 3) E.nil))) (S.seq (S.for_ (Tg.nm 19) (E.iseq (E.v 17)) rB1) (S.seq (S.ife (E.cmp Cop.ne (E.v 18) (E.v 12)) retF S.skip) (S.seq (S.for_ (Tg.tp (Tg.cons (Tg.nm 20) (Tg.cons (Tg.nm 21) Tg.nil))) (E.iseq (E.v 13)) rB2) (S.seq (S.par2 4 8 (E.cons (E.call 44 2 (E.cons (E.v 4) (E.cons (E.v 14) E.nil))) (E.cons (E.bin Bop.add (E.v 8) (E.call 29 1 (E.cons (E.v 10) E.nil))) E.nil))) (S.seq (S.par2 2 3 (E.cons (E.v 11) (E.cons (E.v 12) E.nil))) S.skip)))))))))))))

theorem not_call_f {cl : Nat → List D → Hs → Rs} {ς : Env'} {f n : Nat} {a : E} {ds : List D} (h1 : (ev cl a).1 ς G = some (.tup ds, G1)) (hl : ds.length = n) (h2 : cl f ds G1 = some (.bl true, G2)) : (ev cl (.not (.call f n a))).2 ς G = some (false, G2) := not_t (call_t h1 hl h2)
theorem len_v {cl : Nat → List D → Hs → Rs} {ς : Env'} {i n : Nat} {d : D} (h : ς[i]? = some (some d)) (h2 : lenD d G = some (.int n, G)) : (ev cl (.blt .len (.cons (.v i) .nil))).1 ς G = some (.int n, G) := by
  rw [ev_blt1, one_v h, bnd_s, argK_s, blt_len, one_s, h2]
theorem rE1_ev {m : Nat} (hm : 7 ≤ m) {ς : Env'} {now later : List Nat} {es : List Ed} (h3 : ς[3]? = some (some (.str now))) (h10 : ς[10]? = some (some (esD es))) (h11 : ς[11]? = some (some (nsD later))) (h12 : ς[12]? = some (some (.str (weave now 0 es))))
    (h13 : ς[13]? = some (some (psD (hold now.length 0 0 es)))) (h14 : ς[14]? = some (some (psD (hold now.length 0 0 es)))) (hς : 15 < ς.length) (hl : now.length ≤ 100) (hl2 : (weave now 0 es).length ≤ 200) (ok : OkEs now es) (sg : Sg now) (hlen : later.length = (weave now 0 es).length) :
    ∃ l, (ev (F m) rE1).2 ς G = some (false, G ++ l) := by
  have hH : (hold now.length 0 0 es).length ≤ 100 := by have := hold_len (now := 0) ok.wf; omega
  have c1 : (ev (F m) (E.not (E.call 38 2 (E.cons (E.v 14) (E.cons (E.v 13) E.nil))))).2 ς G = some (false, G) := not_call_f (two_v h14 h13) rfl (alike_pairs (by omega) (by omega))
  have c2 : (ev (F m) (E.cmp Cop.ne (E.blt Blt.len (E.cons (E.v 12) E.nil)) (E.blt Blt.len (E.cons (E.v 11) E.nil)))).2 ς G = some (false, G) := by
    refine ne_f (len_v (n := (weave now 0 es).length) h12 (by rw [Mp.len_str, if_pos (by rw [sz]; omega)])) (len_v (n := later.length) h11 (by simp [nsD])) ?_
    rw [hlen]; simp
  obtain ⟨l1, e1⟩ := all_inverse_run (m := m) (by omega) (G := G) (by omega : now.length ≤ 5000) ok
  obtain ⟨l2, e2⟩ := hold_of_run (m := m) (by omega) (G := G ++ l1) (t := weave now 0 es) (es := invs now 0 0 es) (by omega) (inv_ok ok sg (by omega))
  have hinv := inv_hold now es 0 0 ok.wf
  rw [Nat.zero_add] at hinv
  have c3 : (ev (F m) (E.not (E.call 38 2 (E.cons (E.call 28 2 (E.cons (E.v 12) (E.cons (E.call 16 2 (E.cons (E.v 3) (E.cons (E.v 10) E.nil))) E.nil))) (E.cons (E.blt Blt.tuple (E.cons (E.comp false (Tg.nm 15) [15] (E.iseq (E.v 13)) E.yes (E.rev false (E.v 15))) E.nil)) E.nil))))).2 ς G = some (false, G ++ l1 ++ l2) := by
    refine not_call_f (G1 := G ++ l1 ++ l2) (cons_s (G1 := G ++ l1 ++ l2) (call_s (cons_s (v_s h12) (cons_s (call_s (two_v h3 h10) rfl e1) nil_s)) rfl e2) (cons_s (x := psD ((hold now.length 0 0 es).map fun p => (p.2, p.1))) ?_ nil_s)) rfl ?_
    · rw [ev_blt1, cons_s (comp_rev h13 hς (by omega)) nil_s, bnd_s, argK_s, blt_tuple, one_s, tup_l]; rfl
    · rw [hinv]
      exact alike_pairs (by omega) (by simp; omega)
  exact ⟨l1 ++ l2, by rw [or_ff c1 (or_ff c2 c3), List.append_assoc]⟩
theorem okEs_one {t : List Nat} {e : Ed} (h : okEd t e) (hl : t.length ≤ 2000) : OkEs t [e] := by
  obtain ⟨h1, h2, h3, h4⟩ := h
  refine { few := by simp, each := fun x hx => ?_, sep := trivial, size := ?_ }
  · simp at hx; subst hx; exact ⟨h1, h2, h4⟩
  · simp [grow]; omega
theorem rE2_ev {m : Nat} (hm : 7 ≤ m) {ς : Env'} {now : List Nat} {es : List Ed} (h3 : ς[3]? = some (some (.str now))) (h12 : ς[12]? = some (some (.str (weave now 0 es))))
    (h13 : ς[13]? = some (some (psD (hold now.length 0 0 es)))) (h16 : ς[16]? = some (some (eD (oneFor now es)))) (hς : 15 < ς.length) (hl : now.length ≤ 100) (ok : OkEs now es) (sg : Sg now) :
    ∃ l, (ev (F m) rE2).2 ς G = some (false, G ++ l) := by
  obtain ⟨o1, o2, o3⟩ := one_ok ok sg (by omega)
  have e1 := appliedE_run (m := m) (by omega) (G := G) (by omega : now.length ≤ 5000) o1
  have c1 : (ev (F m) (E.cmp Cop.ne (E.call 6 2 (E.cons (E.v 3) (E.cons (E.v 16) E.nil))) (E.v 12))).2 ς G = some (false, G) := by
    refine ne_f (call_s (two_v h3 h16) rfl e1) (v_s h12) ?_
    rw [o2]; exact ne_str
  have okO := okEs_one o1 (by omega)
  obtain ⟨l, e2⟩ := hold_of_run (m := m) (by omega) (G := G) (t := now) (by omega) okO
  have hH : (hold now.length 0 0 [oneFor now es]).length ≤ 100 := by have := hold_len (now := 0) okO.wf; omega
  have c2 : (ev (F m) (E.cmp Cop.ne (E.comp false (Tg.nm 15) [15] (E.iseq (E.call 28 2 (E.cons (E.v 3) (E.cons (E.tup (E.cons (E.v 16) E.nil)) E.nil)))) (E.cmp Cop.nin (E.v 15) (E.v 13)) (E.v 15)) (E.lst false E.nil))).2 ς G = some (false, G ++ l) := by
    refine ne_f (comp_none (G1 := G ++ l) (ds := (hold now.length 0 0 [oneFor now es]).map pD) ?_ (by simp; omega) ?_) (y := .lst []) (by simp) ne_nil
    · rw [ev_iseq1, call_s (n := 2) (ds := [.str now, esD [oneFor now es]]) (cons_s (v_s h3) (cons_s (x := esD [oneFor now es]) ?_ nil_s)) rfl e2]
      · rfl
      · rw [ev_tup1, one_v h16, bnd_s, argK_s, tupK_s, if_pos (by rw [sz]; simp)]; rfl
    · intro d hd
      obtain ⟨p, hp, rfl⟩ := List.mem_map.mp hd
      have q1 : ((wipeE ς [15]).set 15 (some (pD p)))[15]? = some (some (pD p)) := List.getElem?_set_self (by rw [wipe_len]; exact hς)
      have q2 : ((wipeE ς [15]).set 15 (some (pD p)))[13]? = some (some (psD (hold now.length 0 0 es))) := by
        rw [List.getElem?_set_ne (by omega), wipe_at (by simp), h13]
      rw [ev_cmp2, v_s q1, bnd_s, v_s q2, bnd_s, cmpD_s, nin_ps (o3 p hp)]; rfl
  exact ⟨l, or_ff c1 c2⟩
theorem loop_rB1 {m : Nat} (hm : 5 ≤ m) {ς0 : Env'} (hς : 20 ≤ ς0.length) : ∀ (ts : List Ed) (s : List Nat) (ς : Env'), ς.length = ς0.length → (∀ i, i ≠ 18 → i ≠ 19 → ς[i]? = ς0[i]?) → ς[18]? = some (some (.str s)) → okSteps s ts →
    ∃ ς', loopF (Tg.nm 19) (evS (F m) rB1) (ts.map eD) ς G = some (.nx ς' G) ∧ ς'.length = ς0.length ∧ (∀ i, i ≠ 18 → i ≠ 19 → ς'[i]? = ς0[i]?) ∧ ς'[18]? = some (some (.str (ts.foldl putE s)))
  | [], s, ς, h1, h2, h3, _ => ⟨ς, rfl, h1, h2, h3⟩
  | e :: ts, s, ς, h1, h2, h3, ⟨k1, k2, k3⟩ => by
    have e1 := appliedE_run (m := m) (by omega) (G := G) k2 k1
    have q18 : (ς.set 19 (some (eD e)))[18]? = some (some (.str s)) := by rw [List.getElem?_set_ne (by omega), h3]
    have q19 : (ς.set 19 (some (eD e)))[19]? = some (some (eD e)) := List.getElem?_set_self (by omega)
    obtain ⟨ς', a1, a2, a3, a4⟩ := loop_rB1 (m := m) hm hς ts (putE s e) ((ς.set 19 (some (eD e))).set 18 (some (.str (putE s e)))) (by simp [h1]) (fun i hi hj => by rw [List.getElem?_set_ne (Ne.symm hi), List.getElem?_set_ne (Ne.symm hj), h2 i hi hj]) (List.getElem?_set_self (by simp; omega)) k3
    refine ⟨ς', ?_, a2, a3, a4⟩
    simp only [List.map_cons, loopF, bindL_nm, Option.bind_some]
    rw [set_s (call_s (n := 2) (two_v q18 q19) rfl e1)]
    exact a1
end K01
set_option Elab.async false
set_option linter.all false
set_option autoImplicit false
set_option maxRecDepth 100000
set_option maxHeartbeats 1000000
namespace K01
open PySem PySem.Spec L2 Mp
open PyProof.Rows hiding St

variable {dn : Nat} {G G1 G2 G' : Hs}
theorem mk_ev {cl : Nat → List D → Hs → Rs} {ς : Env'} {a b : E} {p : Nat} {l : Bool} (h : (ev cl a).1 ς G = some (.int (p : Nat), G)) (h2 : (ev cl b).1 ς G = some (.str (if l then [108, 101, 102, 116] else [114, 105, 103, 104, 116]), G)) : (ev cl (.tup (.cons a (.cons b .nil)))).1 ς G = some (mk p l, G) := by
  rw [ev_tup1, cons_s h (cons_s h2 nil_s), bnd_s, argK_s, tupK_s, if_pos (by rw [sz]; simp)]; rfl
theorem strAt {G : Hs} {t : List Nat} {k : Nat} (hl : t.length ≤ 10000) (hk : k < t.length) : idxD (.str t) (.int (k : Nat)) G = some (.str [t[k]], G) := by
  rw [idx_str, if_pos (by rw [sz]; omega), atS hk]; rfl
theorem idx_v {cl : Nat → List D → Hs → Rs} {ς : Env'} {i j : Nat} {d e x : D} (h : ς[i]? = some (some d)) (h2 : ς[j]? = some (some e)) (h3 : idxD d e G = some (x, G)) : (ev cl (.idx (.v i) (.v j))).1 ς G = some (x, G) := by
  rw [ev_idx1, v_s h, bnd_s, v_s h2, bnd_s, h3]
theorem plus1 {cl : Nat → List D → Hs → Rs} {ς : Env'} {i k : Nat} (h : ς[i]? = some (some (.int (k : Nat)))) : (ev cl (.bin .add (.v i) (.k (.int 1)))).1 ς G = some (.int (k + 1 : Nat), G) := by
  rw [ev_bin1, v_s h, bnd_s, ev_k1, bnd_s, bin_addi]
  rfl
theorem rE3_ev {m : Nat} (hm : 7 ≤ m) {ς : Env'} {now : List Nat} {es : List Ed} {k j : Nat} (h3 : ς[3]? = some (some (.str now))) (h10 : ς[10]? = some (some (esD es))) (h12 : ς[12]? = some (some (.str (weave now 0 es))))
    (h20 : ς[20]? = some (some (.int (k : Nat)))) (h21 : ς[21]? = some (some (.int (j : Nat)))) (hl : now.length ≤ 100) (hl2 : (weave now 0 es).length ≤ 200) (ok : OkEs now es) (hp : (k, j) ∈ hold now.length 0 0 es) :
    ∃ l, (ev (F m) rE3).2 ς G = some (false, G ++ l) := by
  have hk := hold_mem (wf_wf ok.wf) hp
  obtain ⟨a1, a2⟩ := hold_at now (wf_wf ok.wf) hp
  rw [Nat.sub_zero] at a1 a2
  obtain ⟨b1, b2⟩ := moved_hold es 0 0 k j ok.wf hp
  rw [Nat.zero_add, Nat.sub_zero] at b1 b2
  have hkl := hk.2.1
  rw [List.getElem?_eq_getElem a2, List.getElem?_eq_getElem hkl] at a1
  injection a1 with a1
  have c1 : (ev (F m) (E.cmp Cop.ne (E.idx (E.v 12) (E.v 21)) (E.idx (E.v 3) (E.v 20)))).2 ς G = some (false, G) := by
    refine ne_f (idx_v h12 h21 (strAt (by omega) a2)) (idx_v h3 h20 (strAt (by omega) hkl)) ?_
    rw [a1]; exact ne_str
  obtain ⟨l1, e1⟩ := moved_at_once_run (m := m) (by omega) (G := G) (t := now) (p := k) (left := false) (by omega) ok
  obtain ⟨l2, e2⟩ := moved_at_once_run (m := m) (by omega) (G := G ++ l1) (t := now) (p := k + 1) (left := true) (by omega) ok
  rw [b1] at e1
  rw [b2] at e2
  have c2 : (ev (F m) (E.cmp Cop.ne (E.call 20 3 (E.cons (E.v 3) (E.cons (E.tup (E.cons (E.v 20) (E.cons (E.k (D.str [114, 105, 103, 104, 116])) E.nil))) (E.cons (E.v 10) E.nil)))) (E.tup (E.cons (E.v 21) (E.cons (E.k (D.str [114, 105, 103, 104, 116])) E.nil))))).2 ς G = some (false, G ++ l1) :=
    ne_f (call_s (cons_s (v_s h3) (cons_s (mk_ev (l := false) (v_s h20) ev_k1) (one_v h10))) rfl e1) (mk_ev (l := false) (v_s h21) ev_k1) ne_mk
  have c3 : (ev (F m) (E.cmp Cop.ne (E.call 20 3 (E.cons (E.v 3) (E.cons (E.tup (E.cons (E.bin Bop.add (E.v 20) (E.k (D.int 1))) (E.cons (E.k (D.str [108, 101, 102, 116])) E.nil))) (E.cons (E.v 10) E.nil)))) (E.tup (E.cons (E.bin Bop.add (E.v 21) (E.k (D.int 1))) (E.cons (E.k (D.str [108, 101, 102, 116])) E.nil))))).2 ς (G ++ l1) = some (false, G ++ l1 ++ l2) :=
    ne_f (call_s (cons_s (v_s h3) (cons_s (mk_ev (l := true) (plus1 h20) ev_k1) (one_v h10))) rfl e2) (mk_ev (l := true) (plus1 h21) ev_k1) ne_mk
  exact ⟨l1 ++ l2, by rw [or_ff c1 (or_ff c2 c3), List.append_assoc]⟩
theorem rE4_ev {m : Nat} (hm : 2 ≤ m) {ς : Env'} {now : List Nat} {es : List Ed} {k j : Nat} (h17 : ς[17]? = some (some (esD (turns 0 0 es))))
    (h20 : ς[20]? = some (some (.int (k : Nat)))) (h21 : ς[21]? = some (some (.int (j : Nat)))) (ok : OkEs now es) (hp : (k, j) ∈ hold now.length 0 0 es) :
    (ev (F m) rE4).2 ς G = some (false, G) := by
  obtain ⟨b1, b2⟩ := moved_hold es 0 0 k j ok.wf hp
  rw [Nat.zero_add, Nat.sub_zero] at b1
  have e1 := moved_through_run (m := m) (by omega) (G := G) (p := k) (left := false) (es := turns 0 0 es) (turns_len fun e he => (ok.each e he).2.2)
  rw [b1] at e1
  exact ne_f (call_s (cons_s (mk_ev (l := false) (v_s h20) ev_k1) (one_v h17)) rfl e1) (mk_ev (l := false) (v_s h21) ev_k1) ne_mk
theorem bind2 {ς : Env'} {i j : Nat} {a b : D} : bindL (Tg.tp (Tg.cons (Tg.nm i) (Tg.cons (Tg.nm j) Tg.nil))) [.tup [a, b]] ς = some ((ς.set i (some a)).set j (some b)) := by simp
theorem loop_rB2 {m : Nat} (hm : 7 ≤ m) {ς0 : Env'} {now : List Nat} {es : List Ed} (hς : 22 ≤ ς0.length) (h3 : ς0[3]? = some (some (.str now))) (h10 : ς0[10]? = some (some (esD es))) (h12 : ς0[12]? = some (some (.str (weave now 0 es)))) (h17 : ς0[17]? = some (some (esD (turns 0 0 es))))
    (hl : now.length ≤ 100) (hl2 : (weave now 0 es).length ≤ 200) (ok : OkEs now es) : ∀ (ps : List (Nat × Nat)) (ς : Env') (G : Hs), ς.length = ς0.length → (∀ i, i ≠ 20 → i ≠ 21 → ς[i]? = ς0[i]?) → (∀ p ∈ ps, p ∈ hold now.length 0 0 es) →
    ∃ ς' l, loopF (Tg.tp (Tg.cons (Tg.nm 20) (Tg.cons (Tg.nm 21) Tg.nil))) (evS (F m) rB2) (ps.map pD) ς G = some (.nx ς' (G ++ l)) ∧ ς'.length = ς0.length ∧ (∀ i, i ≠ 20 → i ≠ 21 → ς'[i]? = ς0[i]?)
  | [], ς, G, k1, k2, _ => ⟨ς, [], by rw [List.append_nil]; rfl, k1, k2⟩
  | (k, j) :: ps, ς, G, k1, k2, k3 => by
    have hn : ∀ i, i ≠ 20 → i ≠ 21 → ((ς.set 20 (some (.int (k : Nat)))).set 21 (some (.int (j : Nat))))[i]? = ς0[i]? := fun i hi hj => by
      rw [List.getElem?_set_ne (Ne.symm hj), List.getElem?_set_ne (Ne.symm hi), k2 i hi hj]
    have q20 : ((ς.set 20 (some (.int (k : Nat)))).set 21 (some (.int (j : Nat))))[20]? = some (some (.int (k : Nat))) := by
      rw [List.getElem?_set_ne (by omega), List.getElem?_set_self (by omega)]
    have q21 : ((ς.set 20 (some (.int (k : Nat)))).set 21 (some (.int (j : Nat))))[21]? = some (some (.int (j : Nat))) := List.getElem?_set_self (by simp; omega)
    have hp := k3 (k, j) (by simp)
    obtain ⟨l1, e1⟩ := rE3_ev hm (G := G) ((hn 3 (by omega) (by omega)).trans h3) ((hn 10 (by omega) (by omega)).trans h10) ((hn 12 (by omega) (by omega)).trans h12) q20 q21 hl hl2 ok hp
    have e2 := rE4_ev (m := m) (by omega) (G := G ++ l1) ((hn 17 (by omega) (by omega)).trans h17) q20 q21 ok hp
    obtain ⟨ς', l2, a1, a2, a3⟩ := loop_rB2 hm hς h3 h10 h12 h17 hl hl2 ok ps ((ς.set 20 (some (.int (k : Nat)))).set 21 (some (.int (j : Nat)))) (G ++ l1) (by simp [k1]) hn fun p hp => k3 p (by simp [hp])
    refine ⟨ς', l1 ++ l2, ?_, a2, a3⟩
    simp only [List.map_cons, loopF, pD]
    rw [bind2, Option.bind_some, seq_ife_f e1, seq_ife_f e2, evS_skip]
    show loopF _ _ (ps.map pD) _ _ = _
    rw [a1, List.append_assoc]
end K01
set_option Elab.async false
set_option linter.all false
set_option autoImplicit false
set_option maxRecDepth 100000
set_option maxHeartbeats 1000000
namespace K01
open PySem PySem.Spec L2 Mp
open PyProof.Rows hiding St

variable {dn : Nat} {G G1 G2 G' : Hs}
theorem tup_s {cl : Nat → List D → Hs → Rs} {ς : Env'} {a : E} {ds : List D} (h : (ev cl a).1 ς G = some (.tup ds, G1)) (hl : ds.length ≤ 10000) : (ev cl (.tup a)).1 ς G = some (.tup ds, G1) := by
  rw [ev_tup1, h, bnd_s, argK_s, tupK_s, if_pos (by rw [sz]; omega)]
theorem par2_s {cl : Nat → List D → Hs → Rs} {ς : Env'} {i j : Nat} {e : E} {a b : D} {r : S} (h : (ev cl e).1 ς G = some (.tup [a, b], G1)) : evS cl (.seq (.par2 i j e) r) ς G = evS cl r ((ς.set i (some a)).set j (some b)) G1 := by
  rw [evS_seq, evS_par2, h]; rfl
theorem par3_s {cl : Nat → List D → Hs → Rs} {ς : Env'} {i j l : Nat} {e : E} {a b c : D} {r : S} (h : (ev cl e).1 ς G = some (.tup [a, b, c], G1)) : evS cl (.seq (.par3 i j l e) r) ς G = evS cl r (((ς.set i (some a)).set j (some b)).set l (some c)) G1 := by
  rw [evS_seq, evS_par3, h]; rfl
theorem set_v {ς : Env'} {i n : Nat} {d : Option D} (h : ς.length = n) (hi : i < n) : (ς.set i d)[i]? = some d := List.getElem?_set_self (by omega)
theorem set_o {ς : Env'} {i j : Nat} {d : Option D} (h : i ≠ j) : (ς.set i d)[j]? = ς[j]? := List.getElem?_set_ne h
structure EnvR (ς : Env') (dn : Nat) (t nm now : List Nat) (P : List (Nat × Nat)) (first : List Nat) (N s : Nat) : Prop where
  len : ς.length = 23
  h0 : ς[0]? = some (some (.ref dn))
  h1 : ς[1]? = some (some (.str t))
  h2 : ς[2]? = some (some (nsD nm))
  h3 : ς[3]? = some (some (.str now))
  h4 : ς[4]? = some (some (psD P))
  h6 : ς[6]? = some (some (nsD first))
  h7 : ς[7]? = some (some (.int (N : Nat)))
  h8 : ς[8]? = some (some (.int (s : Nat)))
theorem ok_draw {now : List Nat} {es : List Ed} (h1 : es.length ≤ 6) (h2 : Sep es) (h3 : ∀ e ∈ es, e.1 + e.2.1 ≤ now.length ∧ Sg e.2.2 ∧ e.2.2.length ≤ 2) (hl : now.length ≤ 1000) : OkEs now es ∧ (weave now 0 es).length ≤ now.length + 12 := by
  have hw : Wf now.length 0 es := wf_of (fun e he => (h3 e he).1) h2 (fun _ _ _ => Nat.zero_le _) (Nat.zero_le _)
  have hl1 := weave_len now es 0 (wf_wf hw)
  have e1 : (es.map (·.2.1)).sum = goneTot es := rfl
  have e2 : (es.map (·.2.2.length)).sum = comeTot es := rfl
  rw [e1, e2] at hl1
  have hc := come_le (es := es) (n := 2) fun e h => (h3 e h).2.2
  have hg := grow_weave now es 0 hw
  exact ⟨{ few := by omega, each := fun e he => ⟨(h3 e he).1, (h3 e he).2.1, by have := (h3 e he).2.2; omega⟩, sep := h2, size := by omega }, by omega⟩
theorem turn_ev {m : Nat} (hm : 8 ≤ m) {ς : Env'} {t nm now first : List Nat} {P : List (Nat × Nat)} {N s b : Nat} (R : EnvR ς dn t nm now P first N s) (I : InvR t now nm P N s b) (hb : b ≤ 80) (hP : P.length ≤ 1000) (hd : Dr dn G) :
    ∃ nm' now' P' N' s' ς' G', EnvR ς' dn t nm' now' P' first N' s' ∧ InvR t now' nm' P' N' s' (b + 12) ∧ P'.length ≤ P.length ∧ Dr dn G' ∧ evS (F m) rTurn ς G = some (.nx ς' G') := by
  have hbl := I.bound
  obtain ⟨es, G1, x1, x2, x3, x4, x5, x6⟩ := edits_run (m := m) (by omega) hd (long := now.length) (by omega)
  obtain ⟨ok, hwl⟩ := ok_draw x1 x2 x3 (by omega)
  have hw := ok.wf
  have hwn : Wf nm.length 0 es := by rw [I.len]; exact hw
  have I' := inv_step I hw x1 fun e he => ⟨(x3 e he).2.1, (x3 e he).2.2⟩
  have e42 := behind_names_run (m := m) (by omega) (G := G1) (nm := nm) (es := es) (n := N) (by have := I.len; omega) hwn (fun e he => by have := (x3 e he).2.2; omega) (by omega)
  have e14 := all_applied_run (m := m) (by omega) (G := G1) (by omega : now.length ≤ 5000) ok
  rw [putAll_weave hw] at e14
  have e43 := pairs_run (m := m) (by omega) (G := G1) (nm := nm) (later := weave nm 0 (nameEs N es)) (by have := I.len; omega)
  have hown := own_hold (n := N) I.nd hwn I.lt
  rw [I.len] at hown
  rw [← hown] at e43
  obtain ⟨l1, e28⟩ := hold_of_run (m := m) (by omega) (G := G1) (by omega : now.length ≤ 5000) ok
  generalize hlat : weave nm 0 (nameEs N es) = later at *
  have hH : (hold now.length 0 0 es).length ≤ 100 := by have := hold_len (now := 0) hw; omega
  have hL := R.len
  -- the stores
  let ς1 := ς.set 10 (some (esD es))
  let ς2 := (ς1.set 11 (some (nsD later))).set 7 (some (.int (N + nameTot es : Nat)))
  let ς3 := (ς2.set 12 (some (.str (weave now 0 es)))).set 13 (some (psD (hold now.length 0 0 es)))
  let ς4 := ς3.set 14 (some (psD (hold now.length 0 0 es)))
  have s1 : ∀ r, evS (F m) (.seq (S.set 10 (E.call 41 2 (E.cons (E.v 0) (E.cons (E.blt Blt.len (E.cons (E.v 3) E.nil)) E.nil)))) r) ς G = evS (F m) r ς1 G1 := fun r =>
    set_s (call_s (cons_s (v_s R.h0) (cons_s (len_v (n := now.length) R.h3 (by rw [Mp.len_str, if_pos (by rw [sz]; omega)])) nil_s)) rfl x6)
  have a1 : ∀ i, i ≠ 10 → ς1[i]? = ς[i]? := fun i hi => set_o (Ne.symm hi)
  have a10 : ς1[10]? = some (some (esD es)) := set_v hL (by omega)
  have s2 : ∀ r, evS (F m) (.seq (S.tgt (Tg.tp (Tg.cons (Tg.nm 11) (Tg.cons (Tg.nm 7) Tg.nil))) (E.call 42 3 (E.cons (E.v 2) (E.cons (E.v 10) (E.cons (E.v 7) E.nil))))) r) ς1 G1 = evS (F m) r ς2 G1 := fun r =>
    tgt_s (call_s (three_v ((a1 2 (by omega)).trans R.h2) a10 ((a1 7 (by omega)).trans R.h7)) rfl e42) bind2
  have b2 : ∀ i, i ≠ 10 → i ≠ 11 → i ≠ 7 → ς2[i]? = ς[i]? := fun i h1 h2 h3 => ((set_o (Ne.symm h3)).trans (set_o (Ne.symm h2))).trans (a1 i h1)
  have b10 : ς2[10]? = some (some (esD es)) := ((set_o (by omega)).trans (set_o (by omega))).trans a10
  have hL1 : ς1.length = 23 := by simp [ς1, hL]
  have b11 : ς2[11]? = some (some (nsD later)) := (set_o (by omega)).trans (set_v hL1 (by omega))
  have b7 : ς2[7]? = some (some (.int (N + nameTot es : Nat))) := set_v (n := 23) (by simp [hL1]) (by omega)
  have hL2 : ς2.length = 23 := by simp [ς2, hL1]
  have s3 : ∀ r, evS (F m) (.seq (S.tgt (Tg.tp (Tg.cons (Tg.nm 12) (Tg.cons (Tg.nm 13) Tg.nil))) (E.tup (E.cons (E.call 14 2 (E.cons (E.v 3) (E.cons (E.v 10) E.nil))) (E.cons (E.call 43 2 (E.cons (E.v 2) (E.cons (E.v 11) E.nil))) E.nil)))) r) ς2 G1 = evS (F m) r ς3 G1 := fun r =>
    tgt_s (tup_s (cons_s (call_s (two_v ((b2 3 (by omega) (by omega) (by omega)).trans R.h3) b10) rfl e14) (cons_s (call_s (two_v ((b2 2 (by omega) (by omega) (by omega)).trans R.h2) b11) rfl e43) nil_s)) (by simp)) bind2
  have c3 : ∀ i, i ≠ 12 → i ≠ 13 → ς3[i]? = ς2[i]? := fun i h1 h2 => (set_o (Ne.symm h2)).trans (set_o (Ne.symm h1))
  have c12 : ς3[12]? = some (some (.str (weave now 0 es))) := (set_o (by omega)).trans (set_v hL2 (by omega))
  have c13 : ς3[13]? = some (some (psD (hold now.length 0 0 es))) := set_v (n := 23) (by simp [hL2]) (by omega)
  have hL3 : ς3.length = 23 := by simp [ς3, hL2]
  have s4 : ∀ r, evS (F m) (.seq (S.set 14 (E.call 28 2 (E.cons (E.v 3) (E.cons (E.v 10) E.nil)))) r) ς3 G1 = evS (F m) r ς4 (G1 ++ l1) := fun r =>
    set_s (call_s (two_v ((c3 3 (by omega) (by omega)).trans ((b2 3 (by omega) (by omega) (by omega)).trans R.h3)) ((c3 10 (by omega) (by omega)).trans b10)) rfl e28)
  have d4 : ∀ i, i ≠ 14 → ς4[i]? = ς3[i]? := fun i h1 => set_o (Ne.symm h1)
  have d14 : ς4[14]? = some (some (psD (hold now.length 0 0 es))) := set_v hL3 (by omega)
  have hL4 : ς4.length = 23 := by simp [ς4, hL3]
  have d3 : ς4[3]? = some (some (.str now)) := (d4 3 (by omega)).trans ((c3 3 (by omega) (by omega)).trans ((b2 3 (by omega) (by omega) (by omega)).trans R.h3))
  have d10 : ς4[10]? = some (some (esD es)) := (d4 10 (by omega)).trans ((c3 10 (by omega) (by omega)).trans b10)
  have d11 : ς4[11]? = some (some (nsD later)) := (d4 11 (by omega)).trans ((c3 11 (by omega) (by omega)).trans b11)
  have d12 : ς4[12]? = some (some (.str (weave now 0 es))) := (d4 12 (by omega)).trans c12
  have d13 : ς4[13]? = some (some (psD (hold now.length 0 0 es))) := (d4 13 (by omega)).trans c13
  obtain ⟨l2, t1⟩ := rE1_ev (m := m) (by omega) (G := G1 ++ l1) d3 d10 d11 d12 d13 d14 (by omega) (by omega) (by omega) ok I.sg (by rw [I'.len])
  -- one for all
  let ς5 := ς4.set 16 (some (eD (oneFor now es)))
  have e17 := one_for_run (m := m) (by omega) (G := G1 ++ l1 ++ l2) (by omega : now.length ≤ 5000) ok (by rw [putAll_weave hw]; omega)
  have s5 : ∀ r, evS (F m) (.seq (S.set 16 (E.call 17 2 (E.cons (E.v 3) (E.cons (E.v 10) E.nil)))) r) ς4 (G1 ++ l1 ++ l2) = evS (F m) r ς5 (G1 ++ l1 ++ l2) := fun r => set_s (call_s (two_v d3 d10) rfl e17)
  have f5 : ∀ i, i ≠ 16 → ς5[i]? = ς4[i]? := fun i h1 => set_o (Ne.symm h1)
  have f16 : ς5[16]? = some (some (eD (oneFor now es))) := set_v hL4 (by omega)
  have hL5 : ς5.length = 23 := by simp [ς5, hL4]
  obtain ⟨l3, t2⟩ := rE2_ev (m := m) (by omega) (G := G1 ++ l1 ++ l2) ((f5 3 (by omega)).trans d3) ((f5 12 (by omega)).trans d12) ((f5 13 (by omega)).trans d13) f16 (by omega) (by omega) ok I.sg
  -- in turn
  let ς6 := (ς5.set 17 (some (esD (turns 0 0 es)))).set 18 (some (.str now))
  have e15 := in_turn_run (m := m) (by omega) (G := G1 ++ l1 ++ l2 ++ l3) (by omega : now.length ≤ 5000) ok
  generalize hG4 : G1 ++ l1 ++ l2 ++ l3 = G4 at *
  generalize hl4 : [Cell.lst ((turns 0 0 es).map eD)] = l4 at *
  have s6 : ∀ r, evS (F m) (.seq (S.par2 17 18 (E.cons (E.call 15 2 (E.cons (E.v 3) (E.cons (E.v 10) E.nil))) (E.cons (E.v 3) E.nil))) r) ς5 G4 = evS (F m) r ς6 (G4 ++ l4) := fun r =>
    par2_s (cons_s (call_s (two_v ((f5 3 (by omega)).trans d3) ((f5 10 (by omega)).trans d10)) rfl e15) (one_v ((f5 3 (by omega)).trans d3)))
  have g6 : ∀ i, i ≠ 17 → i ≠ 18 → ς6[i]? = ς5[i]? := fun i h1 h2 => (set_o (Ne.symm h2)).trans (set_o (Ne.symm h1))
  have g17 : ς6[17]? = some (some (esD (turns 0 0 es))) := (set_o (by omega)).trans (set_v hL5 (by omega))
  have g18 : ς6[18]? = some (some (.str now)) := set_v (n := 23) (by simp [hL5]) (by omega)
  have hL6 : ς6.length = 23 := by simp [ς6, hL5]
  have hst := turns_steps now (by omega) es 0 [] hw (fun e he => (x3 e he).2.1) (by
    have hc := come_le (es := es) (n := 2) fun e h => (x3 e h).2.2
    simp; omega)
  simp only [List.length_nil, List.drop_zero, List.nil_append] at hst
  obtain ⟨ς7, t3, h7a, h7b, h7c⟩ := loop_rB1 (m := m) (by omega) (G := G4 ++ l4) (ς0 := ς6) (by omega) (turns 0 0 es) now ς6 rfl (fun _ _ _ => rfl) g18 hst.1
  rw [hst.2] at h7c
  have hL7 : ς7.length = 23 := by rw [h7a, hL6]
  have k3 : ς7[3]? = some (some (.str now)) := (h7b 3 (by omega) (by omega)).trans ((g6 3 (by omega) (by omega)).trans ((f5 3 (by omega)).trans d3))
  have k10 : ς7[10]? = some (some (esD es)) := (h7b 10 (by omega) (by omega)).trans ((g6 10 (by omega) (by omega)).trans ((f5 10 (by omega)).trans d10))
  have k12 : ς7[12]? = some (some (.str (weave now 0 es))) := (h7b 12 (by omega) (by omega)).trans ((g6 12 (by omega) (by omega)).trans ((f5 12 (by omega)).trans d12))
  have k13 : ς7[13]? = some (some (psD (hold now.length 0 0 es))) := (h7b 13 (by omega) (by omega)).trans ((g6 13 (by omega) (by omega)).trans ((f5 13 (by omega)).trans d13))
  have k17 : ς7[17]? = some (some (esD (turns 0 0 es))) := (h7b 17 (by omega) (by omega)).trans g17
  have t4 : (ev (F m) (E.cmp Cop.ne (E.v 18) (E.v 12))).2 ς7 (G4 ++ l4) = some (false, G4 ++ l4) := ne_f (v_s h7c) (v_s k12) ne_str
  obtain ⟨ς8, l5, t5, h8a, h8b⟩ := loop_rB2 (m := m) (by omega) (by omega) k3 k10 k12 k17 (by omega) (by omega) ok (hold now.length 0 0 es) ς7 (G4 ++ l4) rfl (fun _ _ _ => rfl) fun _ h => h
  have hL8 : ς8.length = 23 := by rw [h8a, hL7]
  -- what is the same
  have same : ∀ i, i ≠ 7 → i < 10 → ς8[i]? = ς[i]? := fun i h1 h2 =>
    (h8b i (by omega) (by omega)).trans ((h7b i (by omega) (by omega)).trans ((g6 i (by omega) (by omega)).trans ((f5 i (by omega)).trans ((d4 i (by omega)).trans ((c3 i (by omega) (by omega)).trans (b2 i (by omega) (by omega) h1))))))
  have same7 : ς8[7]? = some (some (.int (N + nameTot es : Nat))) :=
    (h8b 7 (by omega) (by omega)).trans ((h7b 7 (by omega) (by omega)).trans ((g6 7 (by omega) (by omega)).trans ((f5 7 (by omega)).trans ((d4 7 (by omega)).trans ((c3 7 (by omega) (by omega)).trans b7)))))
  have m10 : ς8[10]? = some (some (esD es)) := (h8b 10 (by omega) (by omega)).trans k10
  have m11 : ς8[11]? = some (some (nsD later)) := (h8b 11 (by omega) (by omega)).trans ((h7b 11 (by omega) (by omega)).trans ((g6 11 (by omega) (by omega)).trans ((f5 11 (by omega)).trans d11)))
  have m12 : ς8[12]? = some (some (.str (weave now 0 es))) := (h8b 12 (by omega) (by omega)).trans k12
  have m14 : ς8[14]? = some (some (psD (hold now.length 0 0 es))) := (h8b 14 (by omega) (by omega)).trans ((h7b 14 (by omega) (by omega)).trans ((g6 14 (by omega) (by omega)).trans ((f5 14 (by omega)).trans d14)))
  have hr : Rise (hold now.length 0 0 es) := hold_rise (wf_wf hw)
  obtain ⟨l6, e44⟩ := put_behind_run (m := m) (by omega) (G := G4 ++ l4 ++ l5) (one := P) (other := hold now.length 0 0 es) (hr.imp fun h => by omega) (by omega)
  have e29 := cost_of_run (m := m) (by omega) (G := G4 ++ l4 ++ l5 ++ l6) (es := es) (fun e he => by have := (x3 e he).2.2; omega) (by omega)
  let ς9 := (ς8.set 4 (some (psD (behindP P (hold now.length 0 0 es))))).set 8 (some (.int (s + costOf es : Nat)))
  let ς10 := (ς9.set 2 (some (nsD later))).set 3 (some (.str (weave now 0 es)))
  have s9 : ∀ r, evS (F m) (.seq (S.par2 4 8 (E.cons (E.call 44 2 (E.cons (E.v 4) (E.cons (E.v 14) E.nil))) (E.cons (E.bin Bop.add (E.v 8) (E.call 29 1 (E.cons (E.v 10) E.nil))) E.nil))) r) ς8 (G4 ++ l4 ++ l5) = evS (F m) r ς9 (G4 ++ l4 ++ l5 ++ l6) := fun r =>
    par2_s (cons_s (call_s (two_v ((same 4 (by omega) (by omega)).trans R.h4) m14) rfl e44) (cons_s (by
      rw [ev_bin1, v_s ((same 8 (by omega) (by omega)).trans R.h8), bnd_s, call_s (n := 1) (one_v m10) rfl e29, bnd_s, bin_addi]
      rfl) nil_s))
  have p9 : ∀ i, i ≠ 4 → i ≠ 8 → ς9[i]? = ς8[i]? := fun i h1 h2 => (set_o (Ne.symm h2)).trans (set_o (Ne.symm h1))
  have hL9 : ς9.length = 23 := by simp [ς9, hL8]
  have s10 : ∀ r, evS (F m) (.seq (S.par2 2 3 (E.cons (E.v 11) (E.cons (E.v 12) E.nil))) r) ς9 (G4 ++ l4 ++ l5 ++ l6) = evS (F m) r ς10 (G4 ++ l4 ++ l5 ++ l6) := fun r =>
    par2_s (two_v ((p9 11 (by omega) (by omega)).trans m11) ((p9 12 (by omega) (by omega)).trans m12))
  have p10 : ∀ i, i ≠ 2 → i ≠ 3 → ς10[i]? = ς9[i]? := fun i h1 h2 => (set_o (Ne.symm h2)).trans (set_o (Ne.symm h1))
  refine ⟨later, weave now 0 es, behindP P (hold now.length 0 0 es), N + nameTot es, s + costOf es, ς10, G4 ++ l4 ++ l5 ++ l6, ?_, I', ?_, ?_, ?_⟩
  · exact { len := by simp [ς10, hL9]
            h0 := (p10 0 (by omega) (by omega)).trans ((p9 0 (by omega) (by omega)).trans ((same 0 (by omega) (by omega)).trans R.h0))
            h1 := (p10 1 (by omega) (by omega)).trans ((p9 1 (by omega) (by omega)).trans ((same 1 (by omega) (by omega)).trans R.h1))
            h2 := (set_o (by omega)).trans (set_v hL9 (by omega))
            h3 := set_v (n := 23) (by simp [hL9]) (by omega)
            h4 := (p10 4 (by omega) (by omega)).trans ((set_o (by omega)).trans (set_v hL8 (by omega)))
            h6 := (p10 6 (by omega) (by omega)).trans ((p9 6 (by omega) (by omega)).trans ((same 6 (by omega) (by omega)).trans R.h6))
            h7 := (p10 7 (by omega) (by omega)).trans ((p9 7 (by omega) (by omega)).trans same7)
            h8 := (p10 8 (by omega) (by omega)).trans (set_v (n := 23) (by simp [hL8]) (by omega)) }
  · unfold behindP
    rw [List.length_map]
    exact List.length_filter_le _ _
  · rw [← hG4]
    exact (((((x5.app).app).app).app).app).app
  · show evS (F m) rTurn ς G = _
    unfold rTurn
    rw [s1, s2, s3, s4, seq_ife_f t1, s5, seq_ife_f t2, s6, for_nx (ds := (turns 0 0 es).map eD) (G1 := G4 ++ l4) (by rw [ev_iseq1, v_s g17]; rfl) t3, seq_ife_f t4, for_nx (ds := (hold now.length 0 0 es).map pD) (G1 := G4 ++ l4) (by rw [ev_iseq1, v_s k13]; rfl) t5, s9, s10, evS_skip]
end K01
set_option Elab.async false
set_option linter.all false
set_option autoImplicit false
set_option maxRecDepth 100000
set_option maxHeartbeats 1000000
namespace K01
open PySem PySem.Spec L2 Mp
open PyProof.Rows hiding St

variable {dn : Nat} {G G1 G2 G' : Hs}
/-! the whole of 46 -/
theorem for_step {cl : Nat → List D → Hs → Rs} {t : Tg} {f : FS} {d : D} {ds : List D} {ς ς1 ς' : Env'} {r : Option Res} (h1 : bindL t [d] ς = some ς1) (h2 : f ς1 G = some (.nx ς' G1)) (h3 : loopF t f ds ς' G1 = r) : loopF t f (d :: ds) ς G = r := by
  simp only [loopF, h1, Option.bind_some, h2]; exact h3
theorem for_step' {t : Tg} {f : FS} {d : D} {ds : List D} {ς ς1 ς' : Env'} {r : Option Res} (h1 : bindL t [d] ς = some ς1) (h2 : f ς1 G = some (.nx ς' G1)) (h3 : loopF t f ds ς' G1 = r) : loopF t f (d :: ds) ς G = r := by
  simp only [loopF, h1, Option.bind_some, h2]; exact h3
theorem rng1 {n : Nat} (hn : n ≤ 100000) : arity 1 rngK [.int (n : Nat)] G = some (.tup (rgN 0 1 n), G) := rng1_s (q := (0, 1, n)) (by rw [rgA_1, if_pos (by omega)]; simp)
theorem range_s {n : Nat} (hn : n ≤ 100000) : lrgK false [.int (n : Nat)] G = some (nsD (List.range n), G) := by
  unfold lrgK
  rw [rgA_1, if_pos (by omega)]
  simp only [Int.toNat_natCast, Option.bind_some]
  have : (rgN 0 1 n) = (List.range n).map fun x => D.int (x : Nat) := by
    unfold rgN
    apply List.map_congr_left
    intro i _
    congr 1; omega
  rw [this]
  simp [nsD, sz]
  omega
theorem diag_comp {cl : Nat → List D → Hs → Rs} {ς : Env'} {n i : Nat} {a : E} (hi : i < ς.length) (hk : (ev cl a).1 ς G = some (.int (n : Nat), G)) (hn : n ≤ 10000) :
    (ev cl (E.comp false (Tg.nm i) [i] (E.irng 1 (E.cons a E.nil)) E.yes (E.tup (E.cons (E.v i) (E.cons (E.v i) E.nil))))).1 ς G = some (.lst ((diag n).map pD), G) := by
  have hc := loopC_map (c := (ev cl E.yes).2) (e := (ev cl (E.tup (E.cons (E.v i) (E.cons (E.v i) E.nil)))).1) (t := Tg.nm i) (ς := wipeE ς [i]) (G := G) (fun d => .tup [d, d]) (ds := rgN 0 1 n) (by
    intro d hd
    refine ⟨_, bindL_nm, ev_yes2, ?_⟩
    have hg : ((wipeE ς [i]).set i (some d))[i]? = some (some d) := List.getElem?_set_self (by rw [wipe_len]; exact hi)
    exact tup_s (two_v hg hg) (by simp)) (by rw [sz]; simp [rgN]; omega)
  rw [ev_comp1, ev_irng1, cons_s hk nil_s, bnd_s, argK_s, rng1 (by omega), bnd_s, argK_s, hc, bnd_s, newD_f]
  refine congrArg (fun z => some (D.lst z, G)) ?_
  unfold rgN diag
  rw [List.map_map, List.map_map]
  apply List.map_congr_left
  intro k _
  simp only [Function.comp, pD]
  rw [show (0 + (k : Nat) * 1 : Int) = (k : Int) by omega]
theorem three_s {cl : Nat → List D → Hs → Rs} {ς : Env'} {a b c : E} {x y z : D} {G3 : Hs} (h1 : (ev cl a).1 ς G = some (x, G1)) (h2 : (ev cl b).1 ς G1 = some (y, G2)) (h3 : (ev cl c).1 ς G2 = some (z, G3)) : (ev cl (.cons a (.cons b (.cons c .nil)))).1 ς G = some (.tup [x, y, z], G3) := cons_s h1 (cons_s h2 (cons_s h3 nil_s))
theorem rows_run {m : Nat} (hm : 9 ≤ m) {t : List Nat} (ht : Sg t) (hl : t.length ≤ 40) (hd : Dr dn G) : ∃ G', Dr dn G' ∧ F m 46 [.ref dn, .str t] G = some (.bl true, G') := by
  let ς0 : Env' := List.map some [D.ref dn, D.str t] ++ List.replicate (23 - 2) none
  have hL0 : ς0.length = 23 := rfl
  have z1 : ς0[1]? = some (some (.str t)) := rfl
  have lt : ∀ {ς : Env'} {G : Hs} {i : Nat} {w : List Nat}, ς[i]? = some (some (.str w)) → w.length ≤ 10000 → (ev (F (m - 1)) (.blt .len (.cons (.v i) .nil))).1 ς G = some (.int w.length, G) := fun h hw => len_v (n := List.length _) h (by rw [Mp.len_str, if_pos (by rw [sz]; omega)])
  let ς1 := ((ς0.set 2 (some (nsD (List.range t.length)))).set 3 (some (.str t))).set 4 (some (psD (diag t.length)))
  let ς2 := ((ς1.set 6 (some (nsD (List.range t.length)))).set 7 (some (.int 1000))).set 8 (some (.int 0))
  have s1 : ∀ r, evS (F (m - 1)) (.seq (S.par3 2 3 4 (E.cons (E.lrg false 1 (E.cons (E.blt Blt.len (E.cons (E.v 1) E.nil)) E.nil)) (E.cons (E.v 1) (E.cons (E.blt Blt.tuple (E.cons (E.comp false (Tg.nm 5) [5] (E.irng 1 (E.cons (E.blt Blt.len (E.cons (E.v 1) E.nil)) E.nil)) E.yes (E.tup (E.cons (E.v 5) (E.cons (E.v 5) E.nil)))) E.nil)) E.nil)))) r) ς0 G = evS (F (m - 1)) r ς1 G := fun r => by
    refine par3_s (three_s (G1 := G) (G2 := G) ?_ (v_s z1) ?_)
    · rw [ev_lrg1, cons_s (lt z1 (by omega)) nil_s, bnd_s, argK_s, if_pos (by rfl), range_s (by omega)]
    · rw [ev_blt1, cons_s (diag_comp (by omega) (lt z1 (by omega)) (by omega)) nil_s, bnd_s, argK_s, blt_tuple, one_s, tup_l]; rfl
  have s2 : ∀ r, evS (F (m - 1)) (.seq (S.par3 6 7 8 (E.cons (E.blt (Blt.list false) (E.cons (E.v 2) E.nil)) (E.cons (E.k (D.int 1000)) (E.cons (E.k (D.int 0)) E.nil)))) r) ς1 G = evS (F (m - 1)) r ς2 G := fun r => by
    refine par3_s (three_s (G1 := G) (G2 := G) ?_ ev_k1 ev_k1)
    rw [ev_blt1, one_v (d := nsD (List.range t.length)) rfl, bnd_s, argK_s, blt_list, one_s]; rfl
  have R0 : EnvR ς2 dn t (List.range t.length) t (diag t.length) (List.range t.length) 1000 0 := ⟨rfl, rfl, rfl, rfl, rfl, rfl, rfl, rfl, rfl⟩
  have R0' : ∀ d, EnvR (ς2.set 9 d) dn t (List.range t.length) t (diag t.length) (List.range t.length) 1000 0 := fun d => ⟨rfl, rfl, rfl, rfl, rfl, rfl, rfl, rfl, rfl⟩
  have put9 : ∀ {ς : Env'} {nm now P N s} (d), EnvR ς dn t nm now P (List.range t.length) N s → EnvR (ς.set 9 d) dn t nm now P (List.range t.length) N s := fun d R =>
    { len := by rw [List.length_set]; exact R.len, h0 := (set_o (by omega)).trans R.h0, h1 := (set_o (by omega)).trans R.h1, h2 := (set_o (by omega)).trans R.h2, h3 := (set_o (by omega)).trans R.h3, h4 := (set_o (by omega)).trans R.h4, h6 := (set_o (by omega)).trans R.h6, h7 := (set_o (by omega)).trans R.h7, h8 := (set_o (by omega)).trans R.h8 }
  have hdg : (diag t.length).length ≤ 40 := by simp [diag]; omega
  obtain ⟨nm1, now1, P1, N1, q1, ςa, Ga, Ra, Ia, la, da, ea⟩ := turn_ev (m := m - 1) (by omega) (put9 (some (.int 0)) R0) (inv_start ht (by omega)) (by omega) (by omega) hd
  obtain ⟨nm2, now2, P2, N2, q2, ςb, Gb, Rb, Ib, lb, db, eb⟩ := turn_ev (m := m - 1) (by omega) (put9 (some (.int 1)) Ra) Ia (by omega) (by omega) da
  obtain ⟨nm3, now3, P3, N3, q3, ςc, Gc, Rc, Ic, lc, dc, ec⟩ := turn_ev (m := m - 1) (by omega) (put9 (some (.int 2)) Rb) Ib (by omega) (by omega) db
  have hb3 := Ic.bound
  obtain ⟨k, l, G', w1, w2, w3, w4, e35⟩ := least_cost_run (m := m - 1) (by omega) (G := Gc) (a := t) (b := now3) (by omega) (by omega)
  obtain ⟨v1, v2, v3⟩ := inv_end Ic w1 w2 w3 w4
  generalize dist ((t.drop k).take (t.length - k - l)) ((now3.drop k).take (now3.length - l - k)) = few at *
  refine ⟨Gc ++ G', dc.app, run_ t46 rfl (by omega) ?_⟩
  show (evS (F (m - 1)) b46 ς0 G).bind outD = _
  unfold b46
  rw [s1, s2, for_nx (ds := [.int 0, .int 1, .int 2]) (G1 := G) (G2 := Gc) (ς' := ςc) (by rw [ev_irng1, cons_s ev_k1 nil_s, bnd_s, argK_s]; exact rng1_s (q := (0, 1, 3)) (by rfl)) (by
    refine for_step (cl := F (m - 1)) bindL_nm ea (for_step (cl := F (m - 1)) bindL_nm eb (for_step (cl := F (m - 1)) bindL_nm ec rfl)))]
  have t1 : (ev (F (m - 1)) (E.not (E.call 38 2 (E.cons (E.v 4) (E.cons (E.call 43 2 (E.cons (E.v 6) (E.cons (E.v 2) E.nil))) E.nil))))).2 ςc Gc = some (false, Gc) := by
    refine not_call_f (cons_s (v_s Rc.h4) (cons_s (call_s (two_v Rc.h6 Rc.h2) rfl (pairs_run (m := m - 1) (by omega) (by simp; omega))) nil_s)) rfl ?_
    rw [← v1]
    exact alike_pairs (by omega) (by omega)
  rw [seq_ife_f t1, set_s (call_s (n := 2) (two_v Rc.h1 Rc.h3) rfl e35)]
  have hLc := Rc.len
  refine seq_ret ?_
  have y22 : (ςc.set 22 (some (.int (few : Nat))))[22]? = some (some (.int (few : Nat))) := set_v hLc (by omega)
  have y : ∀ i, i ≠ 22 → (ςc.set 22 (some (.int (few : Nat))))[i]? = ςc[i]? := fun i hi => set_o (Ne.symm hi)
  rw [ev_and1, ev_cmp1, v_s y22, bnd_s, v_s ((y 8 (by omega)).trans Rc.h8), bnd_s, cmpD_s, cmp_leI, decide_eq_true (by omega)]
  rw [Option.map_some, blB_b, bnd_s, if_pos rfl, ev_cmp1, ev_bin1, ev_bin1, lt ((y 1 (by omega)).trans Rc.h1) (by omega), bnd_s, lt ((y 3 (by omega)).trans Rc.h3) (by omega), bnd_s, bin_addi, bnd_s, v_s y22, bnd_s, bin_subi, bnd_s, ev_bin1, ev_k1, bnd_s]
  rw [len_v (n := P3.length) ((y 4 (by omega)).trans Rc.h4) (by simp [psD]), bnd_s, mul_s, if_pos (.inl (by omega)), bnd_s, cmpD_s, cmp_geI, decide_eq_true (by omega), Option.map_some]
end K01
set_option Elab.async false
set_option linter.all false
set_option autoImplicit false
set_option maxRecDepth 100000
set_option maxHeartbeats 1000000
namespace K01
open PySem PySem.Spec L2 Mp
open PyProof.Rows hiding St

theorem weave_nodup' {nm : List Nat} (hn : nm.Nodup) : ∀ {es : Eds Nat} {a : Nat}, WfG nm.length a es → (∀ e ∈ es, e.2.2.Nodup ∧ ∀ x ∈ e.2.2, x ∉ nm) → es.Pairwise (fun e f => ∀ x ∈ e.2.2, x ∉ f.2.2) → (weave nm a es).Nodup
  | [], a, _, _, _ => hn.sublist (List.drop_sublist _ _)
  | (p, g, c) :: r, a, ⟨h1, h2, h3⟩, hd, hp => by
    rw [List.pairwise_cons] at hp
    have ih := weave_nodup' hn h3 (fun e he => hd e (by simp [he])) hp.2
    obtain ⟨hc1, hc2⟩ := hd (p, g, c) (by simp)
    simp only [weave, List.append_assoc]
    have hs : nm.drop a = (nm.drop a).take (p - a) ++ nm.drop p := by
      conv => lhs; rw [← List.take_append_drop (p - a) (nm.drop a)]
      rw [List.drop_drop, show a + (p - a) = p by omega]
    have hnd : ((nm.drop a).take (p - a) ++ nm.drop p).Nodup := by rw [← hs]; exact hn.sublist (List.drop_sublist _ _)
    rw [List.nodup_append] at hnd ⊢
    have hin : ∀ x ∈ (nm.drop a).take (p - a), x ∈ nm := fun x hx => List.mem_of_mem_drop (List.mem_of_mem_take hx)
    refine ⟨hnd.1, ?_, ?_⟩
    · rw [List.nodup_append]
      refine ⟨hc1, ih, ?_⟩
      intro x hx y hy e
      subst e
      rcases weave_mem nm h3 hy with h5 | ⟨e, he, h5⟩
      · exact hc2 x hx (List.mem_of_mem_drop h5)
      · exact hp.1 e he x hx h5
    · intro x hx y hy e
      subst e
      rcases List.mem_append.mp hy with hy | hy
      · exact hc2 x hy (hin x hx)
      · rcases weave_mem nm h3 hy with h5 | ⟨e, he, h5⟩
        · have h6 : x ∈ nm.drop p := by
            have : nm.drop (p + g) = (nm.drop p).drop g := by rw [List.drop_drop]
            rw [this] at h5
            exact List.mem_of_mem_drop h5
          exact hnd.2.2 x hx x h6 rfl
        · exact (hd e (by simp [he])).2 x h5 (hin x hx)
theorem chain_pairs {nm mid due : List Nat} {es1 es2 : Eds Nat} (hmid : mid = weave nm 0 es1) (hdue : due = weave mid 0 es2) (hn : nm.Nodup) (hw1 : WfG nm.length 0 es1) (hm : mid.Nodup) (hd1 : ∀ e ∈ es1, ∀ x ∈ e.2.2, x ∉ nm) (hw2 : WfG mid.length 0 es2) (hdn : due.Nodup) (hd2 : ∀ e ∈ es2, ∀ x ∈ e.2.2, x ∉ mid ∧ x ∉ nm) :
    behindP (hold nm.length 0 0 es1) (hold mid.length 0 0 es2) = pairsOf nm due := by
  have r1 : Rise (hold nm.length 0 0 es1) := hold_rise hw1
  have r2 : Rise (hold mid.length 0 0 es2) := hold_rise hw2
  refine pairs_rise_of hdn (behindP_rise r1 r2) fun k j => ?_
  rw [mem_behindP r2]
  have p1 := hold_pairs hn hw1 (by rw [← hmid]; exact hm) hd1
  have p2 := hold_pairs hm hw2 (by rw [← hdue]; exact hdn) fun e he x hx => (hd2 e he x hx).1
  rw [p1, p2, ← hmid, ← hdue]
  constructor
  · rintro ⟨m, h1, h2⟩
    rw [mem_pairsOf hm] at h1
    rw [mem_pairsOf hdn] at h2
    obtain ⟨x, a1, a2⟩ := h1
    obtain ⟨y, b1, b2⟩ := h2
    rw [a2] at b1
    cases b1
    exact ⟨x, a1, b2⟩
  · rintro ⟨x, h1, h2⟩
    have hx : x ∈ mid := by
      have := List.mem_of_getElem? h2
      rw [hdue] at this
      rcases weave_mem mid hw2 this with h | ⟨e, he, h⟩
      · exact List.mem_of_mem_drop h
      · exact absurd (List.mem_of_getElem? h1) (hd2 e he x h).2
    obtain ⟨m, hm1, hx2⟩ := List.mem_iff_getElem.mp hx
    have hx3 : mid[m]? = some x := by rw [List.getElem?_eq_getElem hm1, hx2]
    exact ⟨m, by rw [mem_pairsOf hm]; exact ⟨x, h1, hx3⟩, by rw [mem_pairsOf hdn]; exact ⟨x, hx3, h2⟩⟩
theorem carry_pw {e o : Ed} {first : Bool} : (carry e o first).Pairwise fun e f => ∀ x ∈ e.2.2, x ∉ f.2.2 := by
  unfold carry
  split
  · simp
  · split
    · simp
    · split
      · simp
      · unfold touch
        simp only
        split <;> simp
theorem mem_merge {nm one other : List Nat} {f s : Ed} {x : Nat} (h : x ∈ mergeF nm f s one other) : x ∈ one ∨ x ∈ other ∨ ∃ i, nm[i]? = some x ∧ inE f i = false ∧ inE s i = false := by
  unfold mergeF at h
  obtain ⟨i, hi, h⟩ := List.mem_flatMap.mp h
  unfold mstep at h
  rcases List.mem_append.mp h with h | h
  · rcases List.mem_append.mp h with h | h
    · split at h
      · exact .inl h
      · cases h
    · split at h
      · exact .inr (.inl h)
      · cases h
  · unfold keepL at h
    split at h
    · rename_i y hy
      split at h
      · rename_i hc
        simp at h
        subst h
        exact .inr (.inr ⟨i, hy, hc⟩)
      · cases h
    · cases h
theorem cut3 {l : List Nat} {b X : Nat} (h : b ≤ X) : l.take b ++ (l.drop b).take (X - b) ++ l.drop X = l := by
  have : l.drop X = (l.drop b).drop (X - b) := by rw [List.drop_drop]; congr 1; omega
  rw [this, List.append_assoc, List.take_append_drop, List.take_append_drop]
theorem joined_put {t c1 c2 : List Nat} {p1 g1 p2 g2 : Nat} (h1 : p1 + g1 ≤ t.length) (h2 : p2 + g2 ≤ (put t p1 g1 c1).length) :
    min p1 p2 + (max (p1 + c1.length) (p2 + g2) - c1.length + g1 - min p1 p2) ≤ t.length ∧
    put t (min p1 p2) (max (p1 + c1.length) (p2 + g2) - c1.length + g1 - min p1 p2) (((put (put t p1 g1 c1) p2 g2 c2).drop (min p1 p2)).take (max (p1 + c1.length) (p2 + g2) - g2 + c2.length - min p1 p2)) = put (put t p1 g1 c1) p2 g2 c2 := by
  have hl := put_len (t := t) (d := c1) h1
  generalize hT1 : put t p1 g1 c1 = T1 at *
  generalize hT2 : put T1 p2 g2 c2 = T2 at *
  have d1 : t.drop (min p1 p2 + (max (p1 + c1.length) (p2 + g2) - c1.length + g1 - min p1 p2)) = T1.drop (max (p1 + c1.length) (p2 + g2)) := by
    have := put_drop2 (t := t) (q := p1) (h := g1) (d := c1) (i := max (p1 + c1.length) (p2 + g2) - (p1 + c1.length)) (by omega)
    rw [hT1] at this
    rw [show max (p1 + c1.length) (p2 + g2) = p1 + c1.length + (max (p1 + c1.length) (p2 + g2) - (p1 + c1.length)) by omega, this]
    congr 1; omega
  have d2 : T1.drop (max (p1 + c1.length) (p2 + g2)) = T2.drop (max (p1 + c1.length) (p2 + g2) - g2 + c2.length) := by
    have := put_drop2 (t := T1) (q := p2) (h := g2) (d := c2) (i := max (p1 + c1.length) (p2 + g2) - (p2 + g2)) (by omega)
    rw [hT2] at this
    rw [show max (p1 + c1.length) (p2 + g2) - g2 + c2.length = p2 + c2.length + (max (p1 + c1.length) (p2 + g2) - (p2 + g2)) by omega, this]
    congr 1; omega
  have k1 : t.take (min p1 p2) = T2.take (min p1 p2) := by
    rw [← hT2, put_take1 (by omega) (by omega), ← hT1, put_take1 (by omega) (by omega)]
  refine ⟨by omega, ?_⟩
  conv => lhs; unfold put
  rw [d1, d2, k1]
  exact cut3 (by omega)
theorem between_put {a b : List Nat} {k l : Nat} (h1 : k + l ≤ a.length) (h2 : k + l ≤ b.length) (e1 : a.take k = b.take k) (e2 : a.drop (a.length - l) = b.drop (b.length - l)) : put a k (a.length - k - l) ((b.drop k).take (b.length - l - k)) = b := by
  unfold put
  rw [show k + (a.length - k - l) = a.length - l by omega, e2, e1]
  exact cut3 (by omega)
/-! tables of names -/
def tab (N : Nat) (c : List Nat) : List (Nat × Nat) := (List.range c.length).map fun k => (N + k, c[k]?.getD 0)
theorem tab_mem {N : Nat} {c : List Nat} {x v : Nat} : (x, v) ∈ tab N c ↔ ∃ k, x = N + k ∧ c[k]? = some v := by
  unfold tab
  simp only [List.mem_map, List.mem_range, Prod.mk.injEq]
  constructor
  · rintro ⟨k, hk, rfl, rfl⟩
    exact ⟨k, rfl, by rw [List.getElem?_eq_getElem hk]; rfl⟩
  · rintro ⟨k, rfl, h⟩
    exact ⟨k, (List.getElem?_eq_some_iff.mp h).1, rfl, by rw [h]; rfl⟩
theorem tab_fst {N : Nat} {c : List Nat} {p : Nat × Nat} (h : p ∈ tab N c) : N ≤ p.1 ∧ p.1 < N + c.length := by
  obtain ⟨k, e, h⟩ := tab_mem.mp h
  have := (List.getElem?_eq_some_iff.mp h).1
  omega
theorem tab_ne (N : Nat) (c : List Nat) : (tab N c).Pairwise fun p q => p.1 ≠ q.1 := by
  unfold tab
  rw [List.pairwise_map]
  exact List.pairwise_lt_range.imp fun h => by show N + _ ≠ N + _; omega
theorem tab_app {N : Nat} {c : List Nat} {ps : List (Nat × Nat)} (h : ps.Pairwise fun p q => p.1 ≠ q.1) (hl : ∀ p ∈ ps, p.1 < N) : (ps ++ tab N c).Pairwise fun p q => p.1 ≠ q.1 := by
  rw [List.pairwise_append]
  exact ⟨h, tab_ne N c, fun p hp q hq => by have := hl p hp; have := tab_fst hq; omega⟩
theorem lookP_mem {k v : Nat} : ∀ {ps : List (Nat × Nat)}, ps.Pairwise (fun p q => p.1 ≠ q.1) → (k, v) ∈ ps → lookP ps k = some v
  | p :: ps, h, hm => by
    rw [List.pairwise_cons] at h
    unfold lookP
    rw [List.find?_cons]
    rcases List.mem_cons.mp hm with e | hm
    · subst e; simp
    · have := h.1 (k, v) hm
      rw [show (p.1 == k) = false from beq_eq_false_iff_ne.mpr this]
      exact lookP_mem h.2 hm
theorem map_tab {φ : Nat → Nat} {N : Nat} {c : List Nat} (h : ∀ p ∈ tab N c, φ p.1 = p.2) : (fresh N c.length).map φ = c := by
  apply List.ext_getElem?
  intro i
  unfold fresh
  rw [List.map_map, List.getElem?_map]
  by_cases hi : i < c.length
  · rw [List.getElem?_range hi, List.getElem?_eq_getElem hi, Option.map_some]
    have := h (N + i, c[i]) (tab_mem.mpr ⟨i, rfl, List.getElem?_eq_getElem hi⟩)
    exact congrArg some this
  · rw [List.getElem?_eq_none (by simp; omega), List.getElem?_eq_none (by omega)]; rfl
theorem fresh0 (n : Nat) : fresh 0 n = List.range n := by unfold fresh; simp
end K01
set_option Elab.async false
set_option linter.all false
set_option autoImplicit false
set_option maxRecDepth 100000
set_option maxHeartbeats 1000000
namespace K01
open PySem PySem.Spec L2 Mp
open PyProof.Rows hiding St

variable {dn : Nat} {G G1 G2 G' : Hs}
theorem hands_side {nm one other : List Nat} {p g q h : Nat} {first : Bool} (hn : nm.Nodup) (h1 : one.Nodup) (h2 : other.Nodup) (d1 : ∀ x ∈ one, x ∉ nm) (d2 : ∀ x ∈ other, x ∉ nm) (d3 : ∀ x ∈ one, x ∉ other) (hp : p + g ≤ nm.length) (hq : q + h ≤ nm.length) :
    behindP (hold nm.length 0 0 [(q, h, other)]) (hold (put nm q h other).length 0 0 (carry (p, g, one) (q, h, other) first)) = pairsOf nm (weave (put nm q h other) 0 (carry (p, g, one) (q, h, other) first)) := by
  obtain ⟨c1, c2, c3⟩ := carry_weave (t := nm) (c := one) (d := other) (first := first) hp hq
  obtain ⟨k1, _, _, _⟩ := carry_come (e := (p, g, one)) (o := (q, h, other)) (first := first)
  have hw1 : WfG nm.length 0 [(q, h, other)] := ⟨Nat.zero_le _, hq, by show q + h ≤ _; omega⟩
  have hmid : put nm q h other = weave nm 0 [(q, h, other)] := by rw [weave1]; rfl
  have hm : (put nm q h other).Nodup := by
    rw [hmid]
    refine weave_nodup' hn hw1 (fun e he => ?_) (by simp)
    simp at he; subst he; exact ⟨h2, d2⟩
  have hin : ∀ x ∈ one, x ∉ put nm q h other := fun x hx hin => by
    rw [hmid] at hin
    rcases weave_mem nm hw1 hin with h | ⟨e, he, h⟩
    · exact d1 x hx (List.mem_of_mem_drop h)
    · simp at he; subst he; exact d3 x hx h
  have hcome : ∀ e ∈ carry (p, g, one) (q, h, other) first, e.2.2.Nodup ∧ (∀ x ∈ e.2.2, x ∉ put nm q h other) ∧ ∀ x ∈ e.2.2, x ∉ nm := fun e he => by
    rcases k1 e he with z | z
    · rw [z]; exact ⟨h1, hin, d1⟩
    · rw [z]; exact ⟨by simp, by simp, by simp⟩
  have hdn : (weave (put nm q h other) 0 (carry (p, g, one) (q, h, other) first)).Nodup := weave_nodup' hm (wf_wf c2) (fun e he => ⟨(hcome e he).1, (hcome e he).2.1⟩) carry_pw
  exact chain_pairs hmid rfl hn hw1 hm (fun e he => by simp at he; subst he; exact d2) (wf_wf c2) hdn fun e he x hx => ⟨(hcome e he).2.1 x hx, (hcome e he).2.2 x hx⟩
theorem hands_plain {t : List Nat} {a b : Ed} (ha : a.1 + a.2.1 ≤ t.length) (hb : b.1 + b.2.1 ≤ t.length) (hl : t.length ≤ 900) (hc : a.2.2.length ≤ 900) (hd : b.2.2.length ≤ 900) :
    behindP (hold t.length 0 0 [a]) (hold (putE t a).length 0 0 (carry b a false)) = pairsOf (List.range t.length) (mergeF (List.range t.length) a b (fresh 1000 a.2.2.length) (fresh 2000 b.2.2.length)) ∧
    behindP (hold t.length 0 0 [b]) (hold (putE t b).length 0 0 (carry a b true)) = pairsOf (List.range t.length) (mergeF (List.range t.length) a b (fresh 1000 a.2.2.length) (fresh 2000 b.2.2.length)) := by
  obtain ⟨p, g, c⟩ := a
  obtain ⟨q, h, d⟩ := b
  have ha : p + g ≤ t.length := ha
  have hb : q + h ≤ t.length := hb
  have hc : c.length ≤ 900 := hc
  have hd : d.length ≤ 900 := hd
  show behindP (hold t.length 0 0 [(p, g, c)]) (hold (put t p g c).length 0 0 (carry (q, h, d) (p, g, c) false)) = pairsOf (List.range t.length) (mergeF (List.range t.length) (p, g, c) (q, h, d) (fresh 1000 c.length) (fresh 2000 d.length)) ∧
    behindP (hold t.length 0 0 [(q, h, d)]) (hold (put t q h d).length 0 0 (carry (p, g, c) (q, h, d) true)) = pairsOf (List.range t.length) (mergeF (List.range t.length) (p, g, c) (q, h, d) (fresh 1000 c.length) (fresh 2000 d.length))
  have lr : (List.range t.length).length = t.length := List.length_range
  have f1 : (fresh 1000 c.length).length = c.length := by simp [fresh]
  have f2 : (fresh 2000 d.length).length = d.length := by simp [fresh]
  have n1 : ∀ x ∈ fresh 1000 c.length, x ∉ List.range t.length := fun x hx h => by have := fresh_mem.mp hx; have := List.mem_range.mp h; omega
  have n2 : ∀ x ∈ fresh 2000 d.length, x ∉ List.range t.length := fun x hx h => by have := fresh_mem.mp hx; have := List.mem_range.mp h; omega
  have n3 : ∀ x ∈ fresh 1000 c.length, x ∉ fresh 2000 d.length := fun x hx h => by have := fresh_mem.mp hx; have := fresh_mem.mp h; omega
  have n4 : ∀ x ∈ fresh 2000 d.length, x ∉ fresh 1000 c.length := fun x hx h => n3 x h hx
  constructor
  · obtain ⟨c1, _, _⟩ := carry_weave (t := List.range t.length) (p := q) (g := h) (q := p) (h := g) (c := fresh 2000 d.length) (d := fresh 1000 c.length) (first := false) (by omega) (by omega)
    have e := hands_side (nm := List.range t.length) (p := q) (g := h) (q := p) (h := g) (one := fresh 2000 d.length) (other := fresh 1000 c.length) (first := false) List.nodup_range (fresh_nodup _ _) (fresh_nodup _ _) n2 n1 n4 (by omega) (by omega)
    rw [c1, lr, put_len (by omega), lr, f1] at e
    have z1 : lenEq [(p, g, c)] [(p, g, fresh 1000 c.length)] := ⟨rfl, rfl, f1.symm, trivial⟩
    rw [put_len ha, hold_lenEq (carry_lenEq (first := false) f2.symm f1.symm : lenEq (carry (q, h, d) (p, g, c) false) (carry (q, h, fresh 2000 d.length) (p, g, fresh 1000 c.length) false)),
      hold_lenEq z1, e]
    rfl
  · obtain ⟨c1, _, _⟩ := carry_weave (t := List.range t.length) (p := p) (g := g) (q := q) (h := h) (c := fresh 1000 c.length) (d := fresh 2000 d.length) (first := true) (by omega) (by omega)
    have e := hands_side (nm := List.range t.length) (p := p) (g := g) (q := q) (h := h) (one := fresh 1000 c.length) (other := fresh 2000 d.length) (first := true) List.nodup_range (fresh_nodup _ _) (fresh_nodup _ _) n1 n2 n3 (by omega) (by omega)
    rw [c1, lr, put_len (by omega), lr, f2] at e
    have z1 : lenEq [(q, h, d)] [(q, h, fresh 2000 d.length)] := ⟨rfl, rfl, f2.symm, trivial⟩
    rw [put_len hb, hold_lenEq (carry_lenEq (first := true) f1.symm f2.symm : lenEq (carry (p, g, c) (q, h, d) true) (carry (p, g, fresh 1000 c.length) (q, h, fresh 2000 d.length) true)),
      hold_lenEq z1, e]
    rfl
/-! tables in the mini program -/
def chr (c : Nat) : D := .str [c]
def tabD (ps : List (Nat × Nat)) : List D := ps.map fun p => .tup [.int p.1, chr p.2]
theorem rgN_ns (n : Nat) : rgN 0 1 n = (List.range n).map fun x => D.int (x : Nat) := by
  unfold rgN
  apply List.map_congr_left
  intro i _
  congr 1; omega
theorem tab_comp {cl : Nat → List D → Hs → Rs} {ς : Env'} {N i : Nat} {c : List Nat} {it b : E} (hi : (ev cl it).1 ς G = some (.tup (rgN 0 1 c.length), G)) (hl : c.length ≤ 10000) (hb : ∀ k (hk : k < c.length), (ev cl b).1 ((wipeE ς [i]).set i (some (.int (k : Nat)))) G = some (.tup [.int (N + k : Nat), chr c[k]], G)) :
    (ev cl (E.comp false (Tg.nm i) [i] it E.yes b)).1 ς G = some (.lst (tabD (tab N c)), G) := by
  have hc := loopC_map (c := (ev cl E.yes).2) (e := (ev cl b).1) (t := Tg.nm i) (ς := wipeE ς [i]) (G := G) (fun d => match d with | .int k => .tup [.int (N + k.toNat : Nat), chr (c[k.toNat]?.getD 0)] | d => d) (ds := rgN 0 1 c.length) (by
    intro d hd
    rw [rgN_ns] at hd
    obtain ⟨k, hk, rfl⟩ := List.mem_map.mp hd
    have hk := List.mem_range.mp hk
    refine ⟨_, bindL_nm, ev_yes2, ?_⟩
    rw [hb k hk]
    simp only [Int.toNat_natCast, List.getElem?_eq_getElem hk, Option.getD_some]) (by rw [sz]; simp [rgN]; omega)
  rw [ev_comp1, hi, bnd_s, argK_s, hc, bnd_s, newD_f]
  refine congrArg (fun z => some (D.lst z, G)) ?_
  rw [rgN_ns]
  unfold tabD tab
  rw [List.map_map, List.map_map]
  rfl
theorem strsD_chr (φ : Nat → Nat) : ∀ xs : List Nat, strsD (xs.map fun x => chr (φ x)) = some (xs.map fun x => [φ x])
  | [] => rfl
  | x :: xs => by
    show (strsD (xs.map fun x => chr (φ x))).map _ = _
    rw [strsD_chr φ xs]; rfl
theorem flat_one (φ : Nat → Nat) : ∀ xs : List Nat, (xs.map fun x => [φ x]).flatten = xs.map φ
  | [] => rfl
  | x :: xs => by simp [flat_one φ xs]
theorem sum_one (φ : Nat → Nat) : ∀ xs : List Nat, ((xs.map fun x => [φ x]).map (·.length)).sum = xs.length
  | [] => rfl
  | x :: xs => by have := sum_one φ xs; simp at this ⊢; omega
theorem join_ev {cl : Nat → List D → Hs → Rs} {ς : Env'} {i di si n : Nat} {due : List Nat} {ps : List (Nat × Nat)} {φ : Nat → Nat} (h1 : ς[di]? = some (some (nsD due))) (h2 : ς[si]? = some (some (.ref n))) (h3 : G[n]? = some (.dct (ps.map (kv chr)))) (hi : i < ς.length) (his : i ≠ si) (hl : due.length ≤ 10000) (hφ : ∀ x ∈ due, lookP ps x = some (φ x)) :
    (ev cl (E.mth Mth.join (E.k (D.str [])) (E.cons (E.comp false (Tg.nm i) [i] (E.iseq (E.v di)) E.yes (E.idx (E.v si) (E.v i))) E.nil))).1 ς G = some (.str (due.map φ), G) := by
  have hc := loopC_map (c := (ev cl E.yes).2) (e := (ev cl (E.idx (E.v si) (E.v i))).1) (t := Tg.nm i) (ς := wipeE ς [i]) (G := G) (fun d => match d with | .int k => chr (φ k.toNat) | d => d) (ds := due.map fun x => D.int (x : Nat)) (by
    intro d hd
    obtain ⟨k, hk, rfl⟩ := List.mem_map.mp hd
    refine ⟨_, bindL_nm, ev_yes2, ?_⟩
    have q1 : ((wipeE ς [i]).set i (some (.int (k : Nat))))[i]? = some (some (.int (k : Nat))) := List.getElem?_set_self (by rw [wipe_len]; exact hi)
    have q2 : ((wipeE ς [i]).set i (some (.int (k : Nat))))[si]? = some (some (.ref n)) := by
      rw [List.getElem?_set_ne his, wipe_at (by simp; omega), h2]
    rw [idx_v q2 q1 (x := chr (φ k)) (by rw [idx_dct h3, hφ k hk]; rfl)]
    simp only [Int.toNat_natCast]) (by rw [sz]; simp; omega)
  rw [ev_mth1, ev_k1, bnd_s, if_pos (by rfl), cons_s (x := .lst (due.map fun x => chr (φ x))) (G2 := G) ?_ nil_s, bnd_s, argK_s]
  · show (strsD (due.map fun x => chr (φ x))).bind _ = _
    rw [strsD_chr, Option.bind_some, if_pos (by rw [sum_one]; omega), flat_one]
  · rw [ev_comp1, ev_iseq1, v_s h1, bnd_s]
    show bnd (some (D.tup (due.map fun x => D.int (x : Nat)), G)) _ = _
    rw [bnd_s, argK_s, hc, bnd_s, newD_f, List.map_map]
    rfl
theorem dict_tab {cl : Nat → List D → Hs → Rs} {ς : Env'} {a : E} {ps : List (Nat × Nat)} (h : (ev cl a).1 ς G = some (.lst (tabD ps), G)) (hp : ps.Pairwise fun p q => p.1 ≠ q.1) : (ev cl (.blt .dict (.cons a .nil))).1 ς G = some (.ref G.length, G ++ [.dct (ps.map (kv chr))]) := by
  rw [ev_blt1, cons_s h nil_s, bnd_s, argK_s, blt_dict, one_s]
  exact dict_kv chr hp
theorem add_l {cl : Nat → List D → Hs → Rs} {ς : Env'} {a b : E} {xs ys : List (Nat × Nat)} (h1 : (ev cl a).1 ς G = some (.lst (tabD xs), G)) (h2 : (ev cl b).1 ς G = some (.lst (tabD ys), G)) (hl : xs.length + ys.length ≤ 10000) : (ev cl (.bin .add a b)).1 ς G = some (.lst (tabD (xs ++ ys)), G) := by
  rw [ev_bin1, h1, bnd_s, h2, bnd_s, bin_addl, if_pos (by rw [sz]; simp [tabD]; omega)]
  simp [tabD]
end K01
set_option Elab.async false
set_option linter.all false
set_option autoImplicit false
set_option maxRecDepth 100000
set_option maxHeartbeats 1000000
namespace K01
open PySem PySem.Spec L2 Mp
open PyProof.Rows hiding St

variable {dn : Nat} {G G1 G2 G' : Hs}
/-! 48 -/
abbrev hTest : E := (E.or (E.cmp Cop.ne (E.call 14 2 (E.cons (E.v 15) (E.cons (E.v 16) E.nil))) (E.v 10)) (E.or (E.not (E.call 38 2 (E.cons (E.v 17) (E.cons (E.call 43 2 (E.cons (E.v 2) (E.cons (E.v 8) E.nil))) E.nil)))) (E.cmp Cop.nin (E.blt Blt.len (E.cons (E.v 16) E.nil)) (E.lst false (E.cons (E.k (D.int 1)) (E.cons (E.k (D.int 2)) E.nil))))))
abbrev hBody : S := (S.seq (S.par2 15 16 (E.cons (E.call 6 2 (E.cons (E.v 1) (E.cons (E.v 12) E.nil))) (E.cons (E.call 22 3 (E.cons (E.v 13) (E.cons (E.v 12) (E.cons (E.v 14) E.nil)))) E.nil))) (S.seq (S.set 17 (E.call 44 2 (E.cons (E.call 28 2 (E.cons (E.v 1) (E.cons (E.tup (E.cons (E.v 12) E.nil)) E.nil))) (E.cons (E.call 28 2 (E.cons (E.v 15) (E.cons (E.v 16) E.nil))) E.nil)))) (S.seq (S.ife hTest retF S.skip) S.skip)))
theorem nin12 {k : Nat} (h : k = 1 ∨ k = 2) : cmpB .nin (.int (k : Nat)) (.lst [.int 1, .int 2]) G = some false := by
  rcases h with rfl | rfl <;> rfl
theorem hBody_ev {m : Nat} (hm : 8 ≤ m) {ς : Env'} {t both due : List Nat} {f s : Ed} {ah : Bool} (hL : ς.length = 18) (h1 : ς[1]? = some (some (.str t))) (h2 : ς[2]? = some (some (nsD (List.range t.length)))) (h8 : ς[8]? = some (some (nsD due))) (h10 : ς[10]? = some (some (.str both)))
    (h12 : ς[12]? = some (some (eD f))) (h13 : ς[13]? = some (some (eD s))) (h14 : ς[14]? = some (some (.bl ah))) (hl : t.length ≤ 100) (hf : okEd t f) (hf2 : f.2.2.length ≤ 100) (hs2 : s.2.2.length ≤ 100) (okc : OkEs (putE t f) (carry s f ah))
    (hw : weave (putE t f) 0 (carry s f ah) = both) (hp : behindP (hold t.length 0 0 [f]) (hold (putE t f).length 0 0 (carry s f ah)) = pairsOf (List.range t.length) due) :
    ∃ ς' l, evS (F m) hBody ς G = some (.nx ς' (G ++ l)) ∧ ς'.length = 18 ∧ ∀ i, i < 12 → ς'[i]? = ς[i]? := by
  have hpl := @putE_len t f
  have e6 := appliedE_run (m := m) (by omega) (G := G) (by omega : t.length ≤ 5000) hf
  have e22 := carried_run (m := m) (by omega) (G := G) (e := s) (o := f) (first := ah) (by omega) (by omega)
  have okf := okEs_one hf (by omega)
  obtain ⟨l1, e28⟩ := hold_of_run (m := m) (by omega) (G := G) (t := t) (es := [f]) (by omega) okf
  obtain ⟨l2, e28'⟩ := hold_of_run (m := m) (by omega) (G := G ++ l1) (t := putE t f) (by omega) okc
  have hh1 : (hold t.length 0 0 [f]).length ≤ 100 := by have := hold_len (now := 0) okf.wf; omega
  obtain ⟨l3, e44⟩ := put_behind_run (m := m) (by omega) (G := G ++ l1 ++ l2) (one := hold t.length 0 0 [f]) (other := hold (putE t f).length 0 0 (carry s f ah)) ((hold_rise (wf_wf okc.wf)).imp fun h => by omega) (by omega)
  rw [hp] at e44
  have hbl : (behindP (hold t.length 0 0 [f]) (hold (putE t f).length 0 0 (carry s f ah))).length ≤ 100 := by
    unfold behindP
    rw [List.length_map]
    exact Nat.le_trans (List.length_filter_le _ _) hh1
  rw [hp] at hbl
  have e14 := all_applied_run (m := m) (by omega) (G := G ++ l1 ++ l2 ++ l3) (t := putE t f) (by omega) okc
  rw [putAll_weave okc.wf, hw] at e14
  let ς1 := (ς.set 15 (some (.str (putE t f)))).set 16 (some (esD (carry s f ah)))
  let ς2 := ς1.set 17 (some (psD (pairsOf (List.range t.length) due)))
  have hL1 : ς1.length = 18 := by simp [ς1, hL]
  have hL2 : ς2.length = 18 := by simp [ς2, hL1]
  have a : ∀ i, i < 15 → ς1[i]? = ς[i]? := fun i hi => (set_o (by omega)).trans (set_o (by omega))
  have a15 : ς1[15]? = some (some (.str (putE t f))) := (set_o (by omega)).trans (set_v hL (by omega))
  have a16 : ς1[16]? = some (some (esD (carry s f ah))) := set_v (n := 18) (by simp [hL]) (by omega)
  have b : ∀ i, i ≠ 17 → ς2[i]? = ς1[i]? := fun i hi => set_o (Ne.symm hi)
  have b17 : ς2[17]? = some (some (psD (pairsOf (List.range t.length) due))) := set_v hL1 (by omega)
  have s1 : ∀ r, evS (F m) (.seq (S.par2 15 16 (E.cons (E.call 6 2 (E.cons (E.v 1) (E.cons (E.v 12) E.nil))) (E.cons (E.call 22 3 (E.cons (E.v 13) (E.cons (E.v 12) (E.cons (E.v 14) E.nil)))) E.nil))) r) ς G = evS (F m) r ς1 G := fun r =>
    par2_s (cons_s (call_s (two_v h1 h12) rfl e6) (cons_s (call_s (three_v h13 h12 h14) rfl e22) nil_s))
  have s2 : ∀ r, evS (F m) (.seq (S.set 17 (E.call 44 2 (E.cons (E.call 28 2 (E.cons (E.v 1) (E.cons (E.tup (E.cons (E.v 12) E.nil)) E.nil))) (E.cons (E.call 28 2 (E.cons (E.v 15) (E.cons (E.v 16) E.nil))) E.nil)))) r) ς1 G = evS (F m) r ς2 (G ++ l1 ++ l2 ++ l3) := fun r =>
    set_s (call_s (cons_s (call_s (cons_s (v_s ((a 1 (by omega)).trans h1)) (cons_s (x := esD [f]) (tup_s (one_v ((a 12 (by omega)).trans h12)) (by simp)) nil_s)) rfl e28) (cons_s (call_s (two_v a15 a16) rfl e28') nil_s)) rfl e44)
  have t1 : (ev (F m) hTest).2 ς2 (G ++ l1 ++ l2 ++ l3) = some (false, G ++ l1 ++ l2 ++ l3) := by
    refine or_ff (ne_f (call_s (two_v ((b 15 (by omega)).trans a15) ((b 16 (by omega)).trans a16)) rfl e14) (v_s ((b 10 (by omega)).trans ((a 10 (by omega)).trans h10))) ne_str) (or_ff (not_call_f (cons_s (v_s b17) (cons_s (call_s (two_v ((b 2 (by omega)).trans ((a 2 (by omega)).trans h2)) ((b 8 (by omega)).trans ((a 8 (by omega)).trans h8))) rfl (pairs_run (m := m) (by omega) (by simp; omega))) nil_s)) rfl (alike_pairs (by omega) (by omega))) ?_)
    rw [ev_cmp2, len_v (n := (carry s f ah).length) ((b 16 (by omega)).trans a16) (by simp [esD]), bnd_s, ev_lst1, cons_s ev_k1 (cons_s ev_k1 nil_s), bnd_s, argK_s, lstK_s, if_pos (by rw [sz]; simp), newD_f, bnd_s, cmpD_s, nin12 (by have := (carry_come (e := s) (o := f) (first := ah)).2; omega)]
    rfl
  refine ⟨ς2, l1 ++ l2 ++ l3, ?_, hL2, fun i hi => (b i (by omega)).trans (a i (by omega))⟩
  unfold hBody
  rw [s1, s2, seq_ife_f t1, evS_skip, List.append_assoc, List.append_assoc, List.append_assoc]
theorem bind3 {ς : Env'} {i j k : Nat} {a b c : D} : bindL (Tg.tp (Tg.cons (Tg.nm i) (Tg.cons (Tg.nm j) (Tg.cons (Tg.nm k) Tg.nil)))) [.tup [a, b, c]] ς = some (((ς.set i (some a)).set j (some b)).set k (some c)) := by simp
theorem idx_vk {cl : Nat → List D → Hs → Rs} {ς : Env'} {i : Nat} {k : Int} {d x : D} (h : ς[i]? = some (some d)) (h3 : idxD d (.int k) G = some (x, G)) : (ev cl (.idx (.v i) (.k (.int k)))).1 ς G = some (x, G) := by
  rw [ev_idx1, v_s h, bnd_s, ev_k1, bnd_s, h3]
theorem names_it {cl : Nat → List D → Hs → Rs} {ς : Env'} {i n : Nat} (h : ς[i]? = some (some (nsD (List.range n)))) : (ev cl (.iseq (.v i))).1 ς G = some (.tup (rgN 0 1 n), G) := by
  rw [ev_iseq1, v_s h, rgN_ns]; rfl
theorem rng_it {cl : Nat → List D → Hs → Rs} {ς : Env'} {n : Nat} {a : E} (h : (ev cl a).1 ς G = some (.int (n : Nat), G)) (hn : n ≤ 100000) : (ev cl (.irng 1 (.cons a .nil))).1 ς G = some (.tup (rgN 0 1 n), G) := by
  rw [ev_irng1, cons_s h nil_s, bnd_s, argK_s, rng1 hn]
theorem sgnAt {cs : List Nat} {k : Nat} (hl : cs.length ≤ 10000) (hk : k < cs.length) : idxD (.str cs) (.int (k : Nat)) G = some (chr cs[k], G) := strAt hl hk
theorem hands_run {m : Nat} (hm : 9 ≤ m) {t : List Nat} (hl : t.length ≤ 40) (hd : Dr dn G) : ∃ G', Dr dn G' ∧ F m 48 [.ref dn, .str t] G = some (.bl true, G') := by
  obtain ⟨a, Ga, a1, a2, a3, a4, a5, ea⟩ := edit_run (m := m - 1) (by omega) hd (long := t.length) (by omega)
  obtain ⟨b, Gb, b1, b2, b3, b4, b5, eb⟩ := edit_run (m := m - 1) (by omega) a5 (long := t.length) (by omega)
  have oka : okEd t a := ⟨a1, a2, by omega, by omega⟩
  have okb : okEd t b := ⟨b1, b2, by omega, by omega⟩
  obtain ⟨hp1, hp2⟩ := hands_plain a1 b1 (by omega) (by omega) (by omega)
  have w1 := carry_weave (t := t) (p := b.1) (g := b.2.1) (c := b.2.2) (q := a.1) (h := a.2.1) (d := a.2.2) (first := false) b1 a1
  have w2 := carry_weave (t := t) (p := a.1) (g := a.2.1) (c := a.2.2) (q := b.1) (h := b.2.1) (d := b.2.2) (first := true) a1 b1
  have okc1 : OkEs (putE t a) (carry b a false) := carry_ok b1 a1 b2 (by omega)
  have okc2 : OkEs (putE t b) (carry a b true) := carry_ok a1 b1 a2 (by omega)
  have w1 : weave (putE t a) 0 (carry b a false) = mergeF t a b a.2.2 b.2.2 := w1.1
  have w2 : weave (putE t b) 0 (carry a b true) = mergeF t a b a.2.2 b.2.2 := w2.1
  let due := mergeF (List.range t.length) a b (fresh 1000 a.2.2.length) (fresh 2000 b.2.2.length)
  let ps := tab 0 t ++ tab 1000 a.2.2 ++ tab 2000 b.2.2
  have hps : ps.Pairwise fun p q => p.1 ≠ q.1 := by
    refine tab_app (tab_app (tab_ne _ _) fun p hp => ?_) fun p hp => ?_
    · have := tab_fst hp; omega
    · rcases List.mem_append.mp hp with hp | hp
      · have := tab_fst hp; omega
      · have := tab_fst hp; omega
  let φ : Nat → Nat := fun x => (lookP ps x).getD 0
  have hφ : ∀ p ∈ ps, lookP ps p.1 = some p.2 := fun p hp => lookP_mem hps hp
  have hφ' : ∀ p ∈ ps, φ p.1 = p.2 := fun p hp => by show (lookP ps p.1).getD 0 = _; rw [hφ p hp]; rfl
  have m0 : (List.range t.length).map φ = t := by
    rw [← fresh0]
    exact map_tab fun p hp => hφ' p (List.mem_append_left _ (List.mem_append_left _ hp))
  have m1 : (fresh 1000 a.2.2.length).map φ = a.2.2 := map_tab fun p hp => hφ' p (List.mem_append_left _ (List.mem_append_right _ hp))
  have m2 : (fresh 2000 b.2.2.length).map φ = b.2.2 := map_tab fun p hp => hφ' p (List.mem_append_right _ hp)
  have hdue : mergeF t a b a.2.2 b.2.2 = due.map φ := by
    have := merge_map φ (nm := List.range t.length) (one := fresh 1000 a.2.2.length) (other := fresh 2000 b.2.2.length) (f := a) (s := b) (f' := a) (s' := b) ⟨rfl, rfl⟩ ⟨rfl, rfl⟩
    rw [m0, m1, m2] at this
    exact this
  have hin : ∀ x ∈ due, lookP ps x = some (φ x) := fun x hx => by
    have hex : ∃ v, (x, v) ∈ ps := by
      rcases mem_merge hx with h | h | ⟨i, h, _⟩
      · have h := fresh_mem.mp h
        exact ⟨a.2.2[x - 1000], List.mem_append_left _ (List.mem_append_right _ (tab_mem.mpr ⟨x - 1000, by omega, List.getElem?_eq_getElem (by omega)⟩))⟩
      · have h := fresh_mem.mp h
        exact ⟨b.2.2[x - 2000], List.mem_append_right _ (tab_mem.mpr ⟨x - 2000, by omega, List.getElem?_eq_getElem (by omega)⟩)⟩
      · have h := List.mem_range.mp (List.mem_of_getElem? h)
        exact ⟨t[x], List.mem_append_left _ (List.mem_append_left _ (tab_mem.mpr ⟨x, by omega, List.getElem?_eq_getElem h⟩))⟩
    obtain ⟨v, hv⟩ := hex
    have := hφ _ hv
    show _ = some ((lookP ps x).getD 0)
    rw [this]; rfl
  have hdl : due.length ≤ 100 := by
    have e := congrArg List.length hdue
    rw [List.length_map] at e
    have e2 := congrArg List.length w2
    have := weave_len (putE t b) (carry a b true) 0 (wf_wf okc2.wf)
    have hpb := @putE_len t b
    have hg := grow_weave (putE t b) (carry a b true) 0 okc2.wf
    have hc := (carry_come (e := a) (o := b) (first := true)).2.2.2
    omega
  obtain ⟨l3, e45⟩ := merged_run (m := m - 1) (by omega) (G := Gb) (nm := List.range t.length) (one := fresh 1000 a.2.2.length) (other := fresh 2000 b.2.2.length) (f := a) (s := b) (by simp; omega) (by simp [fresh]; omega) (by simp [fresh]; omega)
  have hpb := @putE_len t b
  have hpa := @putE_len t a
  let G3 := Gb ++ l3
  let G4 := G3 ++ [Cell.dct (ps.map (kv chr))]
  have e25 := both_done_run (m := m - 1) (by omega) (G := G4) (t := t) (by omega) oka okb (by omega) okc2
  rw [putAll_weave okc2.wf, w2] at e25
  let ς0 : Env' := List.map some [D.ref dn, D.str t] ++ List.replicate (18 - 2) none
  let ς1 := ς0.set 2 (some (nsD (List.range t.length)))
  let ς2 := (ς1.set 3 (some (eD a))).set 4 (some (eD b))
  let ς3 := (ς2.set 5 (some (nsD (fresh 1000 a.2.2.length)))).set 6 (some (nsD (fresh 2000 b.2.2.length)))
  let ς4 := ς3.set 8 (some (nsD due))
  let ς5 := ς4.set 9 (some (.ref G3.length))
  let ς6 := ς5.set 10 (some (.str (mergeF t a b a.2.2 b.2.2)))
  have lt : ∀ {ς : Env'} {G : Hs}, ς[1]? = some (some (.str t)) → (ev (F (m - 1)) (.blt .len (.cons (.v 1) .nil))).1 ς G = some (.int t.length, G) := fun h => len_v (n := t.length) h (by rw [Mp.len_str, if_pos (by rw [sz]; omega)])
  have s1 : ∀ r, evS (F (m - 1)) (.seq (S.set 2 (E.lrg false 1 (E.cons (E.blt Blt.len (E.cons (E.v 1) E.nil)) E.nil))) r) ς0 G = evS (F (m - 1)) r ς1 G := fun r => by
    refine set_s ?_
    rw [ev_lrg1, cons_s (lt rfl) nil_s, bnd_s, argK_s, if_pos (by rfl), range_s (by omega)]
  have s2 : ∀ r, evS (F (m - 1)) (.seq (S.tgt (Tg.tp (Tg.cons (Tg.nm 3) (Tg.cons (Tg.nm 4) Tg.nil))) (E.tup (E.cons (E.call 40 2 (E.cons (E.v 0) (E.cons (E.blt Blt.len (E.cons (E.v 1) E.nil)) E.nil))) (E.cons (E.call 40 2 (E.cons (E.v 0) (E.cons (E.blt Blt.len (E.cons (E.v 1) E.nil)) E.nil))) E.nil)))) r) ς1 G = evS (F (m - 1)) r ς2 Gb := fun r =>
    tgt_s (tup_s (cons_s (call_s (cons_s (v_s (d := .ref dn) rfl) (cons_s (lt rfl) nil_s)) rfl ea) (cons_s (call_s (cons_s (v_s (d := .ref dn) rfl) (cons_s (lt rfl) nil_s)) rfl eb) nil_s)) (by simp)) bind2
  have ie : ∀ {ς : Env'} {G : Hs} {i : Nat} {e : Ed}, ς[i]? = some (some (eD e)) → (ev (F (m - 1)) (.idx (.v i) (.k (.int 2)))).1 ς G = some (.str e.2.2, G) := fun h => idx_vk h idxE2
  have fr : ∀ {ς : Env'} {G : Hs} {i : Nat} {e : Ed} {N : Nat}, ς.length = 18 → ς[i]? = some (some (eD e)) → e.2.2.length ≤ 4 → (ev (F (m - 1)) (E.comp false (Tg.nm 7) [7] (E.irng 1 (E.cons (E.blt Blt.len (E.cons (E.idx (E.v i) (E.k (D.int 2))) E.nil)) E.nil)) E.yes (E.bin Bop.add (E.k (D.int (N : Nat))) (E.v 7)))).1 ς G = some (nsD (fresh N e.2.2.length), G) := fun hL h he => by
    refine fresh_comp (by omega) (j := 0) ?_ (by omega) fun q hq => ?_
    · rw [ev_blt1, cons_s (ie h) nil_s, bnd_s, argK_s, blt_len, one_s, Mp.len_str, if_pos (by rw [sz]; omega)]
    · rw [ev_bin1, ev_k1, bnd_s, v_s (List.getElem?_set_self (by rw [wipe_len]; omega)), bnd_s, bin_addi]; rfl
  have s3 : ∀ r, evS (F (m - 1)) (.seq (S.par2 5 6 (E.cons (E.comp false (Tg.nm 7) [7] (E.irng 1 (E.cons (E.blt Blt.len (E.cons (E.idx (E.v 3) (E.k (D.int 2))) E.nil)) E.nil)) E.yes (E.bin Bop.add (E.k (D.int 1000)) (E.v 7))) (E.cons (E.comp false (Tg.nm 7) [7] (E.irng 1 (E.cons (E.blt Blt.len (E.cons (E.idx (E.v 4) (E.k (D.int 2))) E.nil)) E.nil)) E.yes (E.bin Bop.add (E.k (D.int 2000)) (E.v 7))) E.nil))) r) ς2 Gb = evS (F (m - 1)) r ς3 Gb := fun r =>
    par2_s (cons_s (fr (N := 1000) (e := a) rfl rfl a3) (cons_s (fr (N := 2000) (e := b) rfl rfl b3) nil_s))
  have s4 : ∀ r, evS (F (m - 1)) (.seq (S.set 8 (E.call 45 5 (E.cons (E.v 2) (E.cons (E.v 3) (E.cons (E.v 4) (E.cons (E.v 5) (E.cons (E.v 6) E.nil))))))) r) ς3 Gb = evS (F (m - 1)) r ς4 G3 := fun r =>
    set_s (call_s (cons_s (v_s (d := nsD (List.range t.length)) rfl) (cons_s (v_s (d := eD a) rfl) (three_v (d := eD b) (e := nsD (fresh 1000 a.2.2.length)) (f := nsD (fresh 2000 b.2.2.length)) rfl rfl rfl))) rfl e45)
  have tb : ∀ {ς : Env'} {G : Hs} {i j : Nat} {e : Ed} {N : Nat}, ς.length = 18 → ς[i]? = some (some (eD e)) → i ≠ 7 → j ≠ 7 → e.2.2.length ≤ 4 → ς[j]? = some (some (nsD (fresh N e.2.2.length))) → (ev (F (m - 1)) (E.comp false (Tg.nm 7) [7] (E.irng 1 (E.cons (E.blt Blt.len (E.cons (E.v j) E.nil)) E.nil)) E.yes (E.tup (E.cons (E.bin Bop.add (E.k (D.int (N : Nat))) (E.v 7)) (E.cons (E.idx (E.idx (E.v i) (E.k (D.int 2))) (E.v 7)) E.nil))))).1 ς G = some (.lst (tabD (tab N e.2.2)), G) := fun {ς G i j e N} hL h hi hj he h2 => by
    refine tab_comp (rng_it (len_v h2 (by simp [nsD, fresh])) (by omega)) (by omega) fun k hk => ?_
    have q7 : ((wipeE ς [7]).set 7 (some (.int (k : Nat))))[7]? = some (some (.int (k : Nat))) := List.getElem?_set_self (by rw [wipe_len]; omega)
    have qi : ((wipeE ς [7]).set 7 (some (.int (k : Nat))))[i]? = some (some (eD e)) := by rw [List.getElem?_set_ne (Ne.symm hi), wipe_at (by simp; omega), h]
    refine tup_s (G1 := G) (cons_s (G1 := G) ?_ (cons_s (G1 := G) ?_ nil_s)) (by simp)
    · rw [ev_bin1, ev_k1, bnd_s, v_s q7, bnd_s, bin_addi]; rfl
    · rw [ev_idx1, ie qi, bnd_s, v_s q7, bnd_s, sgnAt (by omega) hk]
  have tn : (ev (F (m - 1)) (E.comp false (Tg.nm 7) [7] (E.iseq (E.v 2)) E.yes (E.tup (E.cons (E.v 7) (E.cons (E.idx (E.v 1) (E.v 7)) E.nil))))).1 ς4 G3 = some (.lst (tabD (tab 0 t)), G3) := by
    refine tab_comp (names_it rfl) (by omega) fun k hk => ?_
    have q7 : ((wipeE ς4 [7]).set 7 (some (.int (k : Nat))))[7]? = some (some (.int (k : Nat))) := rfl
    refine tup_s (cons_s (G1 := G3) (x := .int (0 + k : Nat)) ?_ (cons_s (idx_v (d := .str t) rfl q7 (sgnAt (by omega) hk)) nil_s)) (by simp)
    rw [Nat.zero_add]; exact v_s q7
  have s5 : ∀ r, evS (F (m - 1)) (.seq (S.set 9 (E.blt Blt.dict (E.cons (E.bin Bop.add (E.bin Bop.add (E.comp false (Tg.nm 7) [7] (E.iseq (E.v 2)) E.yes (E.tup (E.cons (E.v 7) (E.cons (E.idx (E.v 1) (E.v 7)) E.nil)))) (E.comp false (Tg.nm 7) [7] (E.irng 1 (E.cons (E.blt Blt.len (E.cons (E.v 5) E.nil)) E.nil)) E.yes (E.tup (E.cons (E.bin Bop.add (E.k (D.int 1000)) (E.v 7)) (E.cons (E.idx (E.idx (E.v 3) (E.k (D.int 2))) (E.v 7)) E.nil))))) (E.comp false (Tg.nm 7) [7] (E.irng 1 (E.cons (E.blt Blt.len (E.cons (E.v 6) E.nil)) E.nil)) E.yes (E.tup (E.cons (E.bin Bop.add (E.k (D.int 2000)) (E.v 7)) (E.cons (E.idx (E.idx (E.v 4) (E.k (D.int 2))) (E.v 7)) E.nil))))) E.nil))) r) ς4 G3 = evS (F (m - 1)) r ς5 G4 := fun r =>
    set_s (dict_tab (add_l (add_l tn (tb (N := 1000) (e := a) rfl rfl (by omega) (by omega) a3 rfl) (by simp [tab]; omega)) (tb (N := 2000) (e := b) rfl rfl (by omega) (by omega) b3 rfl) (by simp [tab]; omega)) hps)
  have s6 : ∀ r, evS (F (m - 1)) (.seq (S.set 10 (E.call 25 3 (E.cons (E.v 1) (E.cons (E.v 3) (E.cons (E.v 4) E.nil))))) r) ς5 G4 = evS (F (m - 1)) r ς6 G4 := fun r =>
    set_s (call_s (three_v (d := .str t) (e := eD a) (f := eD b) rfl rfl rfl) rfl e25)
  have hat : G4[G3.length]? = some (.dct (ps.map (kv chr))) := at_new
  have t1 : (ev (F (m - 1)) (E.cmp Cop.ne (E.v 10) (E.mth Mth.join (E.k (D.str [])) (E.cons (E.comp false (Tg.nm 11) [11] (E.iseq (E.v 8)) E.yes (E.idx (E.v 9) (E.v 11))) E.nil)))).2 ς6 G4 = some (false, G4) := by
    refine ne_f (v_s (d := .str (mergeF t a b a.2.2 b.2.2)) rfl) (join_ev (i := 11) (φ := φ) (due := due) rfl rfl hat (by show 11 < 18; omega) (by omega) (by omega) hin) ?_
    rw [← hdue]; exact ne_str
  obtain ⟨ς7, l7, e7, L7, k7⟩ := hBody_ev (m := m - 1) (by omega) (G := G4) (ς := ((ς6.set 12 (some (eD a))).set 13 (some (eD b))).set 14 (some (.bl false))) (f := a) (s := b) (ah := false) rfl rfl rfl rfl rfl rfl rfl rfl (by omega) oka (by omega) (by omega) okc1 w1 hp1
  have L8 : (((ς7.set 12 (some (eD b))).set 13 (some (eD a))).set 14 (some (.bl true))).length = 18 := by simp [L7]
  have k8 : ∀ i, i < 12 → (((ς7.set 12 (some (eD b))).set 13 (some (eD a))).set 14 (some (.bl true)))[i]? = (((ς6.set 12 (some (eD a))).set 13 (some (eD b))).set 14 (some (.bl false)))[i]? := fun i hi =>
    (((set_o (by omega)).trans (set_o (by omega))).trans (set_o (by omega))).trans (k7 i hi)
  obtain ⟨ς9, l9, e9, L9, k9⟩ := hBody_ev (m := m - 1) (by omega) (G := G4 ++ l7) (ς := ((ς7.set 12 (some (eD b))).set 13 (some (eD a))).set 14 (some (.bl true))) (f := b) (s := a) (ah := true) L8 ((k8 1 (by omega)).trans rfl) ((k8 2 (by omega)).trans rfl) ((k8 8 (by omega)).trans rfl) ((k8 10 (by omega)).trans rfl)
    ((set_o (by omega)).trans ((set_o (by omega)).trans (set_v L7 (by omega)))) ((set_o (by omega)).trans (set_v (n := 18) (by simp [L7]) (by omega))) (set_v (n := 18) (by simp [L7]) (by omega)) (by omega) okb (by omega) (by omega) okc2 w2 hp2
  refine ⟨G4 ++ l7 ++ l9, ((((b5.app).app).app).app), run_ t48 rfl (by omega) ?_⟩
  show (evS (F (m - 1)) b48 ς0 G).bind outD = _
  unfold b48
  rw [s1, s2, s3, s4, s5, s6, seq_ife_f t1, for_nx (ds := [.tup [eD a, eD b, .bl false], .tup [eD b, eD a, .bl true]]) (G1 := G4) (G2 := G4 ++ l7 ++ l9) (ς' := ς9) (by
      rw [ev_iseq1, ev_lst1, cons_s (tup_s (three_s (v_s (d := eD a) rfl) (v_s (d := eD b) rfl) ev_k1) (by simp)) (cons_s (tup_s (three_s (v_s (d := eD b) rfl) (v_s (d := eD a) rfl) ev_k1) (by simp)) nil_s), bnd_s, argK_s, lstK_s, if_pos (by rw [sz]; simp), newD_f, bnd_s]
      rfl) (by
    refine for_step' bind3 e7 (for_step' bind3 e9 rfl))]
  exact seq_ret ev_k1
end K01
set_option Elab.async false
set_option linter.all false
set_option autoImplicit false
set_option maxRecDepth 100000
set_option maxHeartbeats 1000000
namespace K01
open PySem PySem.Spec L2 Mp
open PyProof.Rows hiding St

variable {dn : Nat} {G G1 G2 G' : Hs}
/-! 47: plain -/
theorem rg_drop {n k x : Nat} (h : x ∈ (List.range n).drop k) : k ≤ x ∧ x < n := by
  obtain ⟨i, hi, e⟩ := List.mem_iff_getElem.mp h
  simp at hi e
  omega
theorem rg_take {n k x : Nat} (h : x ∈ (List.range n).take k) : x < k ∧ x < n := by
  obtain ⟨i, hi, e⟩ := List.mem_iff_getElem.mp h
  simp at hi e
  omega
theorem rg_mid {n k g x : Nat} (h : x ∈ ((List.range n).drop k).take g) : k ≤ x ∧ x < k + g ∧ x < n := by
  obtain ⟨i, hi, e⟩ := List.mem_iff_getElem.mp h
  simp at hi e
  omega
def joinE (t : List Nat) (a b : Ed) : Ed := (min a.1 b.1, max (a.1 + a.2.2.length) (b.1 + b.2.1) - a.2.2.length + a.2.1 - min a.1 b.1, ((putE (putE t a) b).drop (min a.1 b.1)).take (max (a.1 + a.2.2.length) (b.1 + b.2.1) - b.2.1 + b.2.2.length - min a.1 b.1))
theorem Sg.put {t c : List Nat} {p g : Nat} (h : Sg t) (h2 : Sg c) : Sg (put t p g c) := ((h.take).app h2).app h.drop
theorem join_ok {t : List Nat} {a b : Ed} (ha : a.1 + a.2.1 ≤ t.length) (hb : b.1 + b.2.1 ≤ (putE t a).length) (hs : Sg t) (sa : Sg a.2.2) (sb : Sg b.2.2) (hl : (putE (putE t a) b).length ≤ 2000) : okEd t (joinE t a b) ∧ putE t (joinE t a b) = putE (putE t a) b := by
  obtain ⟨p, g, c⟩ := a
  obtain ⟨q, h, d⟩ := b
  obtain ⟨k1, k2⟩ := joined_put (t := t) (c1 := c) (c2 := d) (p1 := p) (g1 := g) (p2 := q) (g2 := h) ha hb
  have k3 : putE t (joinE t (p, g, c) (q, h, d)) = putE (putE t (p, g, c)) (q, h, d) := k2
  have hl2 := put_len (t := t) (q := (joinE t (p, g, c) (q, h, d)).1) (h := (joinE t (p, g, c) (q, h, d)).2.1) (d := (joinE t (p, g, c) (q, h, d)).2.2) k1
  have e : (put t (joinE t (p, g, c) (q, h, d)).1 (joinE t (p, g, c) (q, h, d)).2.1 (joinE t (p, g, c) (q, h, d)).2.2).length = (putE (putE t (p, g, c)) (q, h, d)).length := congrArg List.length k3
  rw [hl2] at e
  have sg : Sg (joinE t (p, g, c) (q, h, d)).2.2 := ((hs.put sa).put sb).drop.take
  have k4 : (joinE t (p, g, c) (q, h, d)).2.2.length ≤ (putE (putE t (p, g, c)) (q, h, d)).length := by
    show (List.take _ (List.drop _ _)).length ≤ _
    rw [List.length_take, List.length_drop]; omega
  exact ⟨⟨k1, sg, by omega, by omega⟩, k3⟩
theorem join_hold {t : List Nat} {a b : Ed} (ha : a.1 + a.2.1 ≤ t.length) (hb : b.1 + b.2.1 ≤ (putE t a).length) {nm F1 F2 : List Nat} (hn : nm.length = t.length) (h1 : F1.length = a.2.2.length) (h2 : F2.length = b.2.2.length) (hL : (put (put nm a.1 a.2.1 F1) b.1 b.2.1 F2).Nodup) :
    ∀ p ∈ hold t.length 0 0 [joinE t a b], p ∈ pairsOf nm (put (put nm a.1 a.2.1 F1) b.1 b.2.1 F2) := by
  obtain ⟨p, g, c⟩ := a
  obtain ⟨q, h, d⟩ := b
  have ha : p + g ≤ t.length := ha
  have hb : q + h ≤ (put t p g c).length := hb
  have h1 : F1.length = c.length := h1
  have h2 : F2.length = d.length := h2
  have hl1 := put_len (t := t) (d := c) ha
  have hl1' := put_len (t := nm) (d := F1) (by rw [hn]; exact ha)
  have hb' : q + h ≤ (put nm p g F1).length := by omega
  have hl2 := put_len (t := put t p g c) (d := d) hb
  have hl2' := put_len (t := put nm p g F1) (d := F2) hb'
  obtain ⟨k1, k2⟩ := joined_put (t := nm) (c1 := F1) (c2 := F2) (p1 := p) (g1 := g) (p2 := q) (g2 := h) (by omega) hb'
  rw [h1, h2] at k2
  rw [h1, hn] at k1
  have le : lenEq [joinE t (p, g, c) (q, h, d)] [(min p q, max (p + c.length) (q + h) - c.length + g - min p q, ((put (put nm p g F1) q h F2).drop (min p q)).take (max (p + c.length) (q + h) - h + d.length - min p q))] := by
    refine ⟨rfl, rfl, ?_, trivial⟩
    show ((List.drop _ (put (put t p g c) q h d)).take _).length = _
    rw [List.length_take, List.length_drop, List.length_take, List.length_drop, hl2, hl2', hl1, hl1', hn, h1, h2]
  intro ⟨k, j⟩ hkj
  rw [hold_lenEq le] at hkj
  have hw : WfG nm.length 0 [(min p q, max (p + c.length) (q + h) - c.length + g - min p q, ((put (put nm p g F1) q h F2).drop (min p q)).take (max (p + c.length) (q + h) - h + d.length - min p q))] := by
    rw [hn]
    exact ⟨Nat.zero_le _, k1, k1⟩
  rw [← hn] at hkj
  obtain ⟨e1, e2⟩ := hold_at nm hw hkj
  have hk := (hold_mem hw hkj).2.1
  rw [weave1, Nat.sub_zero] at e1
  have e3 : (put (put nm p g F1) q h F2)[j]? = nm[k]? := by
    rw [← e1]
    exact congrArg (fun z : List Nat => z[j]?) k2.symm
  exact (mem_pairsOf hL).mpr ⟨nm[k], List.getElem?_eq_getElem hk, by rw [e3, List.getElem?_eq_getElem hk]⟩
theorem undo_plain {t : List Nat} {p g q h : Nat} {c d : List Nat} (ha : p + g ≤ t.length) (hb : q + h ≤ (put t p g c).length) (hl : t.length ≤ 900) (hc : c.length ≤ 900) :
    let nm := List.range t.length
    let M := put nm p g (fresh 1000 c.length)
    let N := 1000 + c.length
    let L := put M q h (fresh N d.length)
    let due := mergeF M (p, c.length, (t.drop p).take g) (q, h, d) ((nm.drop p).take g) (fresh N d.length)
    M.Nodup ∧ L.Nodup ∧ hold (put (put t p g c) q h d).length 0 0 (undo t (p, g, c) (q, h, d)) = pairsOf L due ∧
    ∃ φ : Nat → Nat, weave (put (put t p g c) q h d) 0 (undo t (p, g, c) (q, h, d)) = due.map φ ∧ (∀ x ∈ due, lookP (tab 0 t ++ tab N d) x = some (φ x)) := by
  intro nm M N L due
  have lr : nm.length = t.length := List.length_range
  have f1 : (fresh 1000 c.length).length = c.length := by simp [fresh]
  have f2 : (fresh N d.length).length = d.length := by simp [fresh]
  have hw1 : WfG nm.length 0 [(p, g, fresh 1000 c.length)] := by rw [lr]; exact ⟨Nat.zero_le _, ha, ha⟩
  have eM : M = weave nm 0 [(p, g, fresh 1000 c.length)] := by rw [weave1]; rfl
  have hlM : M.length = (put t p g c).length := by rw [put_len (by omega), put_len ha, lr, f1]
  have hM : M.Nodup := by
    rw [eM]
    refine weave_nodup' List.nodup_range hw1 (fun e he => ?_) (by simp)
    simp at he; subst he
    exact ⟨fresh_nodup _ _, fun x hx hin => by have := fresh_mem.mp hx; have := List.mem_range.mp hin; omega⟩
  have inM : ∀ x ∈ M, x < p ∨ (1000 ≤ x ∧ x < N) ∨ (p + g ≤ x ∧ x < t.length) := fun x hx => by
    have hx : x ∈ nm.take p ++ fresh 1000 c.length ++ nm.drop (p + g) := hx
    rcases List.mem_append.mp hx with hx | hx
    · rcases List.mem_append.mp hx with hx | hx
      · exact .inl (rg_take hx).1
      · exact .inr (.inl (fresh_mem.mp hx))
    · exact .inr (.inr (rg_drop hx))
  have hw2 : WfG M.length 0 [(q, h, fresh N d.length)] := by rw [hlM]; exact ⟨Nat.zero_le _, hb, hb⟩
  have eL : L = weave M 0 [(q, h, fresh N d.length)] := by rw [weave1]; rfl
  have hlL : L.length = (put (put t p g c) q h d).length := by rw [put_len (by omega), put_len hb, hlM, f2]
  have hL : L.Nodup := by
    rw [eL]
    refine weave_nodup' hM hw2 (fun e he => ?_) (by simp)
    simp at he; subst he
    exact ⟨fresh_nodup _ _, fun x hx hin => by have := fresh_mem.mp hx; have := inM x hin; omega⟩
  have inL : ∀ x ∈ L, x ∈ M ∨ N ≤ x := fun x hx => by
    rw [eL] at hx
    rcases weave_mem M hw2 hx with h | ⟨e, he, h⟩
    · exact .inl (List.mem_of_mem_drop h)
    · simp at he; subst he; exact .inr (fresh_mem.mp h).1
  have hlT := put_len (t := t) (d := c) ha
  obtain ⟨c1, c2, c3⟩ := carry_weave (t := M) (p := p) (g := c.length) (q := q) (h := h) (c := (nm.drop p).take g) (d := fresh N d.length) (first := true) (by omega) (by omega)
  obtain ⟨k1, _, _, _⟩ := carry_come (e := (p, c.length, (nm.drop p).take g)) (o := (q, h, fresh N d.length)) (first := true)
  have edue : weave L 0 (carry (p, c.length, (nm.drop p).take g) (q, h, fresh N d.length) true) = due := c1
  have htk : ∀ x ∈ (nm.drop p).take g, x ∉ L := fun x hx hin => by
    have h1 := rg_mid hx
    rcases inL x hin with h2 | h2
    · have := inM x h2; omega
    · omega
  have htn : ((nm.drop p).take g).Nodup := List.nodup_range.sublist ((List.take_sublist _ _).trans (List.drop_sublist _ _))
  have hcome : ∀ e ∈ carry (p, c.length, (nm.drop p).take g) (q, h, fresh N d.length) true, e.2.2.Nodup ∧ ∀ x ∈ e.2.2, x ∉ L := fun e he => by
    rcases k1 e he with z | z
    · rw [z]; exact ⟨htn, htk⟩
    · rw [z]; exact ⟨by simp, by simp⟩
  have hdn : due.Nodup := by
    rw [← edue]
    exact weave_nodup' hL (wf_wf c2) hcome carry_pw
  have hhold : hold L.length 0 0 (carry (p, c.length, (nm.drop p).take g) (q, h, fresh N d.length) true) = pairsOf L due := by
    have := hold_pairs hL (wf_wf c2) (by rw [edue]; exact hdn) fun e he x hx => (hcome e he).2 x hx
    rw [edue] at this
    exact this
  have le : lenEq (undo t (p, g, c) (q, h, d)) (carry (p, c.length, (nm.drop p).take g) (q, h, fresh N d.length) true) := by
    refine carry_lenEq ?_ f2.symm
    rw [List.length_take, List.length_drop, List.length_take, List.length_drop, lr]
  refine ⟨hM, hL, ?_, ?_⟩
  · rw [hold_lenEq le, ← hlL, hhold]
  · let ps := tab 0 t ++ tab 1000 c ++ tab N d
    have hps : ps.Pairwise fun p q => p.1 ≠ q.1 := by
      refine tab_app (tab_app (tab_ne _ _) fun p hp => ?_) fun p hp => ?_
      · have := tab_fst hp; omega
      · rcases List.mem_append.mp hp with hp | hp
        · have := tab_fst hp; omega
        · have := tab_fst hp; omega
    have hps2 : (tab 0 t ++ tab N d).Pairwise fun p q => p.1 ≠ q.1 := tab_app (tab_ne _ _) fun p hp => by have := tab_fst hp; omega
    let φ : Nat → Nat := fun x => (lookP ps x).getD 0
    have hφ' : ∀ p ∈ ps, φ p.1 = p.2 := fun p hp => by show (lookP ps p.1).getD 0 = _; rw [lookP_mem hps hp]; rfl
    have m0 : nm.map φ = t := by
      show (List.range t.length).map φ = t
      rw [← fresh0]
      exact map_tab fun p hp => hφ' p (List.mem_append_left _ (List.mem_append_left _ hp))
    have m1 : (fresh 1000 c.length).map φ = c := map_tab fun p hp => hφ' p (List.mem_append_left _ (List.mem_append_right _ hp))
    have m2 : (fresh N d.length).map φ = d := map_tab fun p hp => hφ' p (List.mem_append_right _ hp)
    have mM : M.map φ = put t p g c := by
      show (nm.take p ++ fresh 1000 c.length ++ nm.drop (p + g)).map φ = _
      rw [List.map_append, List.map_append, List.map_take, List.map_drop, m0, m1]; rfl
    have mT : ((nm.drop p).take g).map φ = (t.drop p).take g := by rw [List.map_take, List.map_drop, m0]
    refine ⟨φ, ?_, fun x hx => ?_⟩
    · have w := (carry_weave (t := put t p g c) (p := p) (g := c.length) (q := q) (h := h) (c := (t.drop p).take g) (d := d) (first := true) (by omega) hb).1
      have w : weave (put (put t p g c) q h d) 0 (undo t (p, g, c) (q, h, d)) = mergeF (put t p g c) (p, c.length, (t.drop p).take g) (q, h, d) ((t.drop p).take g) d := w
      have := merge_map φ (nm := M) (one := (nm.drop p).take g) (other := fresh N d.length) (f := (p, c.length, (t.drop p).take g)) (s := (q, h, d)) (f' := (p, c.length, (t.drop p).take g)) (s' := (q, h, d)) ⟨rfl, rfl⟩ ⟨rfl, rfl⟩
      rw [mM, mT, m2] at this
      rw [w, this]
    · have hex : ∃ v, (x, v) ∈ tab 0 t ++ tab N d := by
        have small : x < t.length → ∃ v, (x, v) ∈ tab 0 t ++ tab N d := fun hx => ⟨t[x], List.mem_append_left _ (tab_mem.mpr ⟨x, by omega, List.getElem?_eq_getElem hx⟩)⟩
        rcases mem_merge hx with h | h | ⟨i, h, hi, _⟩
        · exact small (rg_mid h).2.2
        · have h := fresh_mem.mp h
          exact ⟨d[x - N], List.mem_append_right _ (tab_mem.mpr ⟨x - N, by omega, List.getElem?_eq_getElem (by omega)⟩)⟩
        · have hxM := List.mem_of_getElem? h
          rcases inM x hxM with h1 | h1 | h1
          · exact small (by omega)
          · exfalso
            have hn : (put nm p g (fresh 1000 c.length))[p + (x - 1000)]? = some x := by
              unfold put
              have l1 : (nm.take p).length = p := by simp; omega
              rw [List.append_assoc, List.getElem?_append_right (by omega), l1, List.getElem?_append_left (by omega)]
              unfold fresh
              rw [List.getElem?_map, show p + (x - 1000) - p = x - 1000 by omega, List.getElem?_range (by omega)]
              show some (1000 + (x - 1000)) = _
              congr 1; omega
            have e := (List.getElem?_inj (List.getElem?_eq_some_iff.mp h).1 hM).mp (h.trans hn.symm)
            have : inE (p, c.length, (t.drop p).take g) i = true := by
              unfold inE
              rw [decide_eq_true_eq]
              show p ≤ i ∧ i < p + c.length
              omega
            rw [this] at hi; cases hi
          · exact small h1.2
      obtain ⟨v, hv⟩ := hex
      have hv2 : (x, v) ∈ ps := by
        rcases List.mem_append.mp hv with h | h
        · exact List.mem_append_left _ (List.mem_append_left _ h)
        · exact List.mem_append_right _ h
      rw [lookP_mem hps2 hv]
      exact congrArg some (hφ' (x, v) hv2).symm
end K01
set_option Elab.async false
set_option linter.all false
set_option autoImplicit false
set_option maxRecDepth 100000
set_option maxHeartbeats 4000000
namespace K01
open PySem PySem.Spec L2 Mp
open PyProof.Rows hiding St

variable {dn : Nat} {G G1 G2 G' : Hs}
/-! 47 -/
abbrev jT1 : E := (E.or (E.cmp Cop.ne (E.call 6 2 (E.cons (E.v 1) (E.cons (E.v 8) E.nil))) (E.v 9)) (E.cmp Cop.ne (E.comp false (Tg.nm 10) [10] (E.iseq (E.call 28 2 (E.cons (E.v 1) (E.cons (E.tup (E.cons (E.v 8) E.nil)) E.nil)))) (E.cmp Cop.nin (E.v 10) (E.call 43 2 (E.cons (E.v 2) (E.cons (E.v 7) E.nil)))) (E.v 10)) (E.lst false E.nil)))
abbrev jT2 : E := (E.or (E.cmp Cop.ne (E.call 14 2 (E.cons (E.v 9) (E.cons (E.v 16) E.nil))) (E.v 15)) (E.or (E.cmp Cop.ne (E.blt Blt.len (E.cons (E.v 15) E.nil)) (E.blt Blt.len (E.cons (E.v 13) E.nil))) (E.not (E.call 38 2 (E.cons (E.call 28 2 (E.cons (E.v 9) (E.cons (E.v 16) E.nil))) (E.cons (E.call 43 2 (E.cons (E.v 7) (E.cons (E.v 13) E.nil))) E.nil))))))
theorem jT1_ev {m : Nat} (hm : 7 ≤ m) {ς : Env'} {t aft nm L : List Nat} {J : Ed} (hL : 10 < ς.length) (h1 : ς[1]? = some (some (.str t))) (h2 : ς[2]? = some (some (nsD nm))) (h7 : ς[7]? = some (some (nsD L))) (h8 : ς[8]? = some (some (eD J))) (h9 : ς[9]? = some (some (.str aft)))
    (hl : t.length ≤ 100) (hn : nm.length ≤ 1000) (hJ : okEd t J) (hp : putE t J = aft) (hh : ∀ p ∈ hold t.length 0 0 [J], p ∈ pairsOf nm L) : ∃ l, (ev (F m) jT1).2 ς G = some (false, G ++ l) := by
  have e1 := appliedE_run (m := m) (by omega) (G := G) (by omega : t.length ≤ 5000) hJ
  rw [hp] at e1
  have okO := okEs_one hJ (by omega)
  obtain ⟨l, e2⟩ := hold_of_run (m := m) (by omega) (G := G) (t := t) (by omega) okO
  have hH : (hold t.length 0 0 [J]).length ≤ 100 := by have := hold_len (now := 0) okO.wf; omega
  refine ⟨l, or_ff (ne_f (call_s (two_v h1 h8) rfl e1) (v_s h9) ne_str) (ne_f (comp_none (G1 := G ++ l) (ds := (hold t.length 0 0 [J]).map pD) ?_ (by simp; omega) ?_) (y := .lst []) (by simp) ne_nil)⟩
  · rw [ev_iseq1, call_s (n := 2) (ds := [.str t, esD [J]]) (cons_s (v_s h1) (cons_s (x := esD [J]) (tup_s (one_v h8) (by simp)) nil_s)) rfl e2]
    rfl
  · intro d hd
    obtain ⟨p, hp, rfl⟩ := List.mem_map.mp hd
    have q1 : ((wipeE ς [10]).set 10 (some (pD p)))[10]? = some (some (pD p)) := List.getElem?_set_self (by rw [wipe_len]; exact hL)
    have q : ∀ i, i ≠ 10 → ((wipeE ς [10]).set 10 (some (pD p)))[i]? = ς[i]? := fun i hi => by
      rw [List.getElem?_set_ne (Ne.symm hi), wipe_at (by simp; omega)]
    rw [ev_cmp2, v_s q1, bnd_s, call_s (n := 2) (two_v ((q 2 (by omega)).trans h2) ((q 7 (by omega)).trans h7)) rfl (pairs_run (m := m) (by omega) (by omega)), bnd_s, cmpD_s, nin_ps (hh p hp)]
    rfl
theorem sl_ns {cl : Nat → List D → Hs → Rs} {ς : Env'} {xs : List Nat} {p g : Nat} : slD false (nsD xs) (some (p : Int)) (some ((p : Int) + (g : Int))) G = some (nsD ((xs.drop p).take g), G) := by
  unfold nsD
  rw [sl_lst, cutN_map, cut_pg]
theorem between_ok {m : Nat} (hm : 6 ≤ m) {a b : List Nat} (ha : a.length ≤ 1000) (hb : b.length ≤ 1000) (hs : Sg b) : ∃ e, F m 10 [.str a, .str b] G = some (e, G) ∧ F m 6 [.str a, e] G = some (.str b, G) := by
  obtain ⟨k, l, h1, h2, h3, h4, e⟩ := between_run (m := m) (by omega) (G := G) (a := a) (b := b) (by omega) (by omega)
  refine ⟨_, e, ?_⟩
  have := applied_run (m := m) (by omega) (G := G) (t := a) (p := k) (g := a.length - k - l) (c := (b.drop k).take (b.length - l - k)) (by omega) ⟨by omega, hs.drop.take, by simp; omega, by simp; omega⟩
  rw [between_put h1 h2 h3 h4] at this
  exact this
theorem joined_law {m : Nat} (hm : 9 ≤ m) {t : List Nat} (ht : Sg t) (hl : t.length ≤ 40) (hd : Dr dn G) : ∃ G', Dr dn G' ∧ F m 47 [.ref dn, .str t] G = some (.bl true, G') := by
  obtain ⟨a, Ga, a1, a2, a3, a4, a5, ea⟩ := edit_run (m := m - 1) (by omega) hd (long := t.length) (by omega)
  obtain ⟨p, g, c⟩ := a
  have a1 : p + g ≤ t.length := a1
  have a2 : Sg c := a2
  have a3 : c.length ≤ 4 := a3
  have hT1 := put_len (t := t) (d := c) a1
  let nm := List.range t.length
  let M := put nm p g (fresh 1000 c.length)
  let N := 1000 + c.length
  have lr : nm.length = t.length := List.length_range
  have hlM : M.length = (put t p g c).length := by rw [put_len (by omega), hT1, lr]; simp [fresh]
  obtain ⟨b, Gb, b1, b2, b3, b4, b5, eb⟩ := edit_run (m := m - 1) (by omega) a5 (long := M.length) (by omega)
  obtain ⟨q, h, d⟩ := b
  have b1 : q + h ≤ M.length := b1
  rw [hlM] at b1
  have b2 : Sg d := b2
  have b3 : d.length ≤ 4 := b3
  have hT2 := put_len (t := put t p g c) (d := d) b1
  let L := put M q h (fresh N d.length)
  let due := mergeF M (p, c.length, (t.drop p).take g) (q, h, d) ((nm.drop p).take g) (fresh N d.length)
  obtain ⟨u1, u2, u3, φ, u4, u5⟩ := undo_plain (t := t) (d := d) a1 b1 (by omega) (by omega)
  have u1 : M.Nodup := u1
  have u2 : L.Nodup := u2
  have u3 : hold (put (put t p g c) q h d).length 0 0 (undo t (p, g, c) (q, h, d)) = pairsOf L due := u3
  have u4 : weave (put (put t p g c) q h d) 0 (undo t (p, g, c) (q, h, d)) = due.map φ := u4
  have u5 : ∀ x ∈ due, lookP (tab 0 t ++ tab N d) x = some (φ x) := u5
  have oka : okEd t (p, g, c) := ⟨a1, a2, by show t.length - g + c.length ≤ 2000; omega, by show c.length ≤ 2000; omega⟩
  have okb : okEd (put t p g c) (q, h, d) := ⟨b1, b2, by show (put t p g c).length - h + d.length ≤ 2000; omega, by show d.length ≤ 2000; omega⟩
  have sS : Sg ((t.drop p).take g) := ht.drop.take
  have lS : ((t.drop p).take g).length ≤ t.length := by simp; omega
  have oku : OkEs (putE (put t p g c) (q, h, d)) (undo t (p, g, c) (q, h, d)) := carry_ok (t := put t p g c) (e := (p, c.length, (t.drop p).take g)) (o := (q, h, d)) (by show p + c.length ≤ _; omega) b1 sS (by show (put t p g c).length + ((t.drop p).take g).length + d.length ≤ 2000; omega)
  obtain ⟨j1, j2⟩ := join_ok (t := t) (a := (p, g, c)) (b := (q, h, d)) a1 b1 ht a2 b2 (by show (put (put t p g c) q h d).length ≤ 2000; omega)
  have j3 := join_hold (t := t) (a := (p, g, c)) (b := (q, h, d)) (nm := nm) (F1 := fresh 1000 c.length) (F2 := fresh N d.length) a1 b1 lr (by simp [fresh]) (by simp [fresh]) u2
  have e11 := joined_run (m := m - 1) (by omega) (G := Gb) (t := t) (c1 := c) (c2 := d) (p1 := p) (g1 := g) (p2 := q) (g2 := h) (by omega) oka okb (by omega)
  have e11 : F (m - 1) 11 [.str t, eD (p, g, c), eD (q, h, d)] Gb = some (eD (joinE t (p, g, c) (q, h, d)), Gb) := e11
  have e6 := appliedE_run (m := m - 1) (by omega) (G := Gb) (t := t) (e := (p, g, c)) (by omega) oka
  have e6' := appliedE_run (m := m - 1) (by omega) (G := Gb) (t := put t p g c) (e := (q, h, d)) (by omega) okb
  let ς0 : Env' := List.map some [D.ref dn, D.str t] ++ List.replicate (19 - 2) none
  let ς1 := ς0.set 2 (some (nsD nm))
  let ς2 := ς1.set 3 (some (eD (p, g, c)))
  let ς3 := (ς2.set 4 (some (nsD M))).set 5 (some (.int (N : Nat)))
  let ς4 := ς3.set 6 (some (eD (q, h, d)))
  let ς5 := ς4.set 7 (some (nsD L))
  let ς6 := (ς5.set 8 (some (eD (joinE t (p, g, c) (q, h, d))))).set 9 (some (.str (put (put t p g c) q h d)))
  have lt : ∀ {ς : Env'} {G : Hs}, ς[1]? = some (some (.str t)) → (ev (F (m - 1)) (.blt .len (.cons (.v 1) .nil))).1 ς G = some (.int t.length, G) := fun h => len_v (n := t.length) h (by rw [Mp.len_str, if_pos (by rw [sz]; omega)])
  have s1 : ∀ r, evS (F (m - 1)) (.seq (S.set 2 (E.lrg false 1 (E.cons (E.blt Blt.len (E.cons (E.v 1) E.nil)) E.nil))) r) ς0 G = evS (F (m - 1)) r ς1 G := fun r => by
    refine set_s ?_
    rw [ev_lrg1, cons_s (lt rfl) nil_s, bnd_s, argK_s, if_pos (by rfl), range_s (by omega)]
  have s2 : ∀ r, evS (F (m - 1)) (.seq (S.set 3 (E.call 40 2 (E.cons (E.v 0) (E.cons (E.blt Blt.len (E.cons (E.v 1) E.nil)) E.nil)))) r) ς1 G = evS (F (m - 1)) r ς2 Ga := fun r =>
    set_s (call_s (cons_s (v_s (d := .ref dn) rfl) (cons_s (lt rfl) nil_s)) rfl ea)
  have e42 := behind_names_run (m := m - 1) (by omega) (G := Ga) (nm := nm) (es := [(p, g, c)]) (n := 1000) (by omega) ⟨Nat.zero_le _, by omega, by show p + g ≤ _; omega⟩ (fun e he => by simp at he; subst he; show c.length ≤ 100; omega) (by simp)
  have e42 : F (m - 1) 42 [nsD nm, esD [(p, g, c)], .int 1000] Ga = some (.tup [nsD M, .int (N : Nat)], Ga) := e42.trans (by
    have z1 : weave nm 0 (nameEs 1000 [(p, g, c)]) = M := weave1
    have z2 : 1000 + nameTot [(p, g, c)] = N := by simp [nameTot, N]
    rw [z1, z2])
  have s3 : ∀ r, evS (F (m - 1)) (.seq (S.tgt (Tg.tp (Tg.cons (Tg.nm 4) (Tg.cons (Tg.nm 5) Tg.nil))) (E.call 42 3 (E.cons (E.v 2) (E.cons (E.tup (E.cons (E.v 3) E.nil)) (E.cons (E.k (D.int 1000)) E.nil))))) r) ς2 Ga = evS (F (m - 1)) r ς3 Ga := fun r =>
    tgt_s (call_s (cons_s (v_s (d := nsD nm) rfl) (cons_s (x := esD [(p, g, c)]) (tup_s (one_v (d := eD (p, g, c)) rfl) (by simp)) (cons_s ev_k1 nil_s))) rfl e42) bind2
  have s4 : ∀ r, evS (F (m - 1)) (.seq (S.set 6 (E.call 40 2 (E.cons (E.v 0) (E.cons (E.blt Blt.len (E.cons (E.v 4) E.nil)) E.nil)))) r) ς3 Ga = evS (F (m - 1)) r ς4 Gb := fun r =>
    set_s (call_s (cons_s (v_s (d := .ref dn) rfl) (cons_s (len_v (n := M.length) (d := nsD M) rfl (by simp [nsD])) nil_s)) rfl eb)
  have e42' := behind_names_run (m := m - 1) (by omega) (G := Gb) (nm := M) (es := [(q, h, d)]) (n := N) (by omega) ⟨Nat.zero_le _, by omega, by show q + h ≤ _; omega⟩ (fun e he => by simp at he; subst he; show d.length ≤ 100; omega) (by simp)
  have z1 : weave M 0 (nameEs N [(q, h, d)]) = L := weave1
  rw [z1] at e42'
  have s5 : ∀ r, evS (F (m - 1)) (.seq (S.set 7 (E.idx (E.call 42 3 (E.cons (E.v 4) (E.cons (E.tup (E.cons (E.v 6) E.nil)) (E.cons (E.v 5) E.nil)))) (E.k (D.int 0)))) r) ς4 Gb = evS (F (m - 1)) r ς5 Gb := fun r => by
    refine set_s ?_
    rw [ev_idx1, call_s (n := 3) (cons_s (v_s (d := nsD M) rfl) (cons_s (x := esD [(q, h, d)]) (tup_s (one_v (d := eD (q, h, d)) rfl) (by simp)) (one_v (d := .int (N : Nat)) rfl))) rfl e42', bnd_s, ev_k1, bnd_s, idx_tup]
    rfl
  have s6 : ∀ r, evS (F (m - 1)) (.seq (S.par2 8 9 (E.cons (E.call 11 3 (E.cons (E.v 1) (E.cons (E.v 3) (E.cons (E.v 6) E.nil)))) (E.cons (E.call 6 2 (E.cons (E.call 6 2 (E.cons (E.v 1) (E.cons (E.v 3) E.nil))) (E.cons (E.v 6) E.nil))) E.nil))) r) ς5 Gb = evS (F (m - 1)) r ς6 Gb := fun r =>
    par2_s (cons_s (call_s (three_v (d := .str t) (e := eD (p, g, c)) (f := eD (q, h, d)) rfl rfl rfl) rfl e11) (cons_s (call_s (cons_s (call_s (two_v (d := .str t) (e := eD (p, g, c)) rfl rfl) rfl e6) (one_v (d := eD (q, h, d)) rfl)) rfl e6') nil_s))
  obtain ⟨l1, t1⟩ := jT1_ev (m := m - 1) (by omega) (G := Gb) (ς := ς6) (t := t) (aft := put (put t p g c) q h d) (nm := nm) (L := L) (J := joinE t (p, g, c) (q, h, d)) (by show 10 < 19; omega) rfl rfl rfl rfl rfl (by omega) (by omega) j1 j2 j3
  let G3 := Gb ++ l1
  let ς7 := ς6.set 11 (some (eD (p, c.length, (t.drop p).take g)))
  let ς8 := ς7.set 12 (some (nsD ((nm.drop p).take g)))
  have e7 := inverseE_run (m := m - 1) (by omega) (G := G3) (t := t) (e := (p, g, c)) (by omega) oka
  have s7 : ∀ r, evS (F (m - 1)) (.seq (S.set 11 (E.call 7 2 (E.cons (E.v 1) (E.cons (E.v 3) E.nil)))) r) ς6 G3 = evS (F (m - 1)) r ς7 G3 := fun r =>
    set_s (call_s (two_v (d := .str t) (e := eD (p, g, c)) rfl rfl) rfl e7)
  have i0 : ∀ {ς : Env'} {G : Hs} {i : Nat} {e : Ed}, ς[i]? = some (some (eD e)) → (ev (F (m - 1)) (.idx (.v i) (.k (.int 0)))).1 ς G = some (.int (e.1 : Nat), G) := fun h => idx_vk h idxE0
  have i1 : ∀ {ς : Env'} {G : Hs} {i : Nat} {e : Ed}, ς[i]? = some (some (eD e)) → (ev (F (m - 1)) (.idx (.v i) (.k (.int 1)))).1 ς G = some (.int (e.2.1 : Nat), G) := fun h => idx_vk h idxE1
  have i2 : ∀ {ς : Env'} {G : Hs} {i : Nat} {e : Ed}, ς[i]? = some (some (eD e)) → (ev (F (m - 1)) (.idx (.v i) (.k (.int 2)))).1 ς G = some (.str e.2.2, G) := fun h => idx_vk h idxE2
  have s8 : ∀ r, evS (F (m - 1)) (.seq (S.set 12 (E.sl false (E.v 2) (E.idx (E.v 3) (E.k (D.int 0))) (E.bin Bop.add (E.idx (E.v 3) (E.k (D.int 0))) (E.idx (E.v 3) (E.k (D.int 1)))))) r) ς7 G3 = evS (F (m - 1)) r ς8 G3 := fun r => by
    refine set_s ?_
    rw [ev_sl1, slF_s, v_s (d := nsD nm) rfl, bnd_s, if_neg (by simp), if_neg (by simp), partD_s, i0 (e := (p, g, c)) rfl, bnd_s, partI_i, bnd_s, partD_s, ev_bin1, i0 (e := (p, g, c)) rfl, bnd_s, i1 (e := (p, g, c)) rfl, bnd_s, bin_addi, bnd_s, partI_i, bnd_s]
    exact sl_ns (cl := F m) (ς := ς0)
  obtain ⟨l2, e45⟩ := merged_run (m := m - 1) (by omega) (G := G3) (nm := M) (one := (nm.drop p).take g) (other := fresh N d.length) (f := (p, c.length, (t.drop p).take g)) (s := (q, h, d)) (by omega) (by simp [nm]; omega) (by simp [fresh]; omega)
  let G4 := G3 ++ l2
  let ς9 := ς8.set 13 (some (nsD due))
  have fr : (ev (F (m - 1)) (E.comp false (Tg.nm 14) [14] (E.irng 1 (E.cons (E.blt Blt.len (E.cons (E.idx (E.v 6) (E.k (D.int 2))) E.nil)) E.nil)) E.yes (E.bin Bop.add (E.v 5) (E.v 14)))).1 ς8 G3 = some (nsD (fresh N d.length), G3) := by
    refine fresh_comp (by show 14 < 19; omega) (j := 0) ?_ (by omega) fun k hk => ?_
    · rw [ev_blt1, cons_s (i2 (e := (q, h, d)) rfl) nil_s, bnd_s, argK_s, blt_len, one_s, Mp.len_str, if_pos (by rw [sz]; show d.length ≤ _; omega)]
    · rw [ev_bin1, v_s (d := .int (N : Nat)) rfl, bnd_s, v_s (d := .int (k : Nat)) rfl, bnd_s, bin_addi]; rfl
  have s9 : ∀ r, evS (F (m - 1)) (.seq (S.set 13 (E.call 45 5 (E.cons (E.v 4) (E.cons (E.v 11) (E.cons (E.v 6) (E.cons (E.v 12) (E.cons (E.comp false (Tg.nm 14) [14] (E.irng 1 (E.cons (E.blt Blt.len (E.cons (E.idx (E.v 6) (E.k (D.int 2))) E.nil)) E.nil)) E.yes (E.bin Bop.add (E.v 5) (E.v 14))) E.nil))))))) r) ς8 G3 = evS (F (m - 1)) r ς9 G4 := fun r =>
    set_s (call_s (cons_s (v_s (d := nsD M) rfl) (cons_s (v_s (d := eD (p, c.length, (t.drop p).take g)) rfl) (cons_s (v_s (d := eD (q, h, d)) rfl) (cons_s (v_s (d := nsD ((nm.drop p).take g)) rfl) (cons_s fr nil_s))))) rfl e45)
  have e27 := without_run (m := m - 1) (by omega) (G := G4) (t := t) (a := (p, g, c)) (b := (q, h, d)) (by omega) oka (by show (put t p g c).length ≤ 5000; omega) okb (by show (put (put t p g c) q h d).length ≤ 5000; omega) oku
  have e26 := undone_run (m := m - 1) (by omega) (G := G4) (t := t) (a := (p, g, c)) (b := (q, h, d)) (by omega) oka (by show (put t p g c).length ≤ 5000; omega) okb (by show (put (put t p g c) q h d).length ≤ 5000; omega) oku
  have e14 := all_applied_run (m := m - 1) (by omega) (G := G4) (t := put (put t p g c) q h d) (es := undo t (p, g, c) (q, h, d)) (by omega) oku
  have pw : putAll (put (put t p g c) q h d) (undo t (p, g, c) (q, h, d)) = due.map φ := (putAll_weave oku.wf).trans u4
  have e27 : F (m - 1) 27 [.str t, eD (p, g, c), eD (q, h, d)] G4 = some (.str (due.map φ), G4) := e27.trans (by
    rw [show putAll (putE (putE t (p, g, c)) (q, h, d)) (undo t (p, g, c) (q, h, d)) = due.map φ from pw])
  rw [pw] at e14
  let ς10 := (ς9.set 15 (some (.str (due.map φ)))).set 16 (some (esD (undo t (p, g, c) (q, h, d))))
  have s10 : ∀ r, evS (F (m - 1)) (.seq (S.par2 15 16 (E.cons (E.call 27 3 (E.cons (E.v 1) (E.cons (E.v 3) (E.cons (E.v 6) E.nil)))) (E.cons (E.call 26 3 (E.cons (E.v 1) (E.cons (E.v 3) (E.cons (E.v 6) E.nil)))) E.nil))) r) ς9 G4 = evS (F (m - 1)) r ς10 G4 := fun r =>
    par2_s (cons_s (call_s (three_v (d := .str t) (e := eD (p, g, c)) (f := eD (q, h, d)) rfl rfl rfl) rfl e27) (cons_s (call_s (three_v (d := .str t) (e := eD (p, g, c)) (f := eD (q, h, d)) rfl rfl rfl) rfl e26) nil_s))
  have hdl : due.length ≤ 200 := by
    have e := congrArg List.length u4
    rw [List.length_map] at e
    have hg := grow_weave (put (put t p g c) q h d) (undo t (p, g, c) (q, h, d)) 0 oku.wf
    have hc : grow (undo t (p, g, c) (q, h, d)) ≤ ((t.drop p).take g).length := (carry_come (e := (p, c.length, (t.drop p).take g)) (o := (q, h, d)) (first := true)).2.2.2
    omega
  obtain ⟨l3, e28⟩ := hold_of_run (m := m - 1) (by omega) (G := G4) (t := put (put t p g c) q h d) (es := undo t (p, g, c) (q, h, d)) (by omega) oku
  rw [u3] at e28
  have hLl : L.length = (put (put t p g c) q h d).length := by rw [put_len (by omega), hT2, hlM]; simp [fresh]
  have hpl : (pairsOf L due).length ≤ 1000 := by
    rw [← u3]
    have : (hold (put (put t p g c) q h d).length 0 0 (undo t (p, g, c) (q, h, d))).length + goneTot (undo t (p, g, c) (q, h, d)) = (put (put t p g c) q h d).length - 0 := hold_len oku.wf
    omega
  let G5 := G4 ++ l3
  have y9 : ς10[9]? = some (some (.str (put (put t p g c) q h d))) := rfl
  have y16 : ς10[16]? = some (some (esD (undo t (p, g, c) (q, h, d)))) := rfl
  have y15 : ς10[15]? = some (some (.str (due.map φ))) := rfl
  have y13 : ς10[13]? = some (some (nsD due)) := rfl
  have y7 : ς10[7]? = some (some (nsD L)) := rfl
  have y1 : ς10[1]? = some (some (.str t)) := rfl
  have y2 : ς10[2]? = some (some (nsD nm)) := rfl
  have y5 : ς10[5]? = some (some (.int (N : Nat))) := rfl
  have y6 : ς10[6]? = some (some (eD (q, h, d))) := rfl
  have yL : ς10.length = 19 := rfl
  clear_value ς10
  have t2 : (ev (F (m - 1)) jT2).2 ς10 G4 = some (false, G5) := by
    have lD : lenD (.str (due.map φ)) G4 = some (.int (due.length : Nat), G4) := by rw [Mp.len_str, List.length_map, if_pos (by rw [sz]; omega)]
    have lN : lenD (nsD due) G4 = some (.int (due.length : Nat), G4) := by unfold nsD; rw [len_lst, List.length_map]
    have c1 : (ev (F (m - 1)) (E.cmp Cop.ne (E.call 14 2 (E.cons (E.v 9) (E.cons (E.v 16) E.nil))) (E.v 15))).2 ς10 G4 = some (false, G4) := ne_f (call_s (two_v y9 y16) rfl e14) (v_s y15) ne_str
    have c2 : (ev (F (m - 1)) (E.cmp Cop.ne (E.blt Blt.len (E.cons (E.v 15) E.nil)) (E.blt Blt.len (E.cons (E.v 13) E.nil)))).2 ς10 G4 = some (false, G4) := ne_f (len_v y15 lD) (len_v y13 lN) (by rw [cmp_neI, beq_self_eq_true]; rfl)
    exact or_ff c1 (or_ff c2 (not_call_f (cons_s (call_s (two_v y9 y16) rfl e28) (cons_s (call_s (two_v y7 y13) rfl (pairs_run (m := m - 1) (by omega) (by omega))) nil_s)) rfl (alike_pairs (by omega) (by omega))))
  have hps2 : (tab 0 t ++ tab N d).Pairwise fun p q => p.1 ≠ q.1 := tab_app (tab_ne _ _) fun p hp => by have := tab_fst hp; omega
  let G6 := G5 ++ [Cell.dct ((tab 0 t ++ tab N d).map (kv chr))]
  let ς11 := ς10.set 17 (some (.ref G5.length))
  have tn : (ev (F (m - 1)) (E.comp false (Tg.nm 14) [14] (E.irng 1 (E.cons (E.blt Blt.len (E.cons (E.v 2) E.nil)) E.nil)) E.yes (E.tup (E.cons (E.idx (E.v 2) (E.v 14)) (E.cons (E.idx (E.v 1) (E.v 14)) E.nil))))).1 ς10 G5 = some (.lst (tabD (tab 0 t)), G5) := by
    refine tab_comp (rng_it (len_v (n := t.length) y2 (by unfold nsD; rw [len_lst, List.length_map, lr])) (by omega)) (by omega) fun k hk => ?_
    have q14 : ((wipeE ς10 [14]).set 14 (some (.int (k : Nat))))[14]? = some (some (.int (k : Nat))) := List.getElem?_set_self (by rw [wipe_len]; omega)
    have qo : ∀ i, i ≠ 14 → ((wipeE ς10 [14]).set 14 (some (.int (k : Nat))))[i]? = ς10[i]? := fun i hi => by rw [List.getElem?_set_ne (Ne.symm hi), wipe_at (by simp; omega)]
    refine tup_s (cons_s (G1 := G5) (x := .int (0 + k : Nat)) ?_ (cons_s (idx_v ((qo 1 (by omega)).trans y1) q14 (sgnAt (by omega) hk)) nil_s)) (by simp)
    refine idx_v ((qo 2 (by omega)).trans y2) q14 ?_
    rw [Nat.zero_add]
    show idxD (.lst (nm.map fun x => .int (x : Nat))) _ _ = _
    rw [idx_lst, atI_nat (j := k) (v := .int (k : Nat)) (by rw [List.getElem?_map, List.getElem?_range hk]; rfl)]; rfl
  have td : (ev (F (m - 1)) (E.comp false (Tg.nm 14) [14] (E.irng 1 (E.cons (E.blt Blt.len (E.cons (E.idx (E.v 6) (E.k (D.int 2))) E.nil)) E.nil)) E.yes (E.tup (E.cons (E.bin Bop.add (E.v 5) (E.v 14)) (E.cons (E.idx (E.idx (E.v 6) (E.k (D.int 2))) (E.v 14)) E.nil))))).1 ς10 G5 = some (.lst (tabD (tab N d)), G5) := by
    refine tab_comp (rng_it ?_ (by omega)) (by omega) fun k hk => ?_
    · rw [ev_blt1, cons_s (i2 y6) nil_s, bnd_s, argK_s, blt_len, one_s, Mp.len_str, if_pos (by rw [sz]; show d.length ≤ _; omega)]
    · have q14 : ((wipeE ς10 [14]).set 14 (some (.int (k : Nat))))[14]? = some (some (.int (k : Nat))) := List.getElem?_set_self (by rw [wipe_len]; omega)
      have qo : ∀ i, i ≠ 14 → ((wipeE ς10 [14]).set 14 (some (.int (k : Nat))))[i]? = ς10[i]? := fun i hi => by rw [List.getElem?_set_ne (Ne.symm hi), wipe_at (by simp; omega)]
      refine tup_s (G1 := G5) (cons_s (G1 := G5) ?_ (cons_s (G1 := G5) ?_ nil_s)) (by simp)
      · rw [ev_bin1, v_s ((qo 5 (by omega)).trans y5), bnd_s, v_s q14, bnd_s, bin_addi]; rfl
      · rw [ev_idx1, i2 ((qo 6 (by omega)).trans y6), bnd_s, v_s q14, bnd_s]
        exact sgnAt (by omega) hk
  have s11 : ∀ r, evS (F (m - 1)) (.seq (S.set 17 (E.blt Blt.dict (E.cons (E.bin Bop.add (E.comp false (Tg.nm 14) [14] (E.irng 1 (E.cons (E.blt Blt.len (E.cons (E.v 2) E.nil)) E.nil)) E.yes (E.tup (E.cons (E.idx (E.v 2) (E.v 14)) (E.cons (E.idx (E.v 1) (E.v 14)) E.nil)))) (E.comp false (Tg.nm 14) [14] (E.irng 1 (E.cons (E.blt Blt.len (E.cons (E.idx (E.v 6) (E.k (D.int 2))) E.nil)) E.nil)) E.yes (E.tup (E.cons (E.bin Bop.add (E.v 5) (E.v 14)) (E.cons (E.idx (E.idx (E.v 6) (E.k (D.int 2))) (E.v 14)) E.nil))))) E.nil))) r) ς10 G5 = evS (F (m - 1)) r ς11 G6 := fun r =>
    set_s (dict_tab (add_l tn td (by simp [tab]; omega)) hps2)
  have hat : G6[G5.length]? = some (.dct ((tab 0 t ++ tab N d).map (kv chr))) := at_new
  have sgd : Sg (due.map φ) := by
    rw [← u4]
    refine ((ht.put a2).put b2).weave fun e he => ?_
    rcases (carry_come (e := (p, c.length, (t.drop p).take g)) (o := (q, h, d)) (first := true)).1 e he with z | z
    · rw [z]; exact sS
    · rw [z]; intro x hx; cases hx
  obtain ⟨e, e10, e6b⟩ := between_ok (m := m - 1) (by omega) (G := G6) (a := t) (b := due.map φ) (by omega) (by simp; omega) sgd
  refine ⟨G6, ((((b5.app).app).app).app), run_ t47 rfl (by omega) ?_⟩
  show (evS (F (m - 1)) b47 ς0 G).bind outD = _
  unfold b47
  rw [s1, s2, s3, s4, s5, s6, seq_ife_f t1, s7, s8, s9, s10, seq_ife_f t2, s11]
  refine seq_ret ?_
  have w : ∀ i, i ≠ 17 → ς11[i]? = ς10[i]? := fun i hi => set_o (Ne.symm hi)
  have w17 : ς11[17]? = some (some (.ref G5.length)) := set_v yL (by omega)
  rw [ev_and1, ev_cmp1, v_s ((w 15 (by omega)).trans y15), bnd_s, join_ev (i := 18) (φ := φ) (due := due) ((w 13 (by omega)).trans y13) w17 hat (by show 18 < (ς10.set 17 _).length; rw [List.length_set, yL]; omega) (by omega) (by omega) u5, bnd_s, cmpD_s, cmp_eqS, Option.map_some, beq_self_eq_true, blB_b, bnd_s, if_pos rfl]
  rw [ev_cmp1, call_s (n := 2) (cons_s (v_s ((w 1 (by omega)).trans y1)) (cons_s (call_s (n := 2) (two_v ((w 1 (by omega)).trans y1) ((w 15 (by omega)).trans y15)) rfl e10) nil_s)) rfl e6b, bnd_s, v_s ((w 15 (by omega)).trans y15), bnd_s, cmpD_s, cmp_eqS, beq_self_eq_true, Option.map_some]
end K01
set_option Elab.async false
set_option linter.all false
set_option autoImplicit false
set_option maxRecDepth 100000
set_option maxHeartbeats 4000000
namespace K01
open PySem PySem.Spec L2 Mp
open PyProof.Rows hiding St

variable {dn : Nat} {G G1 G2 G' : Hs}
/-! 49 -/
theorem law_turn {m : Nat} (hm : 9 ≤ m) (hd : Dr dn G) {o2 o3 o0 : Option D} : ∃ G' o3', Dr dn G' ∧ evS (F m) (S.seq (S.set 3 (E.call 39 2 (E.cons (E.v 1) (E.cons (E.call 37 2 (E.cons (E.v 1) (E.cons (E.k (D.int 24)) E.nil))) E.nil)))) (S.seq (S.ife (E.or (E.not (E.call 46 2 (E.cons (E.v 1) (E.cons (E.v 3) E.nil)))) (E.or (E.not (E.call 47 2 (E.cons (E.v 1) (E.cons (E.v 3) E.nil)))) (E.not (E.call 48 2 (E.cons (E.v 1) (E.cons (E.v 3) E.nil)))))) retF S.skip) S.skip)) [o0, some (.ref dn), o2, o3] G = some (.nx [o0, some (.ref dn), o2, o3'] G') := by
  obtain ⟨r, Ga, hr, ma, da, ea⟩ := take0_run (m := m) (by omega) hd (b := 24) (by omega)
  obtain ⟨t, Gb, hl, sg, mb, db, eb⟩ := signs_run (m := m) (by omega) da (n := r) (by omega)
  obtain ⟨Gc, dc, ec⟩ := rows_run (m := m) hm sg (by omega) db
  obtain ⟨Gd, dd, ed⟩ := joined_law (m := m) hm sg (by omega) dc
  obtain ⟨Ge, de, ee⟩ := hands_run (m := m) hm (t := t) (by omega) dd
  refine ⟨Ge, some (.str t), de, ?_⟩
  have ea : F m 37 [.ref dn, .int 24] G = some (.int (r : Nat), Ga) := ea
  rw [set_s (d := .str t) (G1 := Gb) (call_s (n := 2) (cons_s (v_s (d := .ref dn) rfl) (cons_s (call_s (n := 2) (cons_s (v_s (d := .ref dn) rfl) (cons_s ev_k1 nil_s)) rfl ea) nil_s)) rfl eb)]
  have tt : ∀ {G : Hs}, (ev (F m) (E.cons (E.v 1) (E.cons (E.v 3) E.nil))).1 [o0, some (.ref dn), o2, some (.str t)] G = some (.tup [.ref dn, .str t], G) := two_v rfl rfl
  show evS (F m) _ [o0, some (.ref dn), o2, some (.str t)] Gb = _
  rw [seq_ife_f (or_ff (not_call_f (n := 2) tt rfl ec) (or_ff (not_call_f (n := 2) tt rfl ed) (not_call_f (n := 2) tt rfl ee))), evS_skip]
theorem law_runs : ∀ mk : List D → D, (mk = .lst ∨ mk = .fz) → ∀ ns : List Int, ns.length ≤ 63 → (∀ z ∈ ns, Builtin.Int.intBits z ≤ 1048576) → ∃ G', callF (tbOf consts defs) 60 49 [mk (ns.map .int)] [] = some (.bl true, G') := by
  intro mk hmk ns hn _
  obtain ⟨xs, G0, e0⟩ := draws_run (m := 59) (by omega) hmk hn
  have hd : Dr 1 [G0, iD xs] := ⟨xs, rfl⟩
  obtain ⟨Ga, oa, da, ea⟩ := law_turn (m := 59) (by omega) hd (o0 := some (mk (ns.map .int))) (o2 := some (.int 0)) (o3 := none)
  obtain ⟨Gb, ob, db, eb⟩ := law_turn (m := 59) (by omega) da (o0 := some (mk (ns.map .int))) (o2 := some (.int 1)) (o3 := oa)
  obtain ⟨Gc, oc, dc, ec⟩ := law_turn (m := 59) (by omega) db (o0 := some (mk (ns.map .int))) (o2 := some (.int 2)) (o3 := ob)
  refine ⟨Gc, ?_⟩
  show F 60 49 [mk (ns.map .int)] [] = _
  refine run_ t49 rfl (by omega) ?_
  show (evS (F 59) b49 [some (mk (ns.map .int)), none, none, none] []).bind outD = _
  unfold b49
  rw [set_s (call_s (n := 1) (one_v (d := mk (ns.map .int)) rfl) rfl e0), for_nx (ds := [.int 0, .int 1, .int 2]) (G1 := [G0, iD xs]) (G2 := Gc) (ς' := [some (mk (ns.map .int)), some (.ref 1), some (.int 2), oc]) (by rw [ev_irng1, cons_s ev_k1 nil_s, bnd_s, argK_s]; exact rng1_s (q := (0, 1, 3)) (by rfl)) (by
    refine for_step' bindL_nm ea (for_step' bindL_nm eb (for_step' bindL_nm ec rfl)))]
  exact seq_ret ev_k1
end K01
set_option Elab.async false
set_option linter.all false
set_option autoImplicit false
set_option maxRecDepth 100000
set_option maxHeartbeats 0
namespace K01
open PySem PySem.Spec L2 Mp
open PyProof.Rows hiding St
theorem ok0 : DefOk d0 := ⟨⟨rfl, rfl, rfl, by decide +kernel, rfl, by decide +kernel, by decide +kernel⟩, by decide, fun _ _ _ _ _ _ us hl => match us, hl with | [_, _, _], _ => rfl⟩
theorem ok1 : DefOk d1 := ⟨⟨rfl, rfl, rfl, by decide +kernel, rfl, by decide +kernel, by decide +kernel⟩, by decide, fun _ _ _ _ _ _ us hl => match us, hl with | [_], _ => rfl⟩
theorem ok2 : DefOk d2 := ⟨⟨rfl, rfl, rfl, by decide +kernel, rfl, by decide +kernel, by decide +kernel⟩, by decide, fun _ _ _ _ _ _ us hl => match us, hl with | [_], _ => rfl⟩
theorem ok3 : DefOk d3 := ⟨⟨rfl, rfl, rfl, by decide +kernel, rfl, by decide +kernel, by decide +kernel⟩, by decide, fun _ _ _ _ _ _ us hl => match us, hl with | [_, _], _ => rfl⟩
theorem ok4 : DefOk d4 := ⟨⟨rfl, rfl, rfl, by decide +kernel, rfl, by decide +kernel, by decide +kernel⟩, by decide, fun _ _ _ _ _ _ us hl => match us, hl with | [_, _], _ => rfl⟩
theorem ok5 : DefOk d5 := ⟨⟨rfl, rfl, rfl, by decide +kernel, rfl, by decide +kernel, by decide +kernel⟩, by decide, fun _ _ _ _ _ _ us hl => match us, hl with | [_, _], _ => rfl⟩
theorem ok6 : DefOk d6 := ⟨⟨rfl, rfl, rfl, by decide +kernel, rfl, by decide +kernel, by decide +kernel⟩, by decide, fun _ _ _ _ _ _ us hl => match us, hl with | [_, _], _ => rfl⟩
theorem ok7 : DefOk d7 := ⟨⟨rfl, rfl, rfl, by decide +kernel, rfl, by decide +kernel, by decide +kernel⟩, by decide, fun _ _ _ _ _ _ us hl => match us, hl with | [_, _], _ => rfl⟩
theorem ok8 : DefOk d8 := ⟨⟨rfl, rfl, rfl, by decide +kernel, rfl, by decide +kernel, by decide +kernel⟩, by decide, fun _ _ _ _ _ _ us hl => match us, hl with | [_, _], _ => rfl⟩
theorem ok9 : DefOk d9 := ⟨⟨rfl, rfl, rfl, by decide +kernel, rfl, by decide +kernel, by decide +kernel⟩, by decide, fun _ _ _ _ _ _ us hl => match us, hl with | [_, _, _], _ => rfl⟩
theorem ok10 : DefOk d10 := ⟨⟨rfl, rfl, rfl, by decide +kernel, rfl, by decide +kernel, by decide +kernel⟩, by decide, fun _ _ _ _ _ _ us hl => match us, hl with | [_, _], _ => rfl⟩
theorem ok11 : DefOk d11 := ⟨⟨rfl, rfl, rfl, by decide +kernel, rfl, by decide +kernel, by decide +kernel⟩, by decide, fun _ _ _ _ _ _ us hl => match us, hl with | [_, _, _], _ => rfl⟩
theorem ok12 : DefOk d12 := ⟨⟨rfl, rfl, rfl, by decide +kernel, rfl, by decide +kernel, by decide +kernel⟩, by decide, fun _ _ _ _ _ _ us hl => match us, hl with | [_, _], _ => rfl⟩
theorem ok13 : DefOk d13 := ⟨⟨rfl, rfl, rfl, by decide +kernel, rfl, by decide +kernel, by decide +kernel⟩, by decide, fun _ _ _ _ _ _ us hl => match us, hl with | [_, _], _ => rfl⟩
theorem ok14 : DefOk d14 := ⟨⟨rfl, rfl, rfl, by decide +kernel, rfl, by decide +kernel, by decide +kernel⟩, by decide, fun _ _ _ _ _ _ us hl => match us, hl with | [_, _], _ => rfl⟩
theorem ok15 : DefOk d15 := ⟨⟨rfl, rfl, rfl, by decide +kernel, rfl, by decide +kernel, by decide +kernel⟩, by decide, fun _ _ _ _ _ _ us hl => match us, hl with | [_, _], _ => rfl⟩
theorem ok16 : DefOk d16 := ⟨⟨rfl, rfl, rfl, by decide +kernel, rfl, by decide +kernel, by decide +kernel⟩, by decide, fun _ _ _ _ _ _ us hl => match us, hl with | [_, _], _ => rfl⟩
theorem ok17 : DefOk d17 := ⟨⟨rfl, rfl, rfl, by decide +kernel, rfl, by decide +kernel, by decide +kernel⟩, by decide, fun _ _ _ _ _ _ us hl => match us, hl with | [_, _], _ => rfl⟩
theorem ok18 : DefOk d18 := ⟨⟨rfl, rfl, rfl, by decide +kernel, rfl, by decide +kernel, by decide +kernel⟩, by decide, fun _ _ _ _ _ _ us hl => match us, hl with | [_, _], _ => rfl⟩
theorem ok19 : DefOk d19 := ⟨⟨rfl, rfl, rfl, by decide +kernel, rfl, by decide +kernel, by decide +kernel⟩, by decide, fun _ _ _ _ _ _ us hl => match us, hl with | [_, _], _ => rfl⟩
theorem ok20 : DefOk d20 := ⟨⟨rfl, rfl, rfl, by decide +kernel, rfl, by decide +kernel, by decide +kernel⟩, by decide, fun _ _ _ _ _ _ us hl => match us, hl with | [_, _, _], _ => rfl⟩
theorem ok21 : DefOk d21 := ⟨⟨rfl, rfl, rfl, by decide +kernel, rfl, by decide +kernel, by decide +kernel⟩, by decide, fun _ _ _ _ _ _ us hl => match us, hl with | [_, _], _ => rfl⟩
theorem ok22 : DefOk d22 := ⟨⟨rfl, rfl, rfl, by decide +kernel, rfl, by decide +kernel, by decide +kernel⟩, by decide, fun _ _ _ _ _ _ us hl => match us, hl with | [_, _, _], _ => rfl⟩
theorem ok23 : DefOk d23 := ⟨⟨rfl, rfl, rfl, by decide +kernel, rfl, by decide +kernel, by decide +kernel⟩, by decide, fun _ _ _ _ _ _ us hl => match us, hl with | [_, _, _], _ => rfl⟩
theorem ok24 : DefOk d24 := ⟨⟨rfl, rfl, rfl, by decide +kernel, rfl, by decide +kernel, by decide +kernel⟩, by decide, fun _ _ _ _ _ _ us hl => match us, hl with | [_, _], _ => rfl⟩
theorem ok25 : DefOk d25 := ⟨⟨rfl, rfl, rfl, by decide +kernel, rfl, by decide +kernel, by decide +kernel⟩, by decide, fun _ _ _ _ _ _ us hl => match us, hl with | [_, _, _], _ => rfl⟩
theorem ok26 : DefOk d26 := ⟨⟨rfl, rfl, rfl, by decide +kernel, rfl, by decide +kernel, by decide +kernel⟩, by decide, fun _ _ _ _ _ _ us hl => match us, hl with | [_, _, _], _ => rfl⟩
theorem ok27 : DefOk d27 := ⟨⟨rfl, rfl, rfl, by decide +kernel, rfl, by decide +kernel, by decide +kernel⟩, by decide, fun _ _ _ _ _ _ us hl => match us, hl with | [_, _, _], _ => rfl⟩
theorem ok28 : DefOk d28 := ⟨⟨rfl, rfl, rfl, by decide +kernel, rfl, by decide +kernel, by decide +kernel⟩, by decide, fun _ _ _ _ _ _ us hl => match us, hl with | [_, _], _ => rfl⟩
theorem ok29 : DefOk d29 := ⟨⟨rfl, rfl, rfl, by decide +kernel, rfl, by decide +kernel, by decide +kernel⟩, by decide, fun _ _ _ _ _ _ us hl => match us, hl with | [_], _ => rfl⟩
theorem ok30 : DefOk d30 := ⟨⟨rfl, rfl, rfl, by decide +kernel, rfl, by decide +kernel, by decide +kernel⟩, by decide, fun _ _ _ _ _ _ us hl => match us, hl with | [_, _], _ => rfl⟩
theorem ok31 : DefOk d31 := ⟨⟨rfl, rfl, rfl, by decide +kernel, rfl, by decide +kernel, by decide +kernel⟩, by decide, fun _ _ _ _ _ _ us hl => match us, hl with | [_, _], _ => rfl⟩
theorem ok32 : DefOk d32 := ⟨⟨rfl, rfl, rfl, by decide +kernel, rfl, by decide +kernel, by decide +kernel⟩, by decide, fun _ _ _ _ _ _ us hl => match us, hl with | [_, _, _], _ => rfl⟩
theorem ok33 : DefOk d33 := ⟨⟨rfl, rfl, rfl, by decide +kernel, rfl, by decide +kernel, by decide +kernel⟩, by decide, fun _ _ _ _ _ _ us hl => match us, hl with | [_, _], _ => rfl⟩
theorem ok34 : DefOk d34 := ⟨⟨rfl, rfl, rfl, by decide +kernel, rfl, by decide +kernel, by decide +kernel⟩, by decide, fun _ _ _ _ _ _ us hl => match us, hl with | [_, _], _ => rfl⟩
theorem ok35 : DefOk d35 := ⟨⟨rfl, rfl, rfl, by decide +kernel, rfl, by decide +kernel, by decide +kernel⟩, by decide, fun _ _ _ _ _ _ us hl => match us, hl with | [_, _], _ => rfl⟩
theorem ok36 : DefOk d36 := ⟨⟨rfl, rfl, rfl, by decide +kernel, rfl, by decide +kernel, by decide +kernel⟩, by decide, fun _ _ _ _ _ _ us hl => match us, hl with | [_], _ => rfl⟩
theorem ok37 : DefOk d37 := ⟨⟨rfl, rfl, rfl, by decide +kernel, rfl, by decide +kernel, by decide +kernel⟩, by decide, fun _ _ _ _ _ _ us hl => match us, hl with | [_, _], _ => rfl⟩
theorem ok38 : DefOk d38 := ⟨⟨rfl, rfl, rfl, by decide +kernel, rfl, by decide +kernel, by decide +kernel⟩, by decide, fun _ _ _ _ _ _ us hl => match us, hl with | [_, _], _ => rfl⟩
theorem ok39 : DefOk d39 := ⟨⟨rfl, rfl, rfl, by decide +kernel, rfl, by decide +kernel, by decide +kernel⟩, by decide, fun _ _ _ _ _ _ us hl => match us, hl with | [_, _], _ => rfl⟩
theorem ok40 : DefOk d40 := ⟨⟨rfl, rfl, rfl, by decide +kernel, rfl, by decide +kernel, by decide +kernel⟩, by decide, fun _ _ _ _ _ _ us hl => match us, hl with | [_, _], _ => rfl⟩
theorem ok41 : DefOk d41 := ⟨⟨rfl, rfl, rfl, by decide +kernel, rfl, by decide +kernel, by decide +kernel⟩, by decide, fun _ _ _ _ _ _ us hl => match us, hl with | [_, _], _ => rfl⟩
theorem ok42 : DefOk d42 := ⟨⟨rfl, rfl, rfl, by decide +kernel, rfl, by decide +kernel, by decide +kernel⟩, by decide, fun _ _ _ _ _ _ us hl => match us, hl with | [_, _, _], _ => rfl⟩
theorem ok43 : DefOk d43 := ⟨⟨rfl, rfl, rfl, by decide +kernel, rfl, by decide +kernel, by decide +kernel⟩, by decide, fun _ _ _ _ _ _ us hl => match us, hl with | [_, _], _ => rfl⟩
theorem ok44 : DefOk d44 := ⟨⟨rfl, rfl, rfl, by decide +kernel, rfl, by decide +kernel, by decide +kernel⟩, by decide, fun _ _ _ _ _ _ us hl => match us, hl with | [_, _], _ => rfl⟩
theorem ok45 : DefOk d45 := ⟨⟨rfl, rfl, rfl, by decide +kernel, rfl, by decide +kernel, by decide +kernel⟩, by decide, fun _ _ _ _ _ _ us hl => match us, hl with | [_, _, _, _, _], _ => rfl⟩
theorem ok46 : DefOk d46 := ⟨⟨rfl, rfl, rfl, by decide +kernel, rfl, by decide +kernel, by decide +kernel⟩, by decide, fun _ _ _ _ _ _ us hl => match us, hl with | [_, _], _ => rfl⟩
theorem ok47 : DefOk d47 := ⟨⟨rfl, rfl, rfl, by decide +kernel, rfl, by decide +kernel, by decide +kernel⟩, by decide, fun _ _ _ _ _ _ us hl => match us, hl with | [_, _], _ => rfl⟩
theorem ok48 : DefOk d48 := ⟨⟨rfl, rfl, rfl, by decide +kernel, rfl, by decide +kernel, by decide +kernel⟩, by decide, fun _ _ _ _ _ _ us hl => match us, hl with | [_, _], _ => rfl⟩
theorem ok49 : DefOk d49 := ⟨⟨rfl, rfl, rfl, by decide +kernel, rfl, by decide +kernel, by decide +kernel⟩, by decide, fun _ _ _ _ _ _ us hl => match us, hl with | [_], _ => rfl⟩
theorem oks : ∀ d ∈ defs, DefOk d := by
  unfold defs
  simp only [List.forall_mem_cons]
  exact ⟨ok0, ok1, ok2, ok3, ok4, ok5, ok6, ok7, ok8, ok9, ok10, ok11, ok12, ok13, ok14, ok15, ok16, ok17, ok18, ok19, ok20, ok21, ok22, ok23, ok24, ok25, ok26, ok27, ok28, ok29, ok30, ok31, ok32, ok33, ok34, ok35, ok36, ok37, ok38, ok39, ok40, ok41, ok42, ok43, ok44, ok45, ok46, ok47, ok48, ok49, fun _ h => absurd h List.not_mem_nil⟩
abbrev R : PySem.W.OpenRow := PySem.W.OpenLaw.row PySem.Challenge.rw_editsagree_k01_whole_signs_that_keep_the
abbrev hk : PySem.W.Hook := He.hookX 5 (faOf consts defs) (defs.map fnD) [] (tfOf defs) (fun _ => true)
def ob (s : PySem.W.SharedT) : He.AlX := He.obsX 5 (faOf consts defs) (defs.map fnD) [] (tfOf defs) (fun _ => true) (HandSHeadRun.getT s)
theorem ob_eq (s : PySem.W.SharedT) : ob s = hk.obs s.abs := He.obsX_eq (HandSHeadRun.getT_eq s)
def loose0 : List PySem.Str := ["EditError", "Malformed", "TooMuch", "is_number", "MOST_SIGNS", "MOST_EDITS", "FIRST_SIGN", "LAST_SIGN", "LINE_END", "is_signs", "is_text", "is_change", "is_edit", "put_in", "applied", "inverse", "common_ahead", "common_behind", "between", "joined", "are_edits", "check_edits", "all_applied", "in_turn", "all_inverse", "one_for", "LEFT", "moved", "moved_through", "moved_at_once"]
def loose1 : List PySem.Str := ["touching", "carried", "check_both", "check_room", "both_done", "undone", "without", "hold_of", "MOST_CELLS", "cost_of", "cost_rows", "steps_of", "edits_by", "middle_of", "least_edits", "least_cost", "_law_draws", "_law_take", "_law_alike", "_law_signs", "_law_edit", "_law_edits", "_law_behind", "_law_pairs", "_law_put_behind", "_law_merged", "_law_rows", "_law_joined", "_law_hands"]
def loose : List PySem.Str := loose0 ++ loose1
theorem run (w : World) : HandSHeadRun.RunEq R (PySem.W.view R.prog [65]) hk ob 6000 loose w := by
  intro os
  kernel_rfl
end K01
open PySem PySem.W PySem.Calls PyProof.Rows
theorem PySem.Challenge.cw_editsagree_k01_whole_signs_that_keep_the_holds : PySem.Challenge.rw_editsagree_k01_whole_signs_that_keep_the.Holds := by
  w_on; o_law
  refine HandSHeadRun.head_any (r := OpenLaw.row PySem.Challenge.rw_editsagree_k01_whole_signs_that_keep_the) (q := view (OpenLaw.row PySem.Challenge.rw_editsagree_k01_whole_signs_that_keep_the).prog [65]) (H := K01.hk) (ob := K01.ob) (M := 6000) (loose := K01.loose) (d := HandSHeadRun.topDef (OpenLaw.row PySem.Challenge.rw_editsagree_k01_whole_signs_that_keep_the).prog 65) (kwd := []) K01.ob_eq
    (by kernel_rfl) (fun s => by kernel_rfl) K01.run (by kernel_rfl) (by kernel_rfl) (by kernel_rfl) (by rfl) (by first | assumption | decide +kernel) (by decide +kernel) ⟨rfl, rfl, rfl, rfl, rfl, by decide +kernel⟩ ?hw ?hc
  case hw => w_witness2
  case hc =>
    refine LamX.walk_ofTsE (l := PySem.Challenge.rw_editsagree_k01_whole_signs_that_keep_the) (n := 63) (k := 3 * 60) (x := "script") (CX := fun _ => L2.CX0) rfl (by decide) (by kernel_rfl) ⟨rfl, by decide, by decide⟩ ?F (fun _ _ _ _ _ z => z)
    intro w mg fa h Y G hmg0
    obtain ⟨K, KX, c⟩ := Y
    have hmg : mg ("law" : PySem.Str) = some (.ref fa) := by
      have e : (HandSHeadRun.topDef (OpenLaw.row PySem.Challenge.rw_editsagree_k01_whole_signs_that_keep_the).prog 65).name = ("law" : PySem.Str) := by kernel_rfl
      rw [← e]
      exact hmg0
    exact ⟨K, KX, Mp.law_end (ds := K01.defs) (consts := K01.consts) (jl := 49) (dl := K01.d49) (n0 := 60) rfl rfl rfl KX G hmg c (by decide) K01.oks K01.law_runs⟩
