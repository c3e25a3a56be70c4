import PyProof.Rows.All
import Wide.All
import OpenK.AllK
import Wide.FinOn
import PySem.Challenge.RW_editsagree_k14_whole_signs_put_in_order
import HandS.ForMost
import HandS.AnyAll
import HandS.EndTab
import HandS.EndOwn
import HandS.IsInst
import HandS.Deep
import HandS.Wide
import HandS.TupAny
import PyProof.StrOps2
import HandS.TupLe
import KE.KRevSl
import HandS.Text
import HandS.SortInts
import PyProof.ListStr
import HandS.Dict
import KE.GoesNew
import HandS.Conv
import HandS.Rev
import HandS.RevTup
import HandS.GenOver
import HandS.Style
import HandS.DictComp
import HandS.DictTup
import HandS.SortRule
import HandS.TupMul
import KE.KDictPairs
import HandS.SortOrd
import HandS.Defaults
import HandS.Head0
import HandS.Head1
import HandS.Head2
import HandS.HeadEnd
import HandS.HeadHook1
import HandS.HeadHook2
import HandS.HeadHook3
import HandS.HeadHook4
import HandS.HeadWalk
set_option Elab.async false
set_option linter.all false
set_option autoImplicit false
set_option maxRecDepth 100000
set_option maxHeartbeats 1000000
/-! Mp, part 1: data D, cells, worlds, how they stand for the layer's values and heaps -/
namespace Mp
open PySem PySem.Spec L2
open PyProof.Rows hiding St

/-- a value as plain data: texts by their codes; ref: a thing that may change -/
inductive D where
  | non | bl (b : Bool) | int (i : Int) | str (cs : List Nat) | tup (ds : List D) | lst (ds : List D) | fz (ds : List D) | dic (ks : List Key) (ds : List D) | row (ds : List D) | ref (n : Nat)
inductive Cell where
  | lst (ds : List D) | dct (kvs : List (Key × D)) | gone
abbrev Hs := List Cell

/-- where the cells stand, which lists are never written any more, the layer's heap -/
structure Wd where
  ι : List Addr
  F : Addr → Prop
  H : Hp

variable {K : PySem.W.Frag} {T : List Addr}

def KL (K : PySem.W.Frag) (a : Addr) (xs : List V) : Prop :=
  ∃ (o : Obj) (its : Array Value) (n : Nat), K.lookup a = some o ∧ o.cls = .type "list" ∧ o.dict = none ∧ o.data = .seq its n ∧ its.size ≤ sizeLine ∧ Vals xs its.toList
def LOk (w : Wd) (a : Addr) (vs : List V) : Prop := w.F a ∧ w.H a = some (.lst vs)
/-- a list that is the caller's or the module's -/
def FOk (K : PySem.W.Frag) (H : Hp) (a : Addr) (vs : List V) : Prop := (∃ o, H a = some (.frz o (.lst vs))) ∨ KL K a vs
theorem LOk.sq {w : Wd} {a : Addr} {vs : List V} (h : LOk w a vs) : SqL K w.H a vs := .inl (.inl h.2)
theorem FOk.sq {H : Hp} {a : Addr} {vs : List V} (h : FOk K H a vs) : SqL K H a vs := h.elim (fun z => .inl (.inr z)) .inr

mutual
def RV (K : PySem.W.Frag) (w : Wd) : D → V → Prop
  | .non, v => v = .non
  | .bl b, v => v = .bl b
  | .int i, v => v = .int i
  | .str cs, v => v = .str ⟨cs.toArray⟩
  | .tup ds, v => ∃ a vs, v = .ref a ∧ SqT K w.H a vs ∧ RVs K w ds vs
  | .lst ds, v => ∃ a vs, v = .ref a ∧ LOk w a vs ∧ RVs K w ds vs
  | .fz ds, v => ∃ a vs, v = .ref a ∧ FOk K w.H a vs ∧ RVs K w ds vs
  | .dic ks ds, v => ∃ a o vs, v = .ref a ∧ w.H a = some (.frz o (.dK (ks.zip vs))) ∧ ks.length = ds.length ∧ RVs K w ds vs
  | .row ds, v => ∃ a o vs, v = .ref a ∧ w.H a = some (.frz o (.tup vs)) ∧ o.dict = none ∧ RVs K w ds vs
  | .ref n, v => ∃ a, v = .ref a ∧ w.ι[n]? = some a
def RVs (K : PySem.W.Frag) (w : Wd) : List D → List V → Prop
  | [], vs => vs = []
  | d :: ds, vs => ∃ v r, vs = v :: r ∧ RV K w d v ∧ RVs K w ds r
end

structure Ext (K : PySem.W.Frag) (w w' : Wd) : Prop where
  pre : ∀ (n : Nat) a, w.ι[n]? = some a → w'.ι[n]? = some a
  tup : ∀ a xs, SqT K w.H a xs → SqT K w'.H a xs
  lst : ∀ a xs, LOk w a xs → LOk w' a xs
  fz : ∀ a xs, FOk K w.H a xs → FOk K w'.H a xs
  dic : ∀ a o u, w.H a = some (.frz o u) → w'.H a = some (.frz o u)
theorem Ext.refl {w : Wd} : Ext K w w := ⟨fun _ _ h => h, fun _ _ h => h, fun _ _ h => h, fun _ _ h => h, fun _ _ _ h => h⟩
theorem Ext.trans {w w' w'' : Wd} (h : Ext K w w') (g : Ext K w' w'') : Ext K w w'' :=
  ⟨fun n a e => g.pre n a (h.pre n a e), fun a xs e => g.tup a xs (h.tup a xs e), fun a xs e => g.lst a xs (h.lst a xs e), fun a xs e => g.fz a xs (h.fz a xs e), fun a o us e => g.dic a o us (h.dic a o us e)⟩

/-- the strong form: what is not one of the things that may change stands as it stood -/
structure Ex2 (K : PySem.W.Frag) (w w' : Wd) : Prop extends Ext K w w' where
  new : ∀ a ∈ w'.ι, a ∈ w.ι ∨ w.H a = none
  fr : ∀ a, w.F a → w'.F a
  nf : ∀ a, w'.F a → w.F a ∨ a ∈ w.ι ∨ w.H a = none
  stay : ∀ a o, w.H a = some o → (a ∉ w.ι ∨ w.F a) → (∀ ps, o ≠ .tbl ps) → w'.H a = some o
  occ : ∀ a, w.H a ≠ none → w'.H a ≠ none
theorem Ex2.refl {w : Wd} : Ex2 K w w := ⟨Ext.refl, fun _ h => .inl h, fun _ h => h, fun _ h => .inl h, fun _ _ h _ _ => h, fun _ h => h⟩
theorem Ex2.trans {w w' w'' : Wd} (h : Ex2 K w w') (g : Ex2 K w' w'') : Ex2 K w w'' := by
  have back : ∀ a, w'.H a = none → w.H a = none := fun a z => Classical.byContradiction fun q => h.occ a q z
  refine ⟨h.toExt.trans g.toExt, fun a ha => ?_, fun a ha => g.fr a (h.fr a ha), fun a ha => ?_, fun a o e n t => ?_, fun a ha => g.occ a (h.occ a ha)⟩
  · rcases g.new a ha with z | z
    · exact h.new a z
    · exact .inr (back a z)
  · rcases g.nf a ha with z | z | z
    · exact h.nf a z
    · rcases h.new a z with q | q
      · exact .inr (.inl q)
      · exact .inr (.inr q)
    · exact .inr (.inr (back a z))
  · refine g.stay a o (h.stay a o e n t) ?_ t
    rcases n with n | n
    · refine .inl fun z => ?_
      rcases h.new a z with q | q
      · exact n q
      · rw [e] at q; cases q
    · exact .inr (h.fr a n)

mutual
theorem RV.ext {w w' : Wd} (x : Ext K w w') : ∀ (d : D) (v : V), RV K w d v → RV K w' d v
  | .non, _, h => h
  | .bl _, _, h => h
  | .int _, _, h => h
  | .str _, _, h => h
  | .tup ds, _, h => by
    obtain ⟨a, vs, e, h1, h2⟩ := h
    exact ⟨a, vs, e, x.tup _ _ h1, RVs.ext x ds vs h2⟩
  | .lst ds, _, h => by
    obtain ⟨a, vs, e, h1, h2⟩ := h
    exact ⟨a, vs, e, x.lst _ _ h1, RVs.ext x ds vs h2⟩
  | .fz ds, _, h => by
    obtain ⟨a, vs, e, h1, h2⟩ := h
    exact ⟨a, vs, e, x.fz _ _ h1, RVs.ext x ds vs h2⟩
  | .dic ks ds, _, h => by
    obtain ⟨a, o, vs, e, h1, hl, h2⟩ := h
    exact ⟨a, o, vs, e, x.dic _ _ _ h1, hl, RVs.ext x ds vs h2⟩
  | .row ds, _, h => by
    obtain ⟨a, o, vs, e, h1, hl, h2⟩ := h
    exact ⟨a, o, vs, e, x.dic _ _ _ h1, hl, RVs.ext x ds vs h2⟩
  | .ref n, _, h => by
    obtain ⟨a, e, h1⟩ := h
    exact ⟨a, e, x.pre _ _ h1⟩
theorem RVs.ext {w w' : Wd} (x : Ext K w w') : ∀ (ds : List D) (vs : List V), RVs K w ds vs → RVs K w' ds vs
  | [], _, h => h
  | d :: ds, _, h => by
    obtain ⟨v, r, e, h1, h2⟩ := h
    exact ⟨v, r, e, RV.ext x d v h1, RVs.ext x ds r h2⟩
end
theorem RVs.len {w : Wd} : ∀ {ds : List D} {vs : List V}, RVs K w ds vs → ds.length = vs.length
  | [], _, h => by cases h; rfl
  | d :: ds, _, h => by
    obtain ⟨v, r, e, _, h2⟩ := h
    subst e
    simp [RVs.len h2]
theorem RVs.get {w : Wd} : ∀ {ds : List D} {vs : List V} {i : Nat} {d : D}, RVs K w ds vs → ds[i]? = some d → ∃ v, vs[i]? = some v ∧ RV K w d v
  | [], _, _, _, _, e => by simp at e
  | d :: ds, _, 0, d', h, e => by
    obtain ⟨v, r, rfl, h1, _⟩ := h
    simp at e; subst e
    exact ⟨v, rfl, h1⟩
  | d :: ds, _, i + 1, d', h, e => by
    obtain ⟨v, r, rfl, _, h2⟩ := h
    simp at e
    obtain ⟨u, e1, e2⟩ := RVs.get (i := i) h2 e
    exact ⟨u, by simpa using e1, e2⟩
theorem RVs.get' {w : Wd} {ds : List D} {vs : List V} {i : Nat} {v : V} (h : RVs K w ds vs) (e : vs[i]? = some v) : ∃ d, ds[i]? = some d ∧ RV K w d v := by
  have hi : i < ds.length := by rw [h.len]; exact (List.getElem?_eq_some_iff.mp e).1
  obtain ⟨u, e1, e2⟩ := h.get (List.getElem?_eq_getElem hi)
  rw [e] at e1; cases e1
  exact ⟨_, List.getElem?_eq_getElem hi, e2⟩
theorem RVs.append {w : Wd} : ∀ {ds es : List D} {vs us : List V}, RVs K w ds vs → RVs K w es us → RVs K w (ds ++ es) (vs ++ us)
  | [], _, _, _, h, g => by cases h; exact g
  | d :: ds, _, _, _, h, g => by
    obtain ⟨v, r, rfl, h1, h2⟩ := h
    exact ⟨v, r ++ _, rfl, h1, RVs.append h2 g⟩
theorem RVs.take {w : Wd} : ∀ {ds : List D} {vs : List V} (n : Nat), RVs K w ds vs → RVs K w (ds.take n) (vs.take n)
  | _, _, 0, _ => rfl
  | [], _, n + 1, h => by cases h; rfl
  | d :: ds, _, n + 1, h => by
    obtain ⟨v, r, rfl, h1, h2⟩ := h
    exact ⟨v, r.take n, rfl, h1, RVs.take n h2⟩
theorem RVs.drop {w : Wd} : ∀ {ds : List D} {vs : List V} (n : Nat), RVs K w ds vs → RVs K w (ds.drop n) (vs.drop n)
  | _, _, 0, h => h
  | [], _, n + 1, h => by cases h; rfl
  | d :: ds, _, n + 1, h => by
    obtain ⟨v, r, rfl, h1, h2⟩ := h
    exact RVs.drop n h2
theorem RVs.reverse {w : Wd} : ∀ {ds : List D} {vs : List V}, RVs K w ds vs → RVs K w ds.reverse vs.reverse
  | [], _, h => by cases h; rfl
  | d :: ds, _, h => by
    obtain ⟨v, r, rfl, h1, h2⟩ := h
    rw [List.reverse_cons, List.reverse_cons]
    exact (RVs.reverse h2).append ⟨v, [], rfl, h1, rfl⟩
theorem RVs.set {w : Wd} {x : D} {u : V} (hx : RV K w x u) : ∀ {ds : List D} {vs : List V} (i : Nat), RVs K w ds vs → RVs K w (ds.set i x) (vs.set i u)
  | [], _, _, h => by cases h; rfl
  | d :: ds, _, 0, h => by
    obtain ⟨v, r, rfl, h1, h2⟩ := h
    exact ⟨u, r, rfl, hx, h2⟩
  | d :: ds, _, i + 1, h => by
    obtain ⟨v, r, rfl, h1, h2⟩ := h
    exact ⟨v, r.set i u, rfl, h1, RVs.set hx i h2⟩
theorem RVs.eraseIdx {w : Wd} : ∀ {ds : List D} {vs : List V} (i : Nat), RVs K w ds vs → RVs K w (ds.eraseIdx i) (vs.eraseIdx i)
  | [], _, _, h => by cases h; rfl
  | d :: ds, _, 0, h => by
    obtain ⟨v, r, rfl, h1, h2⟩ := h
    exact h2
  | d :: ds, _, i + 1, h => by
    obtain ⟨v, r, rfl, h1, h2⟩ := h
    exact ⟨v, r.eraseIdx i, rfl, h1, RVs.eraseIdx i h2⟩
theorem RVs.dropLast {w : Wd} {ds : List D} {vs : List V} (h : RVs K w ds vs) : RVs K w ds.dropLast vs.dropLast := by
  rw [List.dropLast_eq_take, List.dropLast_eq_take, h.len]
  exact h.take _

def RKs (K : PySem.W.Frag) (w : Wd) : List (Key × D) → List (Key × V) → Prop := Paired fun p q => p.1 = q.1 ∧ RV K w p.2 q.2
theorem RKs.ext {w w' : Wd} (x : Ext K w w') {a : List (Key × D)} {b : List (Key × V)} (h : RKs K w a b) : RKs K w' a b :=
  Paired.mapP h fun _ _ q => ⟨q.1, RV.ext x _ _ q.2⟩

def CellOk (K : PySem.W.Frag) (w : Wd) (a : Addr) : Cell → Prop
  | .lst ds => ¬ w.F a ∧ ∃ vs, w.H a = some (.lst vs) ∧ RVs K w ds vs
  | .dct kvs => ¬ w.F a ∧ ∃ us, w.H a = some (.dK us) ∧ RKs K w kvs us
  | .gone => True
theorem CellOk.mono {w w' : Wd} {a : Addr} {c : Cell} (x : Ext K w w') (e : w'.H a = w.H a) (f : w'.F a → w.F a) (h : CellOk K w a c) : CellOk K w' a c := by
  cases c with
  | lst ds => obtain ⟨n, vs, h1, h2⟩ := h; exact ⟨fun z => n (f z), vs, e.trans h1, h2.ext x⟩
  | dct kvs => obtain ⟨n, vs, h1, h2⟩ := h; exact ⟨fun z => n (f z), vs, e.trans h1, h2.ext x⟩
  | gone => trivial

structure Rel (K : PySem.W.Frag) (T : List Addr) (w : Wd) (G : Hs) : Prop where
  len : w.ι.length = G.length
  nd : w.ι.Nodup
  cell : ∀ (n : Nat) c a, G[n]? = some c → w.ι[n]? = some a → CellOk K w a c
  live : ∀ a, w.F a → w.H a ≠ none
  alv : ∀ a ∈ w.ι, w.H a ≠ none
  tab : ∀ P ∈ T, GxR.TabG w.H P

section
variable {w : Wd} {G : Hs} {p : Addr}

theorem ne_fresh {a : Addr} (h : w.H p = none) (e : w.H a ≠ none) : a ≠ p := fun z => e (z ▸ h)
theorem SqT.fresh {H : Hp} {o : HO} {a : Addr} {xs : List V} (h : H p = none) (q : SqT K H a xs) : SqT K (upd H p o) a xs := by
  rcases q with (q | ⟨o', q⟩) | q
  · exact .inl (.inl (by rw [upd_ne (ne_of_none q h)]; exact q))
  · exact .inl (.inr ⟨o', by rw [upd_ne (ne_of_none q h)]; exact q⟩)
  · exact .inr q
/-- a new object -/
theorem Ext.fresh {o : HO} {ι' : List Addr} {F' : Addr → Prop} (h : w.H p = none) (hι : ∀ (n : Nat) a, w.ι[n]? = some a → ι'[n]? = some a) (hF : ∀ a, w.F a → F' a) : Ext K w ⟨ι', F', upd w.H p o⟩ := by
  refine ⟨hι, fun a xs q => SqT.fresh h q, fun a xs q => ?_, fun a xs q => ?_, fun a o' us q => by show upd w.H p o a = _; rw [upd_ne (ne_of_none q h)]; exact q⟩
  · exact ⟨hF a q.1, by show upd w.H p o a = _; rw [upd_ne (ne_of_none q.2 h)]; exact q.2⟩
  · rcases q with ⟨o', q⟩ | q
    · exact .inl ⟨o', by show upd w.H p o a = _; rw [upd_ne (ne_of_none q h)]; exact q⟩
    · exact .inr q
theorem Ex2.fresh {o : HO} {ι' : List Addr} {F' : Addr → Prop} (h : w.H p = none) (hι : ∀ (n : Nat) a, w.ι[n]? = some a → ι'[n]? = some a) (hF : ∀ a, w.F a → F' a)
    (hι' : ∀ a ∈ ι', a ∈ w.ι ∨ a = p) (hF' : ∀ a, F' a → w.F a ∨ a = p) : Ex2 K w ⟨ι', F', upd w.H p o⟩ := by
  refine ⟨Ext.fresh h hι hF, fun a ha => ?_, hF, fun a ha => ?_, fun a u e _ _ => ?_, fun a ha => ?_⟩
  · rcases hι' a ha with z | z
    · exact .inl z
    · exact .inr (z ▸ h)
  · rcases hF' a ha with z | z
    · exact .inl z
    · exact .inr (.inr (z ▸ h))
  · show upd w.H p o a = _
    rw [upd_ne (ne_of_none e h)]; exact e
  · show upd w.H p o a ≠ none
    rw [upd_ne (ne_fresh h ha)]; exact ha
theorem Ex2.newTup {o : HO} (h : w.H p = none) : Ex2 K w ⟨w.ι, w.F, upd w.H p o⟩ := Ex2.fresh h (fun _ _ e => e) (fun _ z => z) (fun _ z => .inl z) fun _ z => .inl z
theorem Ex2.newLst {o : HO} (h : w.H p = none) : Ex2 K w ⟨w.ι, fun a => w.F a ∨ a = p, upd w.H p o⟩ := Ex2.fresh h (fun _ _ e => e) (fun _ z => .inl z) (fun _ z => .inl z) fun _ z => z
theorem TabG.fresh {H : Hp} {o : HO} {P : Addr} (h : H p = none) (q : GxR.TabG H P) : GxR.TabG (upd H p o) P := by
  obtain ⟨ps, q1, q2⟩ := q
  exact ⟨ps, by rw [upd_ne (ne_of_none q1 h)]; exact q1, q2⟩
theorem Rel.fresh (R : Rel K T w G) {o : HO} {F' : Addr → Prop} (h : w.H p = none) (hF : ∀ a, w.F a → F' a) (hF' : ∀ a, F' a → w.F a ∨ a = p) : Rel K T ⟨w.ι, F', upd w.H p o⟩ G := by
  have x : Ext K w ⟨w.ι, F', upd w.H p o⟩ := Ext.fresh h (fun _ _ e => e) hF
  refine ⟨R.len, R.nd, fun n c a e1 e2 => ?_, fun a ha => ?_, fun a ha => ?_, fun P hP => TabG.fresh h (R.tab P hP)⟩
  · have na : a ≠ p := ne_fresh h (R.alv a (List.mem_of_getElem? e2))
    refine (R.cell n c a e1 e2).mono x (upd_ne na) fun z => ?_
    rcases hF' a z with z | z
    · exact z
    · exact absurd z na
  · show upd w.H p o a ≠ none
    rcases hF' a ha with z | z
    · rw [upd_ne (ne_fresh h (R.live a z))]; exact R.live a z
    · rw [z, upd_same]; simp
  · show upd w.H p o a ≠ none
    rw [upd_ne (ne_fresh h (R.alv a ha))]; exact R.alv a ha
theorem Rel.newTup (R : Rel K T w G) {o : HO} (h : w.H p = none) : Rel K T ⟨w.ι, w.F, upd w.H p o⟩ G := R.fresh h (fun _ z => z) fun _ z => .inl z
theorem getElem?_snoc {α : Type} {l : List α} {x y : α} {n : Nat} (h : l[n]? = some y) : (l ++ [x])[n]? = some y := by
  rw [List.getElem?_append_left (List.getElem?_eq_some_iff.mp h).1]; exact h
theorem getElem?_snoc_inv {α : Type} {l : List α} {x y : α} {n : Nat} (h : (l ++ [x])[n]? = some y) : l[n]? = some y ∨ (n = l.length ∧ x = y) := by
  by_cases hn : n < l.length
  · rw [List.getElem?_append_left hn] at h; exact .inl h
  · rw [List.getElem?_append_right (by omega)] at h
    by_cases e : n - l.length = 0
    · rw [e] at h; simp at h; exact .inr ⟨by omega, h⟩
    · rw [List.getElem?_eq_none (by simp; omega)] at h; cases h
/-- a new thing that may change -/
theorem Ex2.cell {o : HO} (h : w.H p = none) : Ex2 K w ⟨w.ι ++ [p], w.F, upd w.H p o⟩ :=
  Ex2.fresh h (fun _ _ e => getElem?_snoc e) (fun _ z => z) (fun a z => (List.mem_append.mp z).imp id fun q => List.mem_singleton.mp q) fun _ z => .inl z
theorem Rel.newCell (R : Rel K T w G) {o : HO} {c : Cell} (h : w.H p = none) (hc : ¬ w.F p → CellOk K ⟨w.ι ++ [p], w.F, upd w.H p o⟩ p c) : Rel K T ⟨w.ι ++ [p], w.F, upd w.H p o⟩ (G ++ [c]) := by
  have x : Ext K w ⟨w.ι ++ [p], w.F, upd w.H p o⟩ := (Ex2.cell h).toExt
  refine ⟨by simp [R.len], ?_, fun n c' a e1 e2 => ?_, fun a ha => ?_, fun a ha => ?_, fun P hP => TabG.fresh h (R.tab P hP)⟩
  · refine List.nodup_append.mpr ⟨R.nd, by simp, fun a ha b hb => ?_⟩
    rw [List.mem_singleton.mp hb]
    exact ne_fresh h (R.alv a ha)
  · rcases getElem?_snoc_inv e1 with e1 | ⟨en, rfl⟩
    · have hn : n < w.ι.length := by rw [R.len]; exact (List.getElem?_eq_some_iff.mp e1).1
      rw [List.getElem?_append_left hn] at e2
      have na : a ≠ p := ne_fresh h (R.alv a (List.mem_of_getElem? e2))
      exact (R.cell n c' a e1 e2).mono x (upd_ne na) fun z => z
    · rw [en, ← R.len, List.getElem?_append_right (Nat.le_refl _), Nat.sub_self] at e2
      simp at e2
      subst e2
      exact hc fun z => R.live _ z h
  · show upd w.H p o a ≠ none
    rw [upd_ne (ne_fresh h (R.live a ha))]; exact R.live a ha
  · show upd w.H p o a ≠ none
    rcases List.mem_append.mp ha with ha | ha
    · rw [upd_ne (ne_fresh h (R.alv a ha))]; exact R.alv a ha
    · rw [List.mem_singleton.mp ha, upd_same]; simp
def Wr : HO → Prop
  | .lst _ => True
  | .dK _ => True
  | _ => False
/-- a cell is written -/
theorem Ext.write {a : Addr} {o u : HO} (hF : ¬ w.F a) (hu : w.H a = some u) (hw : Wr u) : Ext K w ⟨w.ι, w.F, upd w.H a o⟩ := by
  have ne : ∀ b q, w.H b = some q → ¬ Wr q → b ≠ a := fun b q e n z => by
    subst z
    rw [hu] at e; cases e
    exact n hw
  refine ⟨fun _ _ e => e, fun b xs q => ?_, fun b xs q => ?_, fun b xs q => ?_, fun b o' us q => by show upd w.H a o b = _; rw [upd_ne (ne b _ q fun z => z)]; exact q⟩
  · rcases q with (q | ⟨o', q⟩) | q
    · exact .inl (.inl (by show upd w.H a o b = _; rw [upd_ne (ne b _ q fun z => z)]; exact q))
    · exact .inl (.inr ⟨o', by show upd w.H a o b = _; rw [upd_ne (ne b _ q fun z => z)]; exact q⟩)
    · exact .inr q
  · refine ⟨q.1, ?_⟩
    show upd w.H a o b = _
    rw [upd_ne (show b ≠ a from fun z => hF (by rw [← z]; exact q.1))]; exact q.2
  · rcases q with ⟨o', q⟩ | q
    · refine .inl ⟨o', ?_⟩
      show upd w.H a o b = _
      rw [upd_ne (ne b _ q fun z => z)]; exact q
    · exact .inr q
theorem Ex2.write {a : Addr} {o u : HO} (ha : a ∈ w.ι) (hF : ¬ w.F a) (hu : w.H a = some u) (hw : Wr u) : Ex2 K w ⟨w.ι, w.F, upd w.H a o⟩ := by
  refine ⟨Ext.write hF hu hw, fun _ z => .inl z, fun _ z => z, fun _ z => .inl z, fun b q e n _ => ?_, fun b hb => ?_⟩
  · have nb : b ≠ a := fun z => by
      subst z
      exact n.elim (fun k => k ha) hF
    show upd w.H a o b = _
    rw [upd_ne nb]; exact e
  · show upd w.H a o b ≠ none
    by_cases e : b = a
    · rw [e, upd_same]; simp
    · rw [upd_ne e]; exact hb
theorem Rel.write (R : Rel K T w G) {n : Nat} {a : Addr} {o u : HO} {c : Cell} (ha : w.ι[n]? = some a) (hF : ¬ w.F a) (hu : w.H a = some u) (hw : Wr u)
    (hc : CellOk K ⟨w.ι, w.F, upd w.H a o⟩ a c) : Rel K T ⟨w.ι, w.F, upd w.H a o⟩ (G.set n c) := by
  have x : Ext K w ⟨w.ι, w.F, upd w.H a o⟩ := Ext.write hF hu hw
  refine ⟨by simp [R.len], R.nd, fun m c' b e1 e2 => ?_, fun b hb => ?_, fun b hb => ?_, fun P hP => ?_⟩
  · by_cases hm : m = n
    · subst hm
      have e2 : w.ι[m]? = some b := e2
      rw [ha] at e2; cases e2
      rw [List.getElem?_set_self (by rw [← R.len]; exact (List.getElem?_eq_some_iff.mp ha).1)] at e1
      cases e1
      exact hc
    · rw [List.getElem?_set_ne (Ne.symm hm)] at e1
      have e2 : w.ι[m]? = some b := e2
      have nb : b ≠ a := fun z => by
        subst z
        obtain ⟨h1, q1⟩ := List.getElem?_eq_some_iff.mp e2
        obtain ⟨h2, q2⟩ := List.getElem?_eq_some_iff.mp ha
        exact hm ((List.getElem_inj R.nd).mp (q1.trans q2.symm))
      exact (R.cell m c' b e1 e2).mono x (upd_ne nb) fun z => z
  · show upd w.H a o b ≠ none
    by_cases hb' : b = a
    · rw [hb', upd_same]; simp
    · rw [upd_ne hb']; exact R.live b hb
  · show upd w.H a o b ≠ none
    by_cases hb' : b = a
    · rw [hb', upd_same]; simp
    · rw [upd_ne hb']; exact R.alv b hb
  · obtain ⟨ps, q1, q2⟩ := R.tab P hP
    refine ⟨ps, ?_, q2⟩
    show upd w.H a o P = _
    rw [upd_ne (fun z => by subst z; rw [hu] at q1; cases q1; exact hw)]; exact q1
/-- a list is never written any more -/
theorem Ext.freeze {a : Addr} : Ext K w ⟨w.ι, fun b => w.F b ∨ b = a, w.H⟩ := by
  exact ⟨fun _ _ e => e, fun b xs q => q, fun b xs q => ⟨.inl q.1, q.2⟩, fun b xs q => q, fun _ _ _ q => q⟩
theorem Ex2.freeze {a : Addr} (ha : a ∈ w.ι) : Ex2 K w ⟨w.ι, fun b => w.F b ∨ b = a, w.H⟩ :=
  ⟨Ext.freeze, fun _ z => .inl z, fun _ z => .inl z, fun b z => z.elim .inl (fun q => .inr (.inl (by rw [q]; exact ha))), fun _ _ e _ _ => e, fun _ z => z⟩
theorem Rel.freeze (R : Rel K T w G) {n : Nat} {a : Addr} (ha : w.ι[n]? = some a) : Rel K T ⟨w.ι, fun b => w.F b ∨ b = a, w.H⟩ (G.set n .gone) := by
  refine ⟨by simp [R.len], R.nd, fun m c' b e1 e2 => ?_, fun b hb => ?_, R.alv, R.tab⟩
  · by_cases hm : m = n
    · subst hm
      rw [List.getElem?_set_self (by rw [← R.len]; exact (List.getElem?_eq_some_iff.mp ha).1)] at e1
      cases e1
      trivial
    · rw [List.getElem?_set_ne (Ne.symm hm)] at e1
      have e2 : w.ι[m]? = some b := e2
      have nb : b ≠ a := fun z => by
        subst z
        obtain ⟨h1, q1⟩ := List.getElem?_eq_some_iff.mp e2
        obtain ⟨h2, q2⟩ := List.getElem?_eq_some_iff.mp ha
        exact hm ((List.getElem_inj R.nd).mp (q1.trans q2.symm))
      exact (R.cell m c' b e1 e2).mono Ext.freeze rfl fun z => z.elim id fun z => absurd z nb
  · rcases hb with hb | rfl
    · exact R.live b hb
    · exact R.alv _ (List.mem_of_getElem? ha)
end

/-! ### what an evaluation gives -/
abbrev Rs := Option (D × Hs)
/-- what is wanted of a result -/
def Lift (K : PySem.W.Frag) (T : List Addr) (w : Wd) (r : Rs) (Q : V → Hp → Prop) : Prop :=
  ∃ d G', r = some (d, G') ∧ ∀ w' v, Ex2 K w w' → Rel K T w' G' → RV K w' d v → Q v w'.H
theorem Lift.now {w : Wd} {G : Hs} {d : D} {v : V} {Q : V → Hp → Prop} (R : Rel K T w G) (h : Lift K T w (some (d, G)) Q) (r : RV K w d v) : Q v w.H := by
  obtain ⟨d', G', e, q⟩ := h
  cases e
  exact q w v Ex2.refl R r
theorem Lift.to {w w' : Wd} {G' : Hs} {d : D} {v : V} {Q : V → Hp → Prop} (h : Lift K T w (some (d, G')) Q) (x : Ex2 K w w') (R : Rel K T w' G') (r : RV K w' d v) : Q v w'.H := by
  obtain ⟨d', G', e, q⟩ := h
  cases e
  exact q w' v x R r
theorem Lift.from {w w' : Wd} {r : Rs} {Q : V → Hp → Prop} (x : Ex2 K w w') (h : Lift K T w r Q) : Lift K T w' r Q := by
  obtain ⟨d, G', e, q⟩ := h
  exact ⟨d, G', e, fun w'' v y => q w'' v (x.trans y)⟩

abbrev Env' := List (Option D)
/-- the slots -/
structure RS (K : PySem.W.Frag) (w : Wd) (ς : Env') (σ : St) : Prop where
  len : ς.length = σ.length
  at_ : ∀ (i : Nat) d, ς[i]? = some (some d) → ∃ v, σ[i]? = some (some v) ∧ RV K w d v
theorem RS.ext {w w' : Wd} {ς : Env'} {σ : St} (x : Ext K w w') (h : RS K w ς σ) : RS K w' ς σ :=
  ⟨h.len, fun i d e => let ⟨v, e1, e2⟩ := h.at_ i d e; ⟨v, e1, RV.ext x _ _ e2⟩⟩
theorem RS.set {w : Wd} {ς : Env'} {σ : St} {d : D} {v : V} (h : RS K w ς σ) (r : RV K w d v) (i : Nat) : RS K w (ς.set i (some d)) (σ.set i (some v)) := by
  refine ⟨by simp [h.len], fun j e q => ?_⟩
  by_cases hj : j = i
  · subst hj
    by_cases hl : j < ς.length
    · rw [List.getElem?_set_self hl] at q
      cases q
      exact ⟨v, by rw [List.getElem?_set_self (by rw [← h.len]; exact hl)], r⟩
    · rw [List.getElem?_eq_none (by simpa using hl)] at q; cases q
  · rw [List.getElem?_set_ne (Ne.symm hj)] at q ⊢
    exact h.at_ j e q

/-- an expression's reading, by its plain value -/
def LE (K : PySem.W.Frag) (T : List Addr) (f : Env' → Hs → Rs) : TE := fun σ H Q =>
  ∃ ι F ς G, Rel K T ⟨ι, F, H⟩ G ∧ RS K ⟨ι, F, H⟩ ς σ ∧ Lift K T ⟨ι, F, H⟩ (f ς G) Q
theorem LE.mono {f : Env' → Hs → Rs} {σ : St} {H : Hp} {Q Q' : V → Hp → Prop} (h : LE K T f σ H Q) (m : ∀ v H, Q v H → Q' v H) : LE K T f σ H Q' := by
  obtain ⟨ι, F, ς, G, R, S, d, G', e, q⟩ := h
  exact ⟨ι, F, ς, G, R, S, d, G', e, fun w' v x R' r => m _ _ (q w' v x R' r)⟩
end Mp
set_option Elab.async false
set_option linter.all false
set_option autoImplicit false
set_option maxRecDepth 100000
set_option maxHeartbeats 1000000
/-! Mp, part 2: operations on data, and that the model does them -/
namespace Mp
open PySem PySem.Spec L2
open PyProof.Rows hiding St

variable {K : PySem.W.Frag} {T : List Addr}

/-! ### readings of operations -/
def r1 (K : PySem.W.Frag) (T : List Addr) (g : D → Hs → Rs) : V → Hp → VK → Prop := fun x H Q =>
  ∃ ι F G dx, Rel K T ⟨ι, F, H⟩ G ∧ RV K ⟨ι, F, H⟩ dx x ∧ Lift K T ⟨ι, F, H⟩ (g dx G) Q
def r2 (K : PySem.W.Frag) (T : List Addr) (g : D → D → Hs → Rs) : R2 := fun x y H Q =>
  ∃ ι F G dx dy, Rel K T ⟨ι, F, H⟩ G ∧ RV K ⟨ι, F, H⟩ dx x ∧ RV K ⟨ι, F, H⟩ dy y ∧ Lift K T ⟨ι, F, H⟩ (g dx dy G) Q
def rn (K : PySem.W.Frag) (T : List Addr) (g : List D → Hs → Rs) : List V → Hp → VK → Prop := fun xs H Q =>
  ∃ ι F G ds, Rel K T ⟨ι, F, H⟩ G ∧ RVs K ⟨ι, F, H⟩ ds xs ∧ Lift K T ⟨ι, F, H⟩ (g ds G) Q
def rm (K : PySem.W.Frag) (T : List Addr) (g : D → List D → Hs → Rs) : V → List V → Hp → VK → Prop := fun x xs H Q =>
  ∃ ι F G d ds, Rel K T ⟨ι, F, H⟩ G ∧ RV K ⟨ι, F, H⟩ d x ∧ RVs K ⟨ι, F, H⟩ ds xs ∧ Lift K T ⟨ι, F, H⟩ (g d ds G) Q

/-- a result that is none is asked of nobody -/
theorem Lift.no {w : Wd} {Q : V → Hp → Prop} {P : Prop} (h : Lift K T w none Q) : P := by
  obtain ⟨_, _, e, _⟩ := h
  cases e
theorem Lift.ite {w : Wd} {c : Prop} [Decidable c] {r : Rs} {Q : V → Hp → Prop} (h : Lift K T w (if c then r else none) Q) : c ∧ Lift K T w r Q := by
  by_cases e : c
  · rw [if_pos e] at h; exact ⟨e, h⟩
  · rw [if_neg e] at h; exact h.no
theorem Lift.ofBind {α : Type} {w : Wd} {o : Option α} {f : α → Rs} {Q : V → Hp → Prop} (h : Lift K T w (o.bind f) Q) : ∃ a, o = some a ∧ Lift K T w (f a) Q := by
  cases o with
  | none => exact h.no
  | some a => exact ⟨a, rfl, h⟩

theorem rv_int {w : Wd} {i : Int} {v : V} (h : RV K w (.int i) v) : v = .int i := h
theorem rv_bl {w : Wd} {i : Bool} {v : V} (h : RV K w (.bl i) v) : v = .bl i := h
theorem rv_str {w : Wd} {i : List Nat} {v : V} (h : RV K w (.str i) v) : v = .str ⟨i.toArray⟩ := h

/-! ### reading sequences -/
def listOf (G : Hs) : D → Option (List D)
  | .lst ds => some ds
  | .ref n => match G[n]? with
    | some (.lst ds) => some ds
    | _ => none
  | _ => none
def roOf (G : Hs) : D → Option (List D)
  | .fz ds => some ds
  | d => listOf G d
def seqOf (G : Hs) : D → Option (List D)
  | .tup ds => some ds
  | .row ds => some ds
  | d => roOf G d
theorem cell_at {w : Wd} {G : Hs} {n : Nat} {ds : List D} (R : Rel K T w G) {v : V} (r : RV K w (.ref n) v) (e : G[n]? = some (.lst ds)) :
    ∃ a vs, v = .ref a ∧ w.ι[n]? = some a ∧ ¬ w.F a ∧ w.H a = some (.lst vs) ∧ RVs K w ds vs := by
  obtain ⟨a, ev, ea⟩ := r
  obtain ⟨nf, vs, h1, h2⟩ := R.cell n _ a e ea
  exact ⟨a, vs, ev, ea, nf, h1, h2⟩
theorem listOf_at {w : Wd} {G : Hs} (R : Rel K T w G) {d : D} {v : V} (r : RV K w d v) {ds : List D} (e : listOf G d = some ds) :
    ∃ a vs, v = .ref a ∧ w.H a = some (.lst vs) ∧ RVs K w ds vs := by
  cases d with
  | lst xs =>
    cases e
    obtain ⟨a, vs, e1, h1, h2⟩ := r
    exact ⟨a, vs, e1, h1.2, h2⟩
  | ref n =>
    simp only [listOf] at e
    split at e
    · rename_i xs eg
      cases e
      obtain ⟨a, vs, e1, _, _, h1, h2⟩ := cell_at R r eg
      exact ⟨a, vs, e1, h1, h2⟩
    · cases e
  | non => cases e
  | bl _ => cases e
  | int _ => cases e
  | str _ => cases e
  | tup _ => cases e
  | fz _ => cases e
  | dic _ _ => cases e
  | row _ => cases e
theorem roOf_at {w : Wd} {G : Hs} (R : Rel K T w G) {d : D} {v : V} (r : RV K w d v) {ds : List D} (e : roOf G d = some ds) :
    ∃ a vs, v = .ref a ∧ SqL K w.H a vs ∧ RVs K w ds vs := by
  by_cases h : ∃ xs, d = .fz xs
  · obtain ⟨xs, rfl⟩ := h
    cases e
    obtain ⟨a, vs, e1, h1, h2⟩ := r
    exact ⟨a, vs, e1, h1.sq, h2⟩
  · have e' : listOf G d = some ds := by
      cases d <;> first | exact e | exact absurd ⟨_, rfl⟩ h
    obtain ⟨a, vs, e1, h1, h2⟩ := listOf_at R r e'
    exact ⟨a, vs, e1, .of h1, h2⟩
theorem seqOf_at {w : Wd} {G : Hs} (R : Rel K T w G) {d : D} {v : V} (r : RV K w d v) {ds : List D} (e : seqOf G d = some ds) :
    ∃ a vs, v = .ref a ∧ (SqL K w.H a vs ∨ SqT K w.H a vs) ∧ RVs K w ds vs := by
  by_cases h : ∃ xs, d = .tup xs
  · obtain ⟨xs, rfl⟩ := h
    cases e
    obtain ⟨a, vs, e1, h1, h2⟩ := r
    exact ⟨a, vs, e1, .inr h1, h2⟩
  by_cases h' : ∃ xs, d = .row xs
  · obtain ⟨xs, rfl⟩ := h'
    cases e
    obtain ⟨a, o, vs, e1, h1, _, h2⟩ := r
    exact ⟨a, vs, e1, .inr (.inl (.inr ⟨o, h1⟩)), h2⟩
  · have e' : roOf G d = some ds := by
      cases d <;> first | exact e | exact absurd ⟨_, rfl⟩ h | exact absurd ⟨_, rfl⟩ h'
    obtain ⟨a, vs, e1, h1, h2⟩ := roOf_at R r e'
    exact ⟨a, vs, e1, .inl h1, h2⟩

/-! ### the results that are new -/
theorem Lift.newT {w : Wd} {G : Hs} {ds : List D} {vs : List V} {Q : V → Hp → Prop} (R : Rel K T w G) (h : Lift K T w (some (.tup ds, G)) Q) (r : RVs K w ds vs) : ∀ p, w.H p = none → Q (.ref p) (upd w.H p (.tup vs)) := by
  intro p hp
  have x : Ex2 K w ⟨w.ι, w.F, upd w.H p (.tup vs)⟩ := Ex2.newTup hp
  exact h.to x (R.newTup hp) ⟨p, vs, rfl, .of upd_same, r.ext x.toExt⟩
theorem Lift.newL {w : Wd} {G : Hs} {ds : List D} {vs : List V} {Q : V → Hp → Prop} (R : Rel K T w G) (h : Lift K T w (some (.lst ds, G)) Q) (r : RVs K w ds vs) : ∀ p, w.H p = none → Q (.ref p) (upd w.H p (.lst vs)) := by
  intro p hp
  have x : Ex2 K w ⟨w.ι, fun a => w.F a ∨ a = p, upd w.H p (.lst vs)⟩ := Ex2.newLst hp
  exact h.to x (R.fresh hp (fun _ z => .inl z) fun _ z => z) ⟨p, vs, rfl, ⟨.inr rfl, upd_same⟩, r.ext x.toExt⟩
theorem Lift.newC {w : Wd} {G : Hs} {ds : List D} {vs : List V} {Q : V → Hp → Prop} (R : Rel K T w G) (h : Lift K T w (some (.ref G.length, G ++ [.lst ds])) Q) (r : RVs K w ds vs) : ∀ p, w.H p = none → Q (.ref p) (upd w.H p (.lst vs)) := by
  intro p hp
  have x : Ex2 K w ⟨w.ι ++ [p], w.F, upd w.H p (.lst vs)⟩ := Ex2.cell hp
  refine h.to x (R.newCell hp fun nf => ⟨nf, vs, upd_same, r.ext x.toExt⟩) ⟨p, rfl, ?_⟩
  show (w.ι ++ [p])[G.length]? = some p
  rw [← R.len, List.getElem?_append_right (Nat.le_refl _), Nat.sub_self]; rfl

/-! ### binary operations -/
inductive Bop where
  | add | sub | mul | fdiv | mod | pow
def Bop.py : Bop → Operator
  | .add => .Add | .sub => .Sub | .mul => .Mult | .fdiv => .FloorDiv | .mod => .Mod | .pow => .Pow
def binD : Bop → D → D → Hs → Rs
  | .add, .int i, .int j, G => some (.int (i + j), G)
  | .add, .str a, .str b, G => if a.length + b.length ≤ sizeLine then some (.str (a ++ b), G) else none
  | .add, .tup a, .tup b, G => if a.length + b.length ≤ sizeLine then some (.tup (a ++ b), G) else none
  | .add, x, y, G => (listOf G x).bind fun a => (listOf G y).bind fun b => if a.length + b.length ≤ sizeLine then some (.lst (a ++ b), G) else none
  | .sub, .int i, .int j, G => some (.int (i - j), G)
  | .mul, .int i, .int j, G => if (-(2 ^ 64) < i ∧ i < 2 ^ 64) ∨ (-(2 ^ 64) < j ∧ j < 2 ^ 64) then some (.int (i * j), G) else none
  | .mul, .str a, .int n, G => if -(2 ^ 62) ≤ n ∧ n < 2 ^ 62 ∧ a.length * n.toNat ≤ sizeLine then some (.str (List.replicate n.toNat a).flatten, G) else none
  | .mul, x, .int n, G => (listOf G x).bind fun a => if -(2 ^ 63) ≤ n ∧ n < 2 ^ 63 ∧ a.length * n.toNat ≤ sizeLine then some (.lst (List.replicate n.toNat a).flatten, G) else none
  | .fdiv, .int i, .int j, G => if 0 < j ∧ j < 1073741824 then some (.int (i / j), G) else none
  | .mod, .int i, .int j, G => if 0 < j then some (.int (i % j), G) else none
  | .pow, .int i, .int j, G => if 0 ≤ j ∧ j ≤ 1000000 ∧ i.natAbs < 2 ^ 64 then some (.int (i ^ j.toNat), G) else none
  | _, _, _, _ => none
def repM (x y : D) (G : Hs) : Rs := match y with
  | .int n => (listOf G x).bind fun a => if -(2 ^ 63) ≤ n ∧ n < 2 ^ 63 ∧ a.length * n.toNat ≤ sizeLine then some (.ref G.length, G ++ [.lst (List.replicate n.toNat a).flatten]) else none
  | _ => none
def catM (x y : D) (G : Hs) : Rs := (listOf G x).bind fun a => (listOf G y).bind fun b => if a.length + b.length ≤ sizeLine then some (.ref G.length, G ++ [.lst (a ++ b)]) else none

section
variable {X : Cx}
theorem toArr (a b : List Nat) : (⟨a.toArray⟩ : Str) ++ (⟨b.toArray⟩ : Str) = ⟨(a ++ b).toArray⟩ := by
  show (⟨a.toArray ++ b.toArray⟩ : Str) = _
  simp
theorem strLen (a : List Nat) : (⟨a.toArray⟩ : Str).length = a.length := by simp [Str.length]

theorem add_ll {w : Wd} {G : Hs} {dx dy : D} {x y : V} {u v : Value} {pins : List (Addr × Obj)} {s : Shared} {σ : L2.St} {Q : VK} (I : Inv X pins σ w.H s) (R : Rel X.K T w G) (rx : RV X.K w dx x) (ry : RV X.K w dy y) (rv : RelV x v) (ru : RelV y u)
    (h : Lift X.K T w ((listOf G dx).bind fun a => (listOf G dy).bind fun b => if a.length + b.length ≤ sizeLine then some (.lst (a ++ b), G) else none) Q) :
    wpAny (model X.prog X.w) X.A (binaryOp .Add v u) (EP X pins σ Q) X.xe s := by
  obtain ⟨a, ea, h⟩ := h.ofBind
  obtain ⟨b, eb, h⟩ := h.ofBind
  obtain ⟨hl, h⟩ := h.ite
  obtain ⟨p, vs, rfl, h1, q1⟩ := listOf_at R rx ea
  obtain ⟨p', vs', rfl, h2, q2⟩ := listOf_at R ry eb
  refine op_cat pins s σ w.H _ _ v u Q I rv ru ⟨p, p', vs, vs', rfl, rfl, h1, h2, by rw [← q1.len, ← q2.len]; exact hl, ?_⟩
  exact h.newL R (q1.append q2)
theorem RVs.rep {w : Wd} {ds : List D} {vs : List V} (h : RVs K w ds vs) : ∀ n : Nat, RVs K w (List.replicate n ds).flatten (List.replicate n vs).flatten
  | 0 => rfl
  | n + 1 => by
    rw [List.replicate_succ, List.replicate_succ, List.flatten_cons, List.flatten_cons]
    exact h.append (RVs.rep h n)
theorem fold_rep (a : List Nat) : ∀ (n : Nat) (acc : List Nat), (List.replicate n a.toArray).foldl (· ++ ·) acc.toArray = (acc ++ (List.replicate n a).flatten).toArray
  | 0, acc => by simp
  | n + 1, acc => by
    rw [List.replicate_succ, List.foldl_cons, List.append_toArray, fold_rep a n, List.replicate_succ, List.flatten_cons, List.append_assoc]
theorem len_rep (a : List Nat) : ∀ n : Nat, (List.replicate n a).flatten.length = a.length * n
  | 0 => rfl
  | n + 1 => by rw [List.replicate_succ, List.flatten_cons, List.length_append, len_rep a n, Nat.mul_succ]; omega
theorem mul_strD {w : Wd} {a : List Nat} {n : Int} {x y : V} {u v : Value} {pins : List (Addr × Obj)} {s : Shared} {σ : L2.St} {Q : VK} (I : Inv X pins σ w.H s) (rx : RV X.K w (.str a) x) (ry : RV X.K w (.int n) y) (rv : RelV x v) (ru : RelV y u)
    (h1 : -(2 ^ 62) ≤ n) (h2 : n < 2 ^ 62) (h3 : a.length * n.toNat ≤ sizeLine) (q : Q (.str ⟨(List.replicate n.toNat a).flatten.toArray⟩) w.H) :
    wpAny (model X.prog X.w) X.A (binaryOp .Mult v u) (EP X pins σ Q) X.xe s := by
  rw [show x = _ from rx] at rv
  rw [show y = _ from ry] at ru
  obtain ⟨t, rfl⟩ := rv
  obtain ⟨t', rfl⟩ := ru
  have hl : (⟨a.toArray⟩ : Str).length = a.length := strLen a
  have h3' := h3
  rw [sizeLine_eq] at h3'
  refine PySem.P.mul_str ?_ (fun g1 g2 => ?_) (fun g1 g2 => ?_) ?_
  · rw [decide_eq_false (by omega), decide_eq_false (by omega)]; rfl
  · rw [hl]
    have g1 : 1 ≤ n := by omega
    have gm : (a.length : Int) * n ≤ 16777216 := by
      have e : n = (n.toNat : Int) := by omega
      rw [e]
      have q := Int.ofNat_le.mpr h3'
      rw [Int.natCast_mul] at q
      exact q
    intro z
    have z' : (2 ^ 63 - 1) / n < (a.length : Int) := z
    have z2 : (2 ^ 63 - 1 : Int) < (a.length : Int) * n := (Int.ediv_lt_iff_lt_mul (by omega)).mp z'
    omega
  · unfold Builtin.Str.tooLong
    rw [hl]
    exact decide_eq_false (by omega)
  · by_cases c1 : n < 1
    · rw [if_pos c1]
      have e : n.toNat = 0 := by omega
      rw [e] at q
      exact ⟨by decide, .str _, w.H, I.tok _, ⟨_, rfl⟩, q⟩
    · rw [if_neg c1]
      by_cases c2 : (n == 1 || (⟨a.toArray⟩ : Str).length == 0) = true
      · rw [if_pos c2]
        have e : (List.replicate n.toNat a).flatten = a := by
          rw [Bool.or_eq_true, hl] at c2
          rcases c2 with c2 | c2
          · have : n = 1 := eq_of_beq c2
            subst this
            exact List.append_nil a
          · have : a = [] := by
              have : a.length = 0 := eq_of_beq c2
              exact List.length_eq_zero_iff.mp this
            subst this
            rw [List.flatten_eq_nil_iff]
            intro l hl
            exact List.eq_of_mem_replicate hl
        rw [e] at q
        exact ⟨.str _, w.H, I, ⟨_, rfl⟩, q⟩
      · rw [if_neg c2]
        have e := fold_rep a n.toNat []
        rw [List.nil_append] at e
        have e2 : (⟨(List.replicate n.toNat (⟨a.toArray⟩ : Str).cps).foldl (· ++ ·) #[]⟩ : Str) = ⟨(List.replicate n.toNat a).flatten.toArray⟩ := congrArg _ e
        rw [e2]
        refine ⟨?_, .str _, w.H, I.tok _, ⟨_, rfl⟩, q⟩
        rw [strLen, len_rep]; exact h3
theorem op_bin (o : Bop) : OpR X (binaryOp o.py) (r2 X.K T (binD o)) := by
  intro pins s σ H x y v u Q I rv ru h
  obtain ⟨ι, F, G, dx, dy, R, rx, ry, h⟩ := h
  cases o with
  | add =>
    by_cases c : (∃ i j, dx = .int i ∧ dy = .int j) ∨ (∃ a b, dx = .str a ∧ dy = .str b) ∨ ∃ a b, dx = .tup a ∧ dy = .tup b
    · rcases c with ⟨i, j, rfl, rfl⟩ | ⟨a, b, rfl, rfl⟩ | ⟨a, b, rfl, rfl⟩
      · exact op_add pins s σ H x y v u Q I rv ru ⟨i, j, rx, ry, h.now R rfl⟩
      · obtain ⟨hl, h⟩ := h.ite
        refine op_add_str pins s σ H x y v u Q I rv ru ⟨_, _, rx, ry, by rw [strLen, strLen]; exact hl, ?_⟩
        rw [toArr]
        exact h.now R rfl
      · obtain ⟨hl, h⟩ := h.ite
        obtain ⟨p, vs, rfl, h1, q1⟩ := rx
        obtain ⟨p', vs', rfl, h2, q2⟩ := ry
        have l1 := q1.len
        have l2 := q2.len
        refine op_catA pins s σ H _ _ v u Q I rv ru ⟨p, p', vs, vs', rfl, rfl, h1, h2, by rw [← l1, ← l2]; exact hl, fun z => ?_, fun _ z => ?_, fun _ z => ?_⟩
        · have ea : a = [] := by rw [z] at l1; exact List.length_eq_zero_iff.mp l1
          subst ea
          rw [List.nil_append] at h
          exact h.now R ⟨p', vs', rfl, h2, q2⟩
        · have eb : b = [] := by rw [z] at l2; exact List.length_eq_zero_iff.mp l2
          subst eb
          rw [List.append_nil] at h
          exact h.now R ⟨p, vs, rfl, h1, q1⟩
        · exact h.newT R (q1.append q2)
    · have h' : Lift X.K T ⟨ι, F, H⟩ ((listOf G dx).bind fun a => (listOf G dy).bind fun b => if a.length + b.length ≤ sizeLine then some (.lst (a ++ b), G) else none) Q := by
        cases dx <;> cases dy <;> first | exact h | exact absurd (.inl ⟨_, _, rfl, rfl⟩) c | exact absurd (.inr (.inl ⟨_, _, rfl, rfl⟩)) c | exact absurd (.inr (.inr ⟨_, _, rfl, rfl⟩)) c
      exact add_ll (w := ⟨ι, F, H⟩) I R rx ry rv ru h'
  | sub =>
    cases dx <;> first | exact h.no | skip
    cases dy <;> first | exact h.no | skip
    exact op_sub pins s σ H x y v u Q I rv ru ⟨_, _, rx, ry, h.now R rfl⟩
  | mul =>
    by_cases ci : ∃ i j, dx = .int i ∧ dy = .int j
    · obtain ⟨i, j, rfl, rfl⟩ := ci
      obtain ⟨hc, h⟩ := h.ite
      exact op_mul pins s σ H x y v u Q I rv ru ⟨_, _, rx, ry, hc, h.now R rfl⟩
    by_cases cs : ∃ a n, dx = .str a ∧ dy = .int n
    · obtain ⟨a, n, rfl, rfl⟩ := cs
      obtain ⟨⟨h1, h2, h3⟩, h⟩ := h.ite
      exact mul_strD I rx ry rv ru h1 h2 h3 (h.now R rfl)
    · cases dy with
      | int n =>
        have h' : Lift X.K T ⟨ι, F, H⟩ ((listOf G dx).bind fun a => if -(2 ^ 63) ≤ n ∧ n < 2 ^ 63 ∧ a.length * n.toNat ≤ sizeLine then some (.lst (List.replicate n.toNat a).flatten, G) else none) Q := by
          cases dx <;> first | exact h | exact absurd ⟨_, _, rfl, rfl⟩ ci | exact absurd ⟨_, _, rfl, rfl⟩ cs
        obtain ⟨a, ea, h⟩ := h'.ofBind
        obtain ⟨⟨h1, h2, h3⟩, h⟩ := h.ite
        obtain ⟨p, vs, rfl, q1, q2⟩ := listOf_at R rx ea
        exact op_rep pins s σ H _ _ v u Q I rv ru ⟨p, n, vs, rfl, ry, q1, h1, h2, by rw [← q2.len]; exact h3, h.newL R (q2.rep n.toNat)⟩
      | _ => cases dx <;> exact h.no
  | fdiv =>
    cases dx <;> first | exact h.no | skip
    cases dy <;> first | exact h.no | skip
    obtain ⟨hc, h⟩ := h.ite
    exact op_fdiv pins s σ H x y v u Q I rv ru ⟨_, _, rx, ry, hc, h.now R rfl⟩
  | mod =>
    cases dx <;> first | exact h.no | skip
    cases dy <;> first | exact h.no | skip
    obtain ⟨hc, h⟩ := h.ite
    exact op_mod pins s σ H x y v u Q I rv ru ⟨_, _, rx, ry, hc, h.now R rfl⟩
  | pow =>
    cases dx <;> first | exact h.no | skip
    cases dy <;> first | exact h.no | skip
    obtain ⟨hc, h⟩ := h.ite
    exact op_pow pins s σ H x y v u Q I rv ru ⟨_, _, rx, ry, hc, h.now R rfl⟩
theorem op_catM : OpR X (binaryOp .Add) (r2 X.K T catM) := by
  intro pins s σ H x y v u Q I rv ru h
  obtain ⟨ι, F, G, dx, dy, R, rx, ry, h⟩ := h
  obtain ⟨a, ea, h⟩ := h.ofBind
  obtain ⟨b, eb, h⟩ := h.ofBind
  obtain ⟨hl, h⟩ := h.ite
  obtain ⟨p, vs, rfl, h1, q1⟩ := listOf_at R rx ea
  obtain ⟨p', vs', rfl, h2, q2⟩ := listOf_at R ry eb
  refine op_cat pins s σ H _ _ v u Q I rv ru ⟨p, p', vs, vs', rfl, rfl, h1, h2, by rw [← q1.len, ← q2.len]; exact hl, ?_⟩
  exact h.newC R (q1.append q2)
theorem op_repM : OpR X (binaryOp .Mult) (r2 X.K T repM) := by
  intro pins s σ H x y v u Q I rv ru h
  obtain ⟨ι, F, G, dx, dy, R, rx, ry, h⟩ := h
  cases dy <;> first | exact h.no | skip
  rename_i n
  obtain ⟨a, ea, h⟩ := h.ofBind
  obtain ⟨⟨h1, h2, h3⟩, h⟩ := h.ite
  obtain ⟨p, vs, rfl, q1, q2⟩ := listOf_at R rx ea
  exact op_rep pins s σ H _ _ v u Q I rv ru ⟨p, n, vs, rfl, ry, q1, h1, h2, by rw [← q2.len]; exact h3, h.newC R (q2.rep n.toNat)⟩
theorem un_negD : UnR X (unaryOp .USub) (r1 X.K T fun d G => match d with | .int i => some (.int (-i), G) | _ => none) := by
  intro pins s σ H x v Q I rv h
  obtain ⟨ι, F, G, dx, R, rx, h⟩ := h
  cases dx <;> first | exact h.no | skip
  exact un_neg pins s σ H x v Q I rv ⟨_, rx, h.now R rfl⟩
end
end Mp
set_option Elab.async false
set_option linter.all false
set_option autoImplicit false
set_option maxRecDepth 100000
set_option maxHeartbeats 1000000
/-! Mp, part 3: comparisons -/
namespace Mp
open PySem PySem.Spec L2
open PyProof.Rows hiding St

variable {K : PySem.W.Frag} {T : List Addr}

mutual
def eqD : D → D → Bool
  | .non, .non => true
  | .bl a, .bl b => a == b
  | .bl a, .int j => (if a then 1 else 0) == j
  | .int i, .bl b => i == (if b then 1 else 0)
  | .int i, .int j => i == j
  | .str a, .str b => a == b
  | .tup a, .tup b => eqDs a b
  | .lst a, .lst b => eqDs a b
  | _, _ => false
def eqDs : List D → List D → Bool
  | [], [] => true
  | a :: r, b :: t => eqD a b && eqDs r t
  | _, _ => false
end
mutual
/-- no thing that may change within, texts of sound codes -/
def okD : D → Bool
  | .str cs => cs.all (· < 0x110000)
  | .tup ds => okDs ds
  | .lst ds => okDs ds
  | .fz _ => false
  | .dic _ _ => false
  | .row _ => false
  | .ref _ => false
  | _ => true
def okDs : List D → Bool
  | [] => true
  | d :: r => okD d && okDs r
end
mutual
def depD : D → Nat
  | .tup ds => depDs ds + 1
  | .lst ds => depDs ds + 1
  | _ => 0
def depDs : List D → Nat
  | [] => 0
  | d :: r => max (depD d) (depDs r)
end
mutual
def toP : D → PyData
  | .non => .none
  | .bl b => .bool b
  | .int i => .int i
  | .str cs => .str ⟨cs.toArray⟩
  | .tup ds => .tuple (toPs ds)
  | .lst ds => .list (toPs ds)
  | .fz _ => .none
  | .dic _ _ => .none
  | .row _ => .none
  | .ref _ => .none
def toPs : List D → List PyData
  | [] => []
  | d :: r => toP d :: toPs r
end
mutual
theorem toP_lay : ∀ d : D, okD d = true → (toP d).canLay0 = true
  | .non, _ => by simp [toP, PyData.canLay0]
  | .bl _, _ => by simp [toP, PyData.canLay0]
  | .int _, _ => by simp [toP, PyData.canLay0]
  | .str cs, h => by
    simp only [okD] at h
    simp only [toP, PyData.canLay0, PyData.strOk]
    simpa using h
  | .tup ds, h => by simp only [okD] at h; simp only [toP, PyData.canLay0]; exact toPs_lay ds h
  | .lst ds, h => by simp only [okD] at h; simp only [toP, PyData.canLay0]; exact toPs_lay ds h
  | .fz _, h => by simp [okD] at h
  | .dic _ _, h => by simp [okD] at h
  | .row _, h => by simp [okD] at h
  | .ref _, h => by simp [okD] at h
theorem toPs_lay : ∀ ds : List D, okDs ds = true → PyData.canLayAll0 (toPs ds) = true
  | [], _ => by simp [toPs, PyData.canLayAll0]
  | d :: r, h => by
    simp only [okDs, Bool.and_eq_true] at h
    simp only [toPs, PyData.canLayAll0, toP_lay d h.1, toPs_lay r h.2, Bool.and_true]
end
mutual
theorem toP_dep : ∀ d : D, (toP d).depth = depD d
  | .non => by simp [toP, PyData.depth, depD]
  | .bl _ => by simp [toP, PyData.depth, depD]
  | .int _ => by simp [toP, PyData.depth, depD]
  | .str _ => by simp [toP, PyData.depth, depD]
  | .tup ds => by simp only [toP, PyData.depth, depD, toPs_dep ds]
  | .lst ds => by simp only [toP, PyData.depth, depD, toPs_dep ds]
  | .fz _ => by simp [toP, PyData.depth, depD]
  | .dic _ _ => by simp [toP, PyData.depth, depD]
  | .row _ => by simp [toP, PyData.depth, depD]
  | .ref _ => by simp [toP, PyData.depth, depD]
theorem toPs_dep : ∀ ds : List D, PyData.depthAll (toPs ds) = depDs ds
  | [] => by simp [toPs, PyData.depthAll, depDs]
  | d :: r => by simp only [toPs, PyData.depthAll, depDs, toP_dep d, toPs_dep r]
end
mutual
theorem eqD_eqv : ∀ a b : D, okD a = true → okD b = true → PyData.eqv (toP a) (toP b) = eqD a b
  | .non, b, _, hb => by cases b <;> simp_all [okD, toP, PyData.eqv, eqD]
  | .bl x, b, _, hb => by cases b <;> simp_all [okD, toP, PyData.eqv, eqD]
  | .int x, b, _, hb => by cases b <;> simp_all [okD, toP, PyData.eqv, eqD]
  | .str x, b, _, hb => by
    cases b <;> first | (simp [okD] at hb; done) | (simp only [toP, PyData.eqv, eqD]; done) | skip
    rename_i y
    simp only [toP, PyData.eqv, eqD]
    by_cases e : x = y
    · subst e; simp
    · have e' : (⟨x.toArray⟩ : Str) ≠ ⟨y.toArray⟩ := fun z => e (by injection z with z; simpa using z)
      rw [beq_eq_false_iff_ne.mpr e, beq_eq_false_iff_ne.mpr e']
  | .tup x, b, ha, hb => by
    cases b <;> first | (simp [okD] at hb; done) | (simp only [toP, PyData.eqv, eqD]; done) | skip
    simp only [okD] at ha hb
    simp only [toP, PyData.eqv, eqD]
    exact eqDs_eqv x _ ha hb
  | .lst x, b, ha, hb => by
    cases b <;> first | (simp [okD] at hb; done) | (simp only [toP, PyData.eqv, eqD]; done) | skip
    simp only [okD] at ha hb
    simp only [toP, PyData.eqv, eqD]
    exact eqDs_eqv x _ ha hb
  | .fz _, _, ha, _ => by simp [okD] at ha
  | .dic _ _, _, ha, _ => by simp [okD] at ha
  | .row _, _, ha, _ => by simp [okD] at ha
  | .ref _, _, ha, _ => by simp [okD] at ha
theorem eqDs_eqv : ∀ a b : List D, okDs a = true → okDs b = true → PyData.eqvAll (toPs a) (toPs b) = eqDs a b
  | [], [], _, _ => by simp [toPs, PyData.eqvAll, eqDs]
  | [], _ :: _, _, _ => by simp [toPs, PyData.eqvAll, eqDs]
  | _ :: _, [], _, _ => by simp [toPs, PyData.eqvAll, eqDs]
  | a :: r, b :: t, ha, hb => by
    simp only [okDs, Bool.and_eq_true] at ha hb
    simp only [toPs, PyData.eqvAll, eqDs, eqD_eqv a b ha.1 hb.1, eqDs_eqv r t ha.2 hb.2]
end
theorem anyD_eqv (x : D) (hx : okD x = true) : ∀ ds : List D, okDs ds = true → (toPs ds).any (fun z => PyData.eqv z (toP x)) = ds.any fun z => eqD z x
  | [], _ => by simp [toPs]
  | d :: r, h => by
    simp only [okDs, Bool.and_eq_true] at h
    simp only [toPs, List.any_cons, eqD_eqv d x h.1 hx, anyD_eqv x hx r h.2]
mutual
theorem dpD {w : Wd} : ∀ (d : D) (v : V), okD d = true → RV K w d v → Dp K w.H v (toP d)
  | .non, _, _, r => by rw [show _ = V.non from r]; exact .non
  | .bl b, _, _, r => by rw [show _ = V.bl b from r]; exact .bl b
  | .int i, _, _, r => by rw [show _ = V.int i from r]; exact .int i
  | .str cs, _, _, r => by rw [show _ = V.str ⟨cs.toArray⟩ from r]; exact .str _
  | .tup ds, _, h, r => by
    simp only [okD] at h
    obtain ⟨a, vs, rfl, h1, h2⟩ := r
    exact .tup h1 (dpDs ds vs h h2)
  | .lst ds, _, h, r => by
    simp only [okD] at h
    obtain ⟨a, vs, rfl, h1, h2⟩ := r
    exact .lst h1.sq (dpDs ds vs h h2)
  | .fz _, _, h, _ => by simp [okD] at h
  | .dic _ _, _, h, _ => by simp [okD] at h
  | .row _, _, h, _ => by simp [okD] at h
  | .ref _, _, h, _ => by simp [okD] at h
theorem dpDs {w : Wd} : ∀ (ds : List D) (vs : List V), okDs ds = true → RVs K w ds vs → DpAll K w.H vs (toPs ds)
  | [], _, _, r => by cases r; exact .nil
  | d :: ds, _, h, r => by
    simp only [okDs, Bool.and_eq_true] at h
    obtain ⟨v, t, rfl, h1, h2⟩ := r
    exact .cons (dpD d v h.1 h1) (dpDs ds t h.2 h2)
end
/-- a list that may change, as it stands now -/
def deref (G : Hs) (d : D) : D := match d with
  | .ref n => match G[n]? with
    | some (.lst ds) => .lst ds
    | _ => d
  | _ => d
theorem dp_deref {w : Wd} {G : Hs} (R : Rel K T w G) {d : D} {v : V} (r : RV K w d v) (h : okD (deref G d) = true) : Dp K w.H v (toP (deref G d)) := by
  by_cases c : ∃ n ds, d = .ref n ∧ G[n]? = some (.lst ds)
  · obtain ⟨n, ds, rfl, e⟩ := c
    have ed : deref G (.ref n) = .lst ds := by simp only [deref, e]
    rw [ed] at h ⊢
    simp only [okD] at h
    obtain ⟨a, vs, rfl, _, _, h1, h2⟩ := cell_at R r e
    exact .lst (.of h1) (dpDs ds vs h h2)
  · have ed : deref G d = d := by
      cases d <;> first | rfl | skip
      rename_i n
      simp only [deref]
      split
      · rename_i ds e
        exact absurd ⟨n, ds, rfl, e⟩ c
      · rfl
    rw [ed] at h ⊢
    exact dpD d v h r

def okC (d : D) : Bool := okD d && decide (depD d ≤ 64)
theorem okC_shaped {d : D} (h : okC d = true) : okD d = true ∧ SeqAt.shaped (toP d) = true := by
  unfold okC at h
  rw [Bool.and_eq_true, decide_eq_true_eq] at h
  refine ⟨h.1, ?_⟩
  unfold SeqAt.shaped
  rw [Bool.and_eq_true, decide_eq_true_eq]
  exact ⟨toP_lay d h.1, by rw [toP_dep]; exact h.2⟩

inductive Cop where
  | eq | ne | lt | le | gt | ge | in_ | nin | is_ | isn
def Cop.py : Cop → CmpOp
  | .eq => .Eq | .ne => .NotEq | .lt => .Lt | .le => .LtE | .gt => .Gt | .ge => .GtE | .in_ => .In | .nin => .NotIn | .is_ => .Is | .isn => .IsNot
def eqC (x y : D) (G : Hs) : Option Bool := match x, y with
  | .str a, .str b => some (a == b)
  | .int a, .int b => some (a == b)
  | x, y => if okC (deref G x) ∧ okC (deref G y) then some (eqD (deref G x) (deref G y)) else none
def keyD : D → Option Key
  | .int i => some (.inl i)
  | .str cs => some (.inr ⟨cs.toArray⟩)
  | _ => none
def dlook (kvs : List (Key × D)) (k : Key) : Option D := (kvs.find? fun kv => decide (kv.1 = k)).map (·.2)
def inC (x y : D) (G : Hs) : Option Bool := match y with
  | .str cs => match x with
    | .str [c] => some (decide (c ∈ cs))
    | _ => none
  | .ref n => match G[n]? with
    | some (.dct kvs) => (keyD x).map fun k => (dlook kvs k).isSome
    | some (.lst ds) => if okC x ∧ okC (.lst ds) then some (ds.any fun z => eqD z x) else none
    | _ => none
  | .tup ds => if okC x ∧ okC (.tup ds) then some (ds.any fun z => eqD z x) else none
  | .lst ds => if okC x ∧ okC (.lst ds) then some (ds.any fun z => eqD z x) else none
  | .dic ks ds => (keyD x).map fun k => (dlook (ks.zip ds) k).isSome
  | _ => none
def isC : D → D → Option Bool
  | .non, .non => some true
  | .bl a, .bl b => some (a == b)
  | .ref _, .non => some false
  | .tup _, .non => some false
  | .lst _, .non => some false
  | .fz _, .non => some false
  | .dic _ _, .non => some false
  | .int _, .non => some false
  | .str _, .non => some false
  | .bl _, .non => some false
  | .non, .bl _ => some false
  | .tup _, .bl _ => some false
  | _, _ => none
def cmpB : Cop → D → D → Hs → Option Bool
  | .eq, x, y, G => eqC x y G
  | .ne, x, y, G => (eqC x y G).map (!·)
  | .lt, .int i, .int j, _ => some (decide (i < j))
  | .le, .int i, .int j, _ => some (decide (i ≤ j))
  | .gt, .int i, .int j, _ => some (decide (j < i))
  | .ge, .int i, .int j, _ => some (decide (j ≤ i))
  | .lt, .str i, .str j, _ => some (decide (i < j))
  | .le, .str i, .str j, _ => some (!decide (j < i))
  | .in_, x, y, G => inC x y G
  | .nin, x, y, G => (inC x y G).map (!·)
  | .is_, x, y, _ => isC x y
  | .isn, x, y, _ => (isC x y).map (!·)
  | _, _, _, _ => none
def cmpD (o : Cop) (x y : D) (G : Hs) : Rs := (cmpB o x y G).map fun b => (.bl b, G)

theorem Lift.cmp {w : Wd} {o : Cop} {x y : D} {G : Hs} {Q : V → Hp → Prop} (R : Rel K T w G) (h : Lift K T w (cmpD o x y G) Q) : ∃ b, cmpB o x y G = some b ∧ Q (.bl b) w.H := by
  unfold cmpD at h
  cases e : cmpB o x y G with
  | none => rw [e] at h; exact h.no
  | some b => rw [e] at h; exact ⟨b, rfl, h.now R rfl⟩
end Mp
set_option Elab.async false
set_option linter.all false
set_option autoImplicit false
set_option maxRecDepth 100000
set_option maxHeartbeats 1000000
/-! Mp, part 3b: the model compares so -/
namespace Mp
open PySem PySem.Spec L2
open PyProof.Rows hiding St

variable {K : PySem.W.Frag} {T : List Addr}

theorem dlook_at {w : Wd} {kvs : List (Key × D)} {us : List (Key × V)} (r : RKs K w kvs us) (k : Key) :
    (∀ d, dlook kvs k = some d → ∃ v, valV us k = some v ∧ RV K w d v) ∧ (dlook kvs k = none → valV us k = none) := by
  unfold RKs at r
  induction r with
  | nil => exact ⟨fun d e => by simp [dlook] at e, fun _ => rfl⟩
  | @cons p q ps qs h t ih =>
    obtain ⟨e1, e2⟩ := h
    by_cases e : p.1 = k
    · have e' : q.1 = k := by rw [← e1]; exact e
      have x1 : dlook (p :: ps) k = some p.2 := by simp [dlook, List.find?_cons, e]
      have x2 : valV (q :: qs) k = some q.2 := valV_pos e'
      rw [x1, x2]
      exact ⟨fun d h => by cases h; exact ⟨_, rfl, e2⟩, fun h => by cases h⟩
    · have e' : ¬ q.1 = k := by rw [← e1]; exact e
      have x1 : dlook (p :: ps) k = dlook ps k := by simp [dlook, List.find?_cons, e]
      have x2 : valV (q :: qs) k = valV qs k := valV_neg e'
      rw [x1, x2]
      exact ih
theorem dlook_isSome {w : Wd} {kvs : List (Key × D)} {us : List (Key × V)} (r : RKs K w kvs us) (k : Key) : (valV us k).isSome = (dlook kvs k).isSome := by
  obtain ⟨h1, h2⟩ := dlook_at r k
  cases e : dlook kvs k with
  | none => rw [h2 e]; rfl
  | some d => obtain ⟨v, e1, _⟩ := h1 d e; rw [e1]; rfl
theorem dct_at {w : Wd} {G : Hs} {n : Nat} {kvs : List (Key × D)} (R : Rel K T w G) {v : V} (r : RV K w (.ref n) v) (e : G[n]? = some (.dct kvs)) :
    ∃ a us, v = .ref a ∧ w.ι[n]? = some a ∧ ¬ w.F a ∧ w.H a = some (.dK us) ∧ RKs K w kvs us := by
  obtain ⟨a, ev, ea⟩ := r
  obtain ⟨nf, us, h1, h2⟩ := R.cell n _ a e ea
  exact ⟨a, us, ev, ea, nf, h1, h2⟩
theorem rks_zip {w : Wd} : ∀ {ks : List Key} {ds : List D} {vs : List V}, RVs K w ds vs → ks.length = ds.length → RKs K w (ks.zip ds) (ks.zip vs)
  | [], _, _, _, _ => .nil
  | k :: ks, [], _, _, h => by simp at h
  | k :: ks, d :: ds, _, r, h => by
    obtain ⟨v, t, rfl, h1, h2⟩ := r
    exact .cons ⟨rfl, h1⟩ (rks_zip h2 (by simpa using h))
theorem dic_at {w : Wd} {ks : List Key} {ds : List D} {v : V} (r : RV K w (.dic ks ds) v) : ∃ a o us, v = .ref a ∧ w.H a = some (.frz o (.dK us)) ∧ RKs K w (ks.zip ds) us := by
  obtain ⟨a, o, vs, e, h1, hl, h2⟩ := r
  exact ⟨a, o, _, e, h1, rks_zip h2 hl⟩
theorem keyD_kV {w : Wd} {d : D} {v : V} {k : Key} (h : keyD d = some k) (r : RV K w d v) : v = kV k := by
  cases d <;> first | (cases h; done) | skip
  · cases h; exact r
  · cases h; exact r

section
variable {X : Cx}

theorem eqC_spec {w : Wd} {G : Hs} {dx dy : D} {x y : V} {b : Bool} (R : Rel K T w G) (rx : RV K w dx x) (ry : RV K w dy y) (h : eqC dx dy G = some b) :
    (scal x y = true ∧ decide (x = y) = b) ∨ ∃ d e, Dp K w.H x d ∧ Dp K w.H y e ∧ SeqAt.shaped d = true ∧ SeqAt.shaped e = true ∧ PyData.eqv d e = b := by
  have gen : (if okC (deref G dx) ∧ okC (deref G dy) then some (eqD (deref G dx) (deref G dy)) else none) = some b →
      (scal x y = true ∧ decide (x = y) = b) ∨ ∃ d e, Dp K w.H x d ∧ Dp K w.H y e ∧ SeqAt.shaped d = true ∧ SeqAt.shaped e = true ∧ PyData.eqv d e = b := by
    intro h
    split at h
    · rename_i c
      cases h
      obtain ⟨o1, s1⟩ := okC_shaped c.1
      obtain ⟨o2, s2⟩ := okC_shaped c.2
      exact .inr ⟨_, _, dp_deref R rx o1, dp_deref R ry o2, s1, s2, eqD_eqv _ _ o1 o2⟩
    · cases h
  by_cases c : ∃ a b, dx = .str a ∧ dy = .str b
  · obtain ⟨a, b', rfl, rfl⟩ := c
    have h : some (a == b') = some b := h
    cases h
    rw [show x = _ from rx, show y = _ from ry]
    refine .inl ⟨rfl, ?_⟩
    by_cases e : a = b'
    · subst e; simp
    · have e' : (V.str ⟨a.toArray⟩) ≠ V.str ⟨b'.toArray⟩ := fun z => e (by injection z with z; injection z with z; simpa using z)
      rw [decide_eq_false e', beq_eq_false_iff_ne.mpr e]
  · by_cases c2 : ∃ i j, dx = .int i ∧ dy = .int j
    · obtain ⟨i, j, rfl, rfl⟩ := c2
      have h : some (i == j) = some b := h
      cases h
      rw [show x = _ from rx, show y = _ from ry]
      exact .inl ⟨rfl, dec_int⟩
    · refine gen ?_
      cases dx <;> cases dy <;> first | exact h | exact absurd ⟨_, _, rfl, rfl⟩ c | exact absurd ⟨_, _, rfl, rfl⟩ c2

theorem op_eqC (hu : X.A.units + 65 < cLine) : OpR X (compareOp .Eq) (r2 X.K T (cmpD .eq)) := by
  intro pins s σ H x y v u Q I rv ru h
  obtain ⟨ι, F, G, dx, dy, R, rx, ry, h⟩ := h
  obtain ⟨b, e, q⟩ := h.cmp R
  rcases eqC_spec R rx ry e with ⟨s1, s2⟩ | ⟨d, e, h1, h2, h3, h4, h5⟩
  · exact op_eq pins s σ H x y v u Q I rv ru ⟨s1, by rw [s2]; exact q⟩
  · exact op_eqD (Nat.lt_of_succ_lt hu) pins s σ H x y v u Q I rv ru ⟨d, e, h1, h2, h3, h4, by rw [h5]; exact q⟩
theorem op_neC (hu : X.A.units + 65 < cLine) : OpR X (compareOp .NotEq) (r2 X.K T (cmpD .ne)) := by
  intro pins s σ H x y v u Q I rv ru h
  obtain ⟨ι, F, G, dx, dy, R, rx, ry, h⟩ := h
  obtain ⟨b, e, q⟩ := h.cmp R
  obtain ⟨b', e', rfl⟩ := Option.map_eq_some_iff.mp e
  rcases eqC_spec R rx ry e' with ⟨s1, s2⟩ | ⟨d, e, h1, h2, h3, h4, h5⟩
  · exact op_ne pins s σ H x y v u Q I rv ru ⟨s1, by rw [s2]; exact q⟩
  · exact op_neD (Nat.lt_of_succ_lt hu) pins s σ H x y v u Q I rv ru ⟨d, e, h1, h2, h3, h4, by rw [h5]; exact q⟩

/-- in, not in -/
theorem op_inC (hu : X.A.units + 65 < cLine) (neg : Bool) {pins : List (Addr × Obj)} {s : Shared} {σ : L2.St} {w : Wd} {G : Hs} {dx dy : D} {x y : V} {v u : Value} {Q : VK} {b : Bool} (I : Inv X pins σ w.H s) (R : Rel X.K T w G)
    (rx : RV X.K w dx x) (ry : RV X.K w dy y) (rv : RelV x v) (ru : RelV y u) (h : inC dx dy G = some b) (q : Q (.bl (if neg then !b else b)) w.H) :
    wpAny (model X.prog X.w) X.A (compareOp (if neg then .NotIn else .In) v u) (EP X pins σ Q) X.xe s := by
  -- data
  have ind : ∀ ds : List D, okC dx = true → okC (.lst ds) = true → (∃ as, Reads s.heap u (.list (toPs ds)) as) ∨ (∃ as, Reads s.heap u (.tuple (toPs ds)) as) → (ds.any fun z => eqD z dx) = b →
      wpAny (model X.prog X.w) X.A (compareOp (if neg then .NotIn else .In) v u) (EP X pins σ Q) X.xe s := by
    intro ds o1 o2 hr e
    obtain ⟨k1, s1⟩ := okC_shaped o1
    obtain ⟨k2, s2⟩ := okC_shaped o2
    simp only [okD] at k2
    obtain ⟨as1, r1⟩ := Dp.reads I _ x v (dpD dx x k1 rx) rv
    have e' : ((toPs ds).any fun z => PyData.eqv z (toP dx)) = b := by rw [anyD_eqv dx k1 ds k2]; exact e
    cases neg with
    | false =>
      rcases hr with ⟨as2, r2⟩ | ⟨as2, r2⟩
      · exact SeqAt.in_list_reads r2 r1 (toPs_lay ds k2) (toP_lay dx k1) (room_in_shaped s1 hu) ⟨.bl _, w.H, I, rfl, by rw [e']; exact q⟩
      · exact SeqAt.in_tuple_reads r2 r1 (toPs_lay ds k2) (toP_lay dx k1) (room_in_shaped s1 hu) ⟨.bl _, w.H, I, rfl, by rw [e']; exact q⟩
    | true =>
      rcases hr with ⟨as2, r2⟩ | ⟨as2, r2⟩
      · exact SeqAt.notIn_list_reads r2 r1 (toPs_lay ds k2) (toP_lay dx k1) (room_in_shaped s1 hu) ⟨.bl _, w.H, I, rfl, by rw [e']; exact q⟩
      · exact SeqAt.notIn_tuple_reads r2 r1 (toPs_lay ds k2) (toP_lay dx k1) (room_in_shaped s1 hu) ⟨.bl _, w.H, I, rfl, by rw [e']; exact q⟩
  have okL : ∀ ds : List D, okC (.tup ds) = okC (.lst ds) := fun ds => by
    show (okD (.tup ds) && decide (depD (.tup ds) ≤ 64)) = (okD (.lst ds) && decide (depD (.lst ds) ≤ 64))
    have e1 : okD (.tup ds) = okD (.lst ds) := by simp only [okD]
    have e2 : depD (.tup ds) = depD (.lst ds) := by simp only [depD]
    rw [e1, e2]
  cases dy with
  | str cs =>
    cases dx <;> first | (cases h; done) | skip
    rename_i xs
    obtain ⟨c, rfl⟩ : ∃ c, xs = [c] := by
      cases xs with
      | nil => cases h
      | cons c r => cases r with
        | nil => exact ⟨c, rfl⟩
        | cons _ _ => cases h
    have h : some (decide (c ∈ cs)) = some b := h
    cases h
    rw [show x = _ from rx] at rv
    rw [show y = _ from ry] at ru
    cases neg with
    | false => exact op_in_sign pins s σ w.H _ _ v u Q I rv ru ⟨c, ⟨cs.toArray⟩, rfl, rfl, by simpa using q⟩
    | true => exact op_notIn_sign pins s σ w.H _ _ v u Q I rv ru ⟨c, ⟨cs.toArray⟩, rfl, rfl, by simpa using q⟩
  | ref n =>
    simp only [inC] at h
    split at h
    · rename_i kvs eg
      obtain ⟨k, ek, rfl⟩ := Option.map_eq_some_iff.mp h
      obtain ⟨a, us, rfl, _, _, ha, hr⟩ := dct_at R ry eg
      cases (show u = Value.ref a from ru)
      have g : DGet w.H a x (valV us k) := by rw [keyD_kV ek rx]; exact DGet.k ha
      have hu1 : X.A.units + 1 < cLine := Nat.lt_of_le_of_lt (by omega) hu
      rw [← dlook_isSome hr k] at q
      cases neg with
      | false => exact d_in hu1 I g rv fun s' I' => ⟨.bl _, w.H, I', rfl, q⟩
      | true => exact d_notIn hu1 I g rv fun s' I' => ⟨.bl _, w.H, I', rfl, q⟩
    · rename_i ds eg
      split at h
      · rename_i c
        cases h
        have k2 : okDs ds = true := by have := (okC_shaped c.2).1; simpa only [okD] using this
        obtain ⟨a, vs, rfl, _, _, h1, h2⟩ := cell_at R ry eg
        exact ind ds c.1 c.2 (.inl (Dp.reads I _ _ u (.lst (.of h1) (dpDs ds vs k2 h2)) ru)) rfl
      · cases h
    · cases h
  | tup ds =>
    simp only [inC] at h
    split at h
    · rename_i c
      cases h
      obtain ⟨k2, _⟩ := okC_shaped c.2
      exact ind ds c.1 (by rw [← okL]; exact c.2) (.inr (Dp.reads I _ y u (dpD (.tup ds) y k2 ry) ru)) rfl
    · cases h
  | lst ds =>
    simp only [inC] at h
    split at h
    · rename_i c
      cases h
      obtain ⟨k2, _⟩ := okC_shaped c.2
      exact ind ds c.1 c.2 (.inl (Dp.reads I _ y u (dpD (.lst ds) y k2 ry) ru)) rfl
    · cases h
  | non => cases h
  | bl _ => cases h
  | int _ => cases h
  | fz _ => cases h
  | row _ => cases h
  | dic ks ds =>
    simp only [inC] at h
    obtain ⟨k, ek, rfl⟩ := Option.map_eq_some_iff.mp h
    obtain ⟨a, o, us, rfl, ha, hr⟩ := dic_at ry
    cases (show u = Value.ref a from ru)
    have g : DGet w.H a x (valV us k) := by rw [keyD_kV ek rx]; exact .inl ⟨us, k, .inr ⟨o, ha⟩, rfl, rfl⟩
    have hu1 : X.A.units + 1 < cLine := Nat.lt_of_le_of_lt (by omega) hu
    rw [← dlook_isSome hr k] at q
    cases neg with
    | false => exact d_in hu1 I g rv fun s' I' => ⟨.bl _, w.H, I', rfl, q⟩
    | true => exact d_notIn hu1 I g rv fun s' I' => ⟨.bl _, w.H, I', rfl, q⟩

theorem op_isC (neg : Bool) {pins : List (Addr × Obj)} {s : Shared} {σ : L2.St} {w : Wd} {G : Hs} {dx dy : D} {x y : V} {v u : Value} {Q : VK} {b : Bool} (I : Inv X pins σ w.H s) (R : Rel X.K T w G)
    (rx : RV X.K w dx x) (ry : RV X.K w dy y) (rv : RelV x v) (ru : RelV y u) (h : isC dx dy = some b) (q : Q (.bl (if neg then !b else b)) w.H) :
    wpAny (model X.prog X.w) X.A (compareOp (if neg then .IsNot else .Is) v u) (EP X pins σ Q) X.xe s := by
  have toN : dy = .non → decide (x = .non) = b → wpAny (model X.prog X.w) X.A (compareOp (if neg then .IsNot else .Is) v u) (EP X pins σ Q) X.xe s := by
    intro e1 e2
    subst e1
    have ey : y = V.non := ry
    cases neg with
    | false => exact op_isN pins s σ w.H x y v u Q I rv ru ⟨ey, by rw [e2]; exact q⟩
    | true => exact op_notN pins s σ w.H x y v u Q I rv ru ⟨ey, by rw [e2]; exact q⟩
  have other : ∀ c, dy = .bl c → b = false → (∀ c', v ≠ .bool c') → plainIs v (.bool c) = true → wpAny (model X.prog X.w) X.A (compareOp (if neg then .IsNot else .Is) v u) (EP X pins σ Q) X.xe s := by
    intro c e1 e2 e3 e4
    subst e1 e2
    have ey : y = V.bl c := ry
    subst ey
    cases (show u = Value.bool c from ru)
    cases neg with
    | false => exact wpAny_is_other e4 (e3 c) ⟨.bl _, w.H, I, rfl, q⟩
    | true => exact wpAny_isNot_other e4 (e3 c) ⟨.bl _, w.H, I, rfl, q⟩
  cases dy with
  | non =>
    refine toN rfl ?_
    cases dx <;> cases h
    · rw [show x = _ from rx]; rfl
    · rw [show x = _ from rx]; rfl
    · rw [show x = _ from rx]; rfl
    · rw [show x = _ from rx]; rfl
    · obtain ⟨a, vs, rfl, _⟩ := rx; rfl
    · obtain ⟨a, vs, rfl, _⟩ := rx; rfl
    · obtain ⟨a, vs, rfl, _⟩ := rx; rfl
    · obtain ⟨a, _, _, rfl, _⟩ := rx; rfl
    · obtain ⟨a, rfl, _⟩ := rx; rfl
  | bl c =>
    cases dx <;> cases h
    · have ex : x = V.non := rx
      subst ex
      cases (show v = Value.none from rv)
      exact other c rfl rfl (fun _ z => by cases z) rfl
    · rename_i a
      have ex : x = V.bl a := rx
      have ey : y = V.bl c := ry
      subst ex ey
      have e : decide (a = c) = (a == c) := by cases a <;> cases c <;> rfl
      cases neg with
      | false => exact op_is_bl pins s σ w.H _ _ v u Q I rv ru ⟨a, c, rfl, rfl, by rw [e]; exact q⟩
      | true => exact op_isnot_bl pins s σ w.H _ _ v u Q I rv ru ⟨a, c, rfl, rfl, by rw [e]; exact q⟩
    · obtain ⟨p, vs, rfl, _⟩ := rx
      cases (show v = Value.ref p from rv)
      exact other c rfl rfl (fun _ z => by cases z) rfl
  | int _ => cases dx <;> cases h
  | str _ => cases dx <;> cases h
  | tup _ => cases dx <;> cases h
  | lst _ => cases dx <;> cases h
  | fz _ => cases dx <;> cases h
  | dic _ _ => cases dx <;> cases h
  | row _ => cases dx <;> cases h
  | ref _ => cases dx <;> cases h

theorem op_cmp (hu : X.A.units + 65 < cLine) (o : Cop) : OpR X (compareOp o.py) (r2 X.K T (cmpD o)) := by
  cases o with
  | eq => exact op_eqC hu
  | ne => exact op_neC hu
  | lt =>
    intro pins s σ H x y v u Q I rv ru h
    obtain ⟨ι, F, G, dx, dy, R, rx, ry, h⟩ := h
    obtain ⟨b, e, q⟩ := h.cmp R
    cases dx <;> first | (cases e; done) | skip
    · cases dy <;> cases e
      exact op_lt pins s σ H x y v u Q I rv ru ⟨_, _, rx, ry, q⟩
    · cases dy <;> cases e
      exact op_lt_str pins s σ H x y v u Q I rv ru ⟨_, _, rx, ry, by simpa using q⟩
  | le =>
    intro pins s σ H x y v u Q I rv ru h
    obtain ⟨ι, F, G, dx, dy, R, rx, ry, h⟩ := h
    obtain ⟨b, e, q⟩ := h.cmp R
    cases dx <;> first | (cases e; done) | skip
    · cases dy <;> cases e
      exact op_le pins s σ H x y v u Q I rv ru ⟨_, _, rx, ry, q⟩
    · cases dy <;> cases e
      exact op_le_str pins s σ H x y v u Q I rv ru ⟨_, _, rx, ry, by simpa using q⟩
  | gt =>
    intro pins s σ H x y v u Q I rv ru h
    obtain ⟨ι, F, G, dx, dy, R, rx, ry, h⟩ := h
    obtain ⟨b, e, q⟩ := h.cmp R
    cases dx <;> first | (cases e; done) | skip
    cases dy <;> cases e
    exact op_gt pins s σ H x y v u Q I rv ru ⟨_, _, rx, ry, q⟩
  | ge =>
    intro pins s σ H x y v u Q I rv ru h
    obtain ⟨ι, F, G, dx, dy, R, rx, ry, h⟩ := h
    obtain ⟨b, e, q⟩ := h.cmp R
    cases dx <;> first | (cases e; done) | skip
    cases dy <;> cases e
    exact op_ge pins s σ H x y v u Q I rv ru ⟨_, _, rx, ry, q⟩
  | in_ =>
    intro pins s σ H x y v u Q I rv ru h
    obtain ⟨ι, F, G, dx, dy, R, rx, ry, h⟩ := h
    obtain ⟨b, e, q⟩ := h.cmp R
    exact op_inC (w := ⟨ι, F, H⟩) hu false I R rx ry rv ru e q
  | nin =>
    intro pins s σ H x y v u Q I rv ru h
    obtain ⟨ι, F, G, dx, dy, R, rx, ry, h⟩ := h
    obtain ⟨b, e, q⟩ := h.cmp R
    obtain ⟨b', e', rfl⟩ := Option.map_eq_some_iff.mp e
    exact op_inC (w := ⟨ι, F, H⟩) hu true I R rx ry rv ru e' q
  | is_ =>
    intro pins s σ H x y v u Q I rv ru h
    obtain ⟨ι, F, G, dx, dy, R, rx, ry, h⟩ := h
    obtain ⟨b, e, q⟩ := h.cmp R
    exact op_isC (w := ⟨ι, F, H⟩) false I R rx ry rv ru e q
  | isn =>
    intro pins s σ H x y v u Q I rv ru h
    obtain ⟨ι, F, G, dx, dy, R, rx, ry, h⟩ := h
    obtain ⟨b, e, q⟩ := h.cmp R
    obtain ⟨b', e', rfl⟩ := Option.map_eq_some_iff.mp e
    exact op_isC (w := ⟨ι, F, H⟩) true I R rx ry rv ru e' q
end
end Mp
set_option Elab.async false
set_option linter.all false
set_option autoImplicit false
set_option maxRecDepth 100000
set_option maxHeartbeats 1000000
/-! Mp, part 4: subscripts, slices, stores by place -/
namespace Mp
open PySem PySem.Spec L2
open PyProof.Rows hiding St

variable {K : PySem.W.Frag} {T : List Addr}

def idxD (x i : D) (G : Hs) : Rs := match x, i with
  | .str cs, .int k => if cs.length ≤ sizeLine then (atI cs k).map fun c => (.str [c], G) else none
  | .ref n, i => match G[n]?, i with
    | some (.dct kvs), i => (keyD i).bind fun k => (dlook kvs k).map fun d => (d, G)
    | some (.lst ds), .int k => (atI ds k).map fun d => (d, G)
    | _, _ => none
  | .tup ds, .int k => (atI ds k).map fun d => (d, G)
  | .lst ds, .int k => (atI ds k).map fun d => (d, G)
  | .fz ds, .int k => (atI ds k).map fun d => (d, G)
  | .dic ks ds, i => (keyD i).bind fun k => (dlook (ks.zip ds) k).map fun d => (d, G)
  | _, _ => none
theorem RVs.atI {w : Wd} {ds : List D} {vs : List V} {k : Int} {d : D} (r : RVs K w ds vs) (e : atI ds k = some d) : ∃ v, atI vs k = some v ∧ RV K w d v := by
  unfold L2.atI at e ⊢
  rw [← r.len]
  cases h : ixN ds.length k with
  | none => rw [h] at e; cases e
  | some j =>
    rw [h] at e
    exact r.get e
theorem Lift.ofMap {α : Type} {w : Wd} {o : Option α} {f : α → D × Hs} {Q : V → Hp → Prop} (h : Lift K T w (o.map f) Q) : ∃ a, o = some a ∧ Lift K T w (some (f a)) Q := by
  cases o with
  | none => exact h.no
  | some a => exact ⟨a, rfl, h⟩

section
variable {X : Cx}
theorem ix_D (hu : X.A.units + 65 < cLine) : IxR X (r2 X.K T idxD) := by
  intro value slice pins s σ H x y v u Q I rv ru h hs
  obtain ⟨ι, F, G, dx, dy, R, rx, ry, h⟩ := h
  have seq : ∀ (ds : List D) (k : Int), dy = .int k → (∃ a vs, x = .ref a ∧ (SqL X.K H a vs ∨ SqT X.K H a vs) ∧ RVs X.K ⟨ι, F, H⟩ ds vs) → Lift X.K T ⟨ι, F, H⟩ ((atI ds k).map fun d => (d, G)) Q →
      wpAny (model X.prog X.w) X.A (subscriptTail value slice v u) (EP X pins σ Q) X.xe s := by
    intro ds k e1 ⟨a, vs, e2, h1, h2⟩ hh
    subst e1 e2
    obtain ⟨d, ed, hh⟩ := hh.ofMap
    obtain ⟨z, ez, rz⟩ := h2.atI ed
    refine ix_seq value slice pins s σ H _ _ v u Q I rv ru ?_ hs
    rcases h1 with h1 | h1
    · exact .inl ⟨a, vs, k, z, rfl, ry, h1, ez, hh.now R rz⟩
    · exact .inr (.inl ⟨a, vs, k, z, rfl, ry, h1, ez, hh.now R rz⟩)
  cases dx with
  | str cs =>
    cases dy <;> first | exact h.no | skip
    rename_i k
    obtain ⟨hl, h⟩ := h.ite
    obtain ⟨c, ec, h⟩ := h.ofMap
    refine ix_seq value slice pins s σ H _ _ v u Q I rv ru (.inr (.inr ⟨⟨cs.toArray⟩, k, c, rx, ry, by rw [strLen]; exact hl, by simpa using ec, ?_⟩)) hs
    exact h.now R rfl
  | tup ds =>
    cases dy <;> first | exact h.no | skip
    obtain ⟨a, vs, e, h1, h2⟩ := rx
    exact seq ds _ rfl ⟨a, vs, e, .inr h1, h2⟩ h
  | lst ds =>
    cases dy <;> first | exact h.no | skip
    obtain ⟨a, vs, e, h1, h2⟩ := rx
    exact seq ds _ rfl ⟨a, vs, e, .inl h1.sq, h2⟩ h
  | fz ds =>
    cases dy <;> first | exact h.no | skip
    obtain ⟨a, vs, e, h1, h2⟩ := rx
    exact seq ds _ rfl ⟨a, vs, e, .inl h1.sq, h2⟩ h
  | row _ => cases dy <;> exact h.no
  | dic ks ds =>
    have h : Lift X.K T ⟨ι, F, H⟩ ((keyD dy).bind fun k => (dlook (ks.zip ds) k).map fun d => (d, G)) Q := h
    obtain ⟨k, ek, h⟩ := h.ofBind
    obtain ⟨d, ed, h⟩ := h.ofMap
    obtain ⟨a, o, us, rfl, ha, hr⟩ := dic_at rx
    cases (show v = Value.ref a from rv)
    obtain ⟨z, ez, rz⟩ := (dlook_at hr k).1 d ed
    have g : DGet H a y (some z) := by rw [keyD_kV ek ry, ← ez]; exact .inl ⟨us, k, .inr ⟨o, ha⟩, rfl, rfl⟩
    have hu1 : X.A.units + 1 < cLine := Nat.lt_of_le_of_lt (by omega) hu
    have ty : s.TypeIs (.ref a) "dict" := (isD_at I (.inl ⟨us, .inr ⟨o, ha⟩⟩)).1
    exact tail_any ty PySem.F.slot_dict_getitem.lookup (d_getItem hu1 I g ru fun w' s' I' rw' => ⟨z, H, I', rw', h.now R rz⟩) hs
  | ref n =>
    simp only [idxD] at h
    split at h
    · rename_i kvs eg
      obtain ⟨k, ek, h⟩ := h.ofBind
      obtain ⟨d, ed, h⟩ := h.ofMap
      obtain ⟨a, us, rfl, _, _, ha, hr⟩ := dct_at R rx eg
      cases (show v = Value.ref a from rv)
      obtain ⟨z, ez, rz⟩ := (dlook_at hr k).1 d ed
      have g : DGet H a y (some z) := by rw [keyD_kV ek ry, ← ez]; exact DGet.k ha
      have hu1 : X.A.units + 1 < cLine := Nat.lt_of_le_of_lt (by omega) hu
      exact tail_any (dict_typeIs I g) PySem.F.slot_dict_getitem.lookup (d_getItem hu1 I g ru fun w' s' I' rw' => ⟨z, H, I', rw', h.now R rz⟩) hs
    · rename_i ds k eg
      obtain ⟨a, vs, rfl, _, _, h1, h2⟩ := cell_at R rx eg
      exact seq ds k rfl ⟨a, vs, rfl, .inl (.of h1), h2⟩ h
    · exact h.no
  | non => exact h.no
  | bl _ => exact h.no
  | int _ => exact h.no

/-! ### slices -/
def cutN {α : Type} (xs : List α) (lo hi : Option Int) : List α := (xs.drop (HT.sIx xs.length 0 lo)).take (HT.sIx xs.length xs.length hi - HT.sIx xs.length 0 lo)
def slD (m : Bool) (x : D) (lo hi : Option Int) (G : Hs) : Rs := match x with
  | .str cs => if cs.length ≤ sizeLine then some (.str (cutN cs lo hi), G) else none
  | .tup ds => some (.tup (cutN ds lo hi), G)
  | x => (roOf G x).bind fun ds => if m then some (.ref G.length, G ++ [.lst (cutN ds lo hi)]) else some (.lst (cutN ds lo hi), G)
def rSl (K : PySem.W.Frag) (T : List Addr) (g : D → Option Int → Option Int → Hs → Rs) : V → Option Int → Option Int → Hp → VK → Prop := fun x lo hi H Q =>
  ∃ ι F G dx, Rel K T ⟨ι, F, H⟩ G ∧ RV K ⟨ι, F, H⟩ dx x ∧ Lift K T ⟨ι, F, H⟩ (g dx lo hi G) Q
theorem cutN_whole {α : Type} (xs : List α) (lo hi : Option Int) (h : HT.sIx xs.length 0 lo = 0 ∧ HT.sIx xs.length xs.length hi = xs.length) : cutN xs lo hi = xs := by
  unfold cutN
  rw [h.1, h.2, List.drop_zero, Nat.sub_zero, List.take_length]
theorem RVs.cut {w : Wd} {ds : List D} {vs : List V} (r : RVs K w ds vs) (lo hi : Option Int) : RVs K w (cutN ds lo hi) (cutV vs lo hi) := by
  unfold cutN cutV
  rw [r.len]
  exact (r.drop _).take _
theorem sl_D (m : Bool) : SlR X (rSl X.K T (slD m)) := by
  intro pins s σ H x v vl vu lo hi sl Q I rx hs pl pu h
  obtain ⟨ι, F, G, dx, R, rd, h⟩ := h
  have lst : (∃ ds, roOf G dx = some ds ∧ Lift X.K T ⟨ι, F, H⟩ (if m then some (.ref G.length, G ++ [.lst (cutN ds lo hi)]) else some (.lst (cutN ds lo hi), G)) Q) →
      ∃ Ty id, typeLookup (.type Ty) "__getitem__" = pure (some (.builtin id)) ∧ s.TypeIs v Ty ∧ wpAny (model X.prog X.w) X.A (getItem v (.ref sl)) (EP X pins σ Q) X.xe s := by
    intro ⟨ds, e, hh⟩
    obtain ⟨a, vs, rfl, h1, h2⟩ := roOf_at R rd e
    refine sl_list pins s σ H _ v vl vu lo hi sl Q I rx hs pl pu ⟨a, vs, rfl, h1, ?_⟩
    cases m with
    | false => exact hh.newL R (h2.cut lo hi)
    | true => exact hh.newC R (h2.cut lo hi)
  cases dx with
  | str cs =>
    obtain ⟨hl, h⟩ := h.ite
    refine sl_str pins s σ H x v vl vu lo hi sl Q I rx hs pl pu ⟨⟨cs.toArray⟩, rd, by rw [strLen]; exact hl, ?_⟩
    have e : cutS ⟨cs.toArray⟩ lo hi = ⟨(cutN cs lo hi).toArray⟩ := by
      unfold cutS cutN
      rw [strLen]
    rw [e]
    exact h.now R rfl
  | tup ds =>
    obtain ⟨a, vs, rfl, h1, h2⟩ := rd
    refine sl_tupA pins s σ H _ v vl vu lo hi sl Q I rx hs pl pu ⟨a, vs, rfl, h1, fun z => ?_, fun z => ?_⟩
    · rw [← h2.len] at z
      have h : Lift X.K T ⟨ι, F, H⟩ (some (.tup (cutN ds lo hi), G)) Q := h
      rw [cutN_whole ds lo hi z] at h
      exact h.now R ⟨a, vs, rfl, h1, h2⟩
    · exact Lift.newT R h (h2.cut lo hi)
  | lst ds => exact lst h.ofBind
  | fz ds => exact lst h.ofBind
  | dic _ _ => exact lst h.ofBind
  | row _ => exact lst h.ofBind
  | ref n => exact lst h.ofBind
  | non => exact lst h.ofBind
  | bl _ => exact lst h.ofBind
  | int _ => exact lst h.ofBind

/-! ### x[::-1] -/
def revD (m : Bool) (x : D) (G : Hs) : Rs := match x with
  | .str cs => if cs.length ≤ sizeLine then some (.str cs.reverse, G) else none
  | .tup ds => some (.tup ds.reverse, G)
  | x => (roOf G x).bind fun ds => if m then some (.ref G.length, G ++ [.lst ds.reverse]) else some (.lst ds.reverse, G)

/-- the slice object at sl is [::-1] -/
def RvR (X : Cx) (r : V → Hp → VK → Prop) : Prop :=
  ∀ (pins : List (Addr × Obj)) (s : Shared) (σ : L2.St) (H : Hp) (x : V) (v : Value) (t : Tok) (sl : Addr) (Q : VK), Inv X pins σ H s → RelV x v → s.heap.IsSliceOf sl .none .none (.int (-1) t) → r x H Q →
    ∃ T id, typeLookup (.type T) "__getitem__" = pure (some (.builtin id)) ∧ s.TypeIs v T ∧ wpAny (model X.prog X.w) X.A (getItem v (.ref sl)) (EP X pins σ Q) X.xe s
theorem pe_rev {e : Expr} {te : TE} {r : V → Hp → VK → Prop} {j : Nat} {p1 p2 p3 pos : Pos} (hr : RvR X r) (he : PE X e te) :
    PE X (.Subscript e (.Slice none none (some (.UnaryOp .USub (.Constant (.int 1) j p1) p2)) p3) pos) (tUn r te) := by
  refine ⟨fun pins s σ H Q I h => ?_⟩
  refine Subscript_ (thn (he.run pins s σ H _ I h) fun v s1 ⟨x, H1, I1, rx1, q1⟩ => ?_)
  refine wpAny_Slice ?_
  rw [evalPart_none]
  refine wpAny_pure ?_
  refine wpAny_pure ?_
  rw [evalPart_some]
  have hst : PE X (.UnaryOp .USub (.Constant (.int 1) j p1) p2) (tUn (rU fun i => .int (-i)) (tC (.int 1))) := pe_un un_neg pe_int
  refine thn (hst.run pins s1 σ H1 (fun v H2 => v = .int (-1) ∧ r x H2 Q) I1 ⟨1, rfl, rfl, q1⟩) fun u s2 ⟨y, H2, I2, r2, e2, q2⟩ => ?_
  subst e2
  obtain ⟨t, rfl⟩ := r2
  have I3 : Inv X pins σ H2 { s2 with heap := s2.heap.push { cls := .type "slice", data := .fields #[.none, .none, .int (-1) t] } } := I2.kept (t' := s2.toks) fun b ob q => Heap.get?_push_of_some _ q
  obtain ⟨Ty, id, hT, ht, hg⟩ := hr pins _ σ H2 x v t s2.heap.objs.size Q I3 rx1 (Heap.IsSliceOf.new ..) q2
  exact tail_any (ops := [v, .ref s2.heap.objs.size]) ht hT hg (by with_unfolding_all rfl)

theorem rev_str_ix (n : Nat) : Builtin.Str.strSliceIndices none none (-1) n = (List.range n).map fun k => n - 1 - k := by
  unfold Builtin.Str.strSliceIndices
  have h : ¬ ((-1 : Int) > 0) := by decide
  simp only [h, if_false]
  exact PySem.W.krv_sliceRange n
theorem rev_pick {α : Type} (xs : Array α) : ((List.range xs.size).map fun k => xs.size - 1 - k).filterMap (xs[·]?) = xs.toList.reverse := by
  rw [PySem.W.krv_range, List.filterMap_reverse, PySem.W.krv_all]
theorem rev_applied {prog : Program} {w : World} {A : Around} {E : Value → Shared → Prop} {s : Shared} {sl : Addr} {t : Tok} {n : Nat} {Q : Int × Int × Nat → Shared → Prop} (hs : s.heap.IsSliceOf sl .none .none (.int (-1) t))
    (h : Q ((n : Int) - 1, -1, n) s) : wpAny (model prog w) A (Builtin.Slice.sliceApplied (.ref sl) (pure (n : Int))) Q E s := by
  obtain ⟨os, hos, hcs, hds⟩ := id hs
  unfold Builtin.Slice.sliceApplied Builtin.Slice.sliceFields
  refine wpAny_bind (wpAny_bind (wpAny_field hos hds (x := .none) rfl (wpAny_bind (wpAny_field hos hds (x := .none) rfl (wpAny_bind (wpAny_field hos hds (x := .int (-1) t) rfl (wpAny_pure ?_)))))))
  refine wpAny_bind (slicePart_int ?_)
  show wpAny _ _ (if ((-1 : Int) == 0) = true then _ else _) _ _ s
  rw [if_neg (by decide)]
  refine wpAny_bind (slicePart_none (wpAny_bind (slicePart_none (wpAny_bind (wpAny_pure ?_)))))
  show wpAny _ _ (match Builtin.Slice.sliceAdjust none none (-1) (n : Int) with | (lo, hi) => pure (lo, (-1 : Int), Builtin.Slice.slicePlaces lo hi (-1))) _ _ s
  have e1 : Builtin.Slice.sliceAdjust none none (-1) (n : Int) = ((n : Int) - 1, -1) := rfl
  rw [e1]
  have e2 : Builtin.Slice.slicePlaces ((n : Int) - 1) (-1) (-1) = n := by
    unfold Builtin.Slice.slicePlaces
    have h : ¬ ((-1 : Int) > 0) := by decide
    simp only [h, if_false]
    split
    · simp only [Int.neg_neg, Int.ediv_one]
      omega
    · omega
  show wpAny _ _ (pure ((n : Int) - 1, (-1 : Int), Builtin.Slice.slicePlaces ((n : Int) - 1) (-1) (-1))) _ _ s
  rw [e2]
  exact wpAny_pure h

theorem rev_tup {prog : Program} {w : World} {A : Around} {E : Value → Shared → Prop} {s : Shared} {a sl : Addr} {its : Array Value} {t : Tok} {Q : Value → Shared → Prop} (ht : IsTup s.heap a its) (hs : s.heap.IsSliceOf sl .none .none (.int (-1) t))
    (h : Q (.ref s.heap.objs.size) { s with heap := s.heap.push { cls := .type "tuple", data := .seq its.toList.reverse.toArray } }) (hz : its.size ≤ sizeLine) : wpAny (model prog w) A (getItem (.ref a) (.ref sl)) Q E s := by
  have hTs : s.TypeIs (.ref sl) "slice" := let ⟨os, hos, hcs, _⟩ := hs; ⟨os, hos, hcs⟩
  have hsz : sizeOk (.seq its.toList.reverse.toArray) := by
    show its.toList.reverse.toArray.size ≤ sizeLine
    simpa using hz
  have epick : ((List.range its.size).filterMap fun (k : Nat) => its[((its.size : Int) - 1 + (k : Int) * (-1)).toNat]?) = its.toList.reverse := by
    rw [← rev_pick its, List.filterMap_map]
    have e : (fun (k : Nat) => its[((its.size : Int) - 1 + (k : Int) * (-1)).toNat]?) = ((its[·]?) ∘ fun k => its.size - 1 - k) := by
      funext k
      show its[((its.size : Int) - 1 + (k : Int) * (-1)).toNat]? = its[its.size - 1 - k]?
      congr 1
      omega
    rw [e]
  unfold getItem
  try with_reducible refine wpAny_holding ?_
  first | refine wpAny_bind (wpAny_pure ?_) | skip
  refine wpAny_bind (wpAny_sequenceKey ht.typeIs (by decide) (wpAny_bind (wpAny_callSpecial?_slot (name := Str.ofString "__getitem__") ht.typeIs slot_tuple_getitem
    (wpAny_call_entry slot_tuple_getitem ht.typeIs entry_tuple_getitem ?_ (args_tuple_getitem _ _)))))
  show wpAny _ _ (Builtin.Tuple.tupleItemsOf (.ref a) >>= _) _ _ s
  refine wpAny_bind (tupleItemsOf_ ht (wpAny_bind (wpAny_typeOf hTs ?_)))
  rw [if_pos (by decide)]
  refine wpAny_bind (rev_applied hs ?_)
  have hno : ¬ ((((its.size : Int) - 1 == 0) && ((-1 : Int) == 1) && (its.size == its.size)) = true) := by
    intro q
    rw [Bool.and_eq_true, Bool.and_eq_true] at q
    exact absurd q.1.2 (by decide)
  show wpAny _ _ (if (((its.size : Int) - 1 == 0) && ((-1 : Int) == 1) && (its.size == its.size)) = true then _ else _) _ _ s
  rw [if_neg hno, epick]
  first
    | exact wpAny_bind (m := Builtin.Tuple.tupleExact _) (wpAny_newObj_type (wpAny_pure ⟨_, rfl, wpAny_pure h⟩) hsz)
    | exact wpAny_bind (m := Builtin.Tuple.tupleExact _) (wpAny_newObj_type (wpAny_bind (wpAny_pure (wpAny_pure ⟨_, rfl, wpAny_pure h⟩))) hsz)
    | exact wpAny_bind (wpAny_bind (m := Builtin.Tuple.tupleExact _) (wpAny_newObj_type (wpAny_pure (wpAny_pure ⟨_, rfl, wpAny_pure h⟩)) hsz))
    | exact wpAny_bind (wpAny_bind (m := Builtin.Tuple.tupleExact _) (wpAny_newObj_type (wpAny_pure ⟨_, rfl, wpAny_pure h⟩) hsz))
theorem rv_D (m : Bool) : RvR X (r1 X.K T (revD m)) := by
  intro pins s σ H x v t sl Q I rx hs h
  obtain ⟨ι, F, G, dx, R, rd, h⟩ := h
  have lst : (∃ ds, roOf G dx = some ds ∧ Lift X.K T ⟨ι, F, H⟩ (if m then some (.ref G.length, G ++ [.lst ds.reverse]) else some (.lst ds.reverse, G)) Q) →
      ∃ Ty id, typeLookup (.type Ty) "__getitem__" = pure (some (.builtin id)) ∧ s.TypeIs v Ty ∧ wpAny (model X.prog X.w) X.A (getItem v (.ref sl)) (EP X pins σ Q) X.xe s := by
    intro ⟨ds, e, hh⟩
    obtain ⟨a, vs, rfl, h1, h2⟩ := roOf_at R rd e
    cases rx
    obtain ⟨its, r, pl, hz⟩ := I.list h1
    refine ⟨"list", _, slot_list_getitem.lookup, pl.isList.typeIs, ?_⟩
    refine wpAny_getItem_list_slice pl.isList hs .none .none (.int _ _) (by simp) ?_ (by rw [List.size_toArray]; have := r.length; omega)
    rw [PySem.W.krv_pick]
    have fin : ∀ p, H p = none → Q (.ref p) (upd H p (.lst vs.reverse)) := by
      cases m with
      | false => exact hh.newL R h2.reverse
      | true => exact hh.newC R h2.reverse
    refine ⟨.ref s.heap.objs.size, _, I.laid (t' := s.toks) (o := .lst vs.reverse) (fun b ob q => Heap.get?_push_of_some _ q) (Nat.le_refl _) ?_, rfl, fin _ (I.hok.fresh (Nat.le_refl _))⟩
    exact ⟨by rw [List.length_reverse]; exact hz, its.reverse, 0, r.reverse, by simpa using Heap.get?_push_size s.heap (o := { cls := .type "list", data := .seq its.reverse.toArray }) rfl⟩
  cases dx with
  | str cs =>
    obtain ⟨hl, h⟩ := h.ite
    have ex : x = V.str ⟨cs.toArray⟩ := rd
    subst ex
    obtain ⟨tk, rfl⟩ := rx
    obtain ⟨os, hos, hcs, hds⟩ := hs
    refine ⟨"str", _, PySem.F.slot_str_getitem.lookup, typeIs_str _ _ _, ?_⟩
    refine wpAny_getItem_str_slice (l := none) (u := none) (st := some (-1, t)) ⟨os, hos, hcs, hds⟩ rfl ?_
    show Made.post (if ((-1 : Int) == 1 && (Builtin.Str.strSliceIndices none none (-1) (⟨cs.toArray⟩ : Str).length).length == (⟨cs.toArray⟩ : Str).length) = true then Made.val (.str ⟨cs.toArray⟩ tk)
      else Made.str ⟨((Builtin.Str.strSliceIndices none none (-1) (⟨cs.toArray⟩ : Str).length).filterMap ((⟨cs.toArray⟩ : Str).cps[·]?)).toArray⟩) (EP X pins σ Q) s
    rw [if_neg (by intro q; rw [Bool.and_eq_true] at q; exact absurd q.1 (by decide)), rev_str_ix]
    have ep : ((List.range (⟨cs.toArray⟩ : Str).length).map fun k => (⟨cs.toArray⟩ : Str).length - 1 - k).filterMap ((⟨cs.toArray⟩ : Str).cps[·]?) = cs.reverse := by
      have q := rev_pick cs.toArray
      simpa [Str.length] using q
    rw [ep]
    refine ⟨?_, .str _, H, I.tok _, ⟨_, rfl⟩, h.now R rfl⟩
    rw [strLen, List.length_reverse]; exact hl
  | tup ds =>
    obtain ⟨a, vs, rfl, h1, h2⟩ := rd
    cases rx
    obtain ⟨its, r, pt, hz⟩ := I.tuple h1
    refine ⟨"tuple", _, slot_tuple_getitem.lookup, pt.typeIs, ?_⟩
    refine rev_tup pt hs ?_ (by rw [List.size_toArray, ← r.length]; exact hz)
    refine ⟨.ref s.heap.objs.size, _, I.laid (t' := s.toks) (o := .tup vs.reverse) (fun b ob q => Heap.get?_push_of_some _ q) (Nat.le_refl _) ?_, rfl, Lift.newT R h h2.reverse _ (I.hok.fresh (Nat.le_refl _))⟩
    exact ⟨by rw [List.length_reverse]; exact hz, _, by simpa using r.reverse, by simpa using IsTup.new s.heap _⟩
  | lst ds => exact lst h.ofBind
  | fz ds => exact lst h.ofBind
  | dic _ _ => exact lst h.ofBind
  | row _ => exact lst h.ofBind
  | ref n => exact lst h.ofBind
  | non => exact lst h.ofBind
  | bl _ => exact lst h.ofBind
  | int _ => exact lst h.ofBind
end
end Mp
set_option Elab.async false
set_option linter.all false
set_option autoImplicit false
set_option maxRecDepth 100000
set_option maxHeartbeats 1000000
/-! Mp, part 5: built-in functions and methods on data -/
namespace Mp
open PySem PySem.Spec L2
open PyProof.Rows hiding St

variable {K : PySem.W.Frag} {T : List Addr}

theorem RVs.one {w : Wd} {d : D} {vs : List V} (h : RVs K w [d] vs) : ∃ v, vs = [v] ∧ RV K w d v := by
  obtain ⟨v, r, rfl, h1, h2⟩ := h
  cases h2
  exact ⟨v, rfl, h1⟩
theorem RVs.two {w : Wd} {d e : D} {vs : List V} (h : RVs K w [d, e] vs) : ∃ v u, vs = [v, u] ∧ RV K w d v ∧ RV K w e u := by
  obtain ⟨v, r, rfl, h1, h2⟩ := h
  obtain ⟨u, rfl, h3⟩ := h2.one
  exact ⟨v, u, rfl, h1, h3⟩
theorem RVs.nil' {w : Wd} {vs : List V} (h : RVs K w [] vs) : vs = [] := h
theorem rn_nil {w : Wd} {ds : List D} (h : RVs K w ds []) : ds = [] := by
  cases ds with
  | nil => rfl
  | cons d r => obtain ⟨_, _, e, _⟩ := h; cases e

def intsD : List D → Option (List Int)
  | [] => some []
  | .int i :: r => (intsD r).map (i :: ·)
  | _ :: _ => none
def strsD : List D → Option (List (List Nat))
  | [] => some []
  | .str i :: r => (strsD r).map (i :: ·)
  | _ :: _ => none
theorem intsD_at {w : Wd} : ∀ {ds : List D} {vs : List V} {ns : List Int}, RVs K w ds vs → intsD ds = some ns → vs = ns.map V.int
  | [], _, _, r, e => by cases r; cases e; rfl
  | .int i :: t, _, _, r, e => by
    obtain ⟨v, u, rfl, h1, h2⟩ := r
    simp only [intsD, Option.map_eq_some_iff] at e
    obtain ⟨m, e1, rfl⟩ := e
    rw [intsD_at h2 e1, show v = V.int i from h1]; rfl
  | .non :: _, _, _, _, e => by cases e
  | .bl _ :: _, _, _, _, e => by cases e
  | .str _ :: _, _, _, _, e => by cases e
  | .tup _ :: _, _, _, _, e => by cases e
  | .lst _ :: _, _, _, _, e => by cases e
  | .fz _ :: _, _, _, _, e => by cases e
  | .dic _ _ :: _, _, _, _, e => by cases e
  | .row _ :: _, _, _, _, e => by cases e
  | .ref _ :: _, _, _, _, e => by cases e
def mkS (cs : List Nat) : Str := ⟨cs.toArray⟩
theorem strsD_at {w : Wd} : ∀ {ds : List D} {vs : List V} {ns : List (List Nat)}, RVs K w ds vs → strsD ds = some ns → vs = (ns.map mkS).map V.str
  | [], _, _, r, e => by cases r; cases e; rfl
  | .str i :: t, _, _, r, e => by
    obtain ⟨v, u, rfl, h1, h2⟩ := r
    simp only [strsD, Option.map_eq_some_iff] at e
    obtain ⟨m, e1, rfl⟩ := e
    rw [strsD_at h2 e1, show v = V.str ⟨i.toArray⟩ from h1]; rfl
  | .non :: _, _, _, _, e => by cases e
  | .bl _ :: _, _, _, _, e => by cases e
  | .int _ :: _, _, _, _, e => by cases e
  | .tup _ :: _, _, _, _, e => by cases e
  | .lst _ :: _, _, _, _, e => by cases e
  | .fz _ :: _, _, _, _, e => by cases e
  | .dic _ _ :: _, _, _, _, e => by cases e
  | .row _ :: _, _, _, _, e => by cases e
  | .ref _ :: _, _, _, _, e => by cases e

/-! ### functions -/
def one (f : D → Hs → Rs) : List D → Hs → Rs
  | [d], G => f d G
  | _, _ => none
def two (f : D → D → Hs → Rs) : List D → Hs → Rs
  | [d, e], G => f d e G
  | _, _ => none
def lenD (d : D) (G : Hs) : Rs := match d with
  | .str cs => if cs.length ≤ sizeLine then some (.int cs.length, G) else none
  | d => (seqOf G d).bind fun ds => some (.int ds.length, G)
def absD (d : D) (G : Hs) : Rs := match d with
  | .int i => some (.int (if i < 0 then -i else i), G)
  | _ => none
def min2D (d e : D) (G : Hs) : Rs := match d, e with
  | .int i, .int j => some (.int (if j < i then j else i), G)
  | _, _ => none
def max2D (d e : D) (G : Hs) : Rs := match d, e with
  | .int i, .int j => some (.int (if j > i then j else i), G)
  | _, _ => none
def minL (d : D) (G : Hs) : Rs := (roOf G d).bind fun ds => (intsD ds).bind fun ns => (ns.min?).bind fun m => some (.int m, G)
def maxL (d : D) (G : Hs) : Rs := (roOf G d).bind fun ds => (intsD ds).bind fun ns => (ns.max?).bind fun m => some (.int m, G)
def intD (d : D) (G : Hs) : Rs := match d with
  | .int i => some (.int i, G)
  | .bl b => some (.int (if b then 1 else 0), G)
  | _ => none
def sumD (d : D) (G : Hs) : Rs := (roOf G d).bind fun ds => (intsD ds).bind fun ns => some (.int ns.sum, G)
def newD (m : Bool) (ds : List D) (G : Hs) : Rs := if m then some (.ref G.length, G ++ [.lst ds]) else some (.lst ds, G)
def listD (m : Bool) (d : D) (G : Hs) : Rs := match d with
  | .str cs => if cs.length ≤ 16777216 then newD m (cs.map fun c => .str [c]) G else none
  | d => (seqOf G d).bind fun ds => newD m ds G
def tupD (d : D) (G : Hs) : Rs := (seqOf G d).bind fun ds => some (.tup ds, G)
def tyD (G : Hs) : D → Option String
  | .non => some "NoneType"
  | .bl _ => some "bool"
  | .int _ => some "int"
  | .str _ => some "str"
  | .tup _ => some "tuple"
  | .lst _ => some "list"
  | .fz _ => some "list"
  | .dic _ _ => some "dict"
  | .row _ => some "tuple"
  | .ref n => match G[n]? with
    | some (.lst _) => some "list"
    | some (.dct _) => some "dict"
    | _ => none
inductive Ty where
  | bool | int | str | tuple | list | dict
  deriving DecidableEq
def Ty.nm : Ty → String
  | .bool => "bool" | .int => "int" | .str => "str" | .tuple => "tuple" | .list => "list" | .dict => "dict"
def isiD (c : Ty) (d : D) (G : Hs) : Rs := (tyD G d).bind fun t => some (.bl (t == c.nm || (t == "bool" && c.nm == "int")), G)
def pairD : D → Option (Key × D)
  | .tup [k, x] => (keyD k).map fun k => (k, x)
  | _ => none
def pairsD : List D → Option (List (Key × D))
  | [] => some []
  | d :: r => (pairD d).bind fun p => (pairsD r).map (p :: ·)
def dictD0 (d : D) (G : Hs) : Rs := (roOf G d).bind fun ds => (pairsD ds).bind fun ps => some (.ref G.length, G ++ [.dct ps])

section
variable {X : Cx}
theorem rn_one {g : D → Hs → Rs} {xs : List V} {H : Hp} {Q : VK} (h : rn K T (one g) xs H Q) : ∃ ι F G d v, xs = [v] ∧ Rel K T ⟨ι, F, H⟩ G ∧ RV K ⟨ι, F, H⟩ d v ∧ Lift K T ⟨ι, F, H⟩ (g d G) Q := by
  obtain ⟨ι, F, G, ds, R, r, h⟩ := h
  match ds, r, h with
  | [], _, h => exact h.no
  | _ :: _ :: _, _, h => exact h.no
  | [d], r, h =>
    obtain ⟨v, e, r1⟩ := r.one
    exact ⟨ι, F, G, d, v, e, R, r1, h⟩
theorem rn_two {g : D → D → Hs → Rs} {xs : List V} {H : Hp} {Q : VK} (h : rn K T (two g) xs H Q) : ∃ ι F G d e v u, xs = [v, u] ∧ Rel K T ⟨ι, F, H⟩ G ∧ RV K ⟨ι, F, H⟩ d v ∧ RV K ⟨ι, F, H⟩ e u ∧ Lift K T ⟨ι, F, H⟩ (g d e G) Q := by
  obtain ⟨ι, F, G, ds, R, r, h⟩ := h
  match ds, r, h with
  | [], _, h => exact h.no
  | [_], _, h => exact h.no
  | _ :: _ :: _ :: _, _, h => exact h.no
  | [d, e], r, h =>
    obtain ⟨v, u, e1, r1, r2⟩ := r.two
    exact ⟨ι, F, G, d, e, v, u, e1, R, r1, r2, h⟩
theorem Lift.newM {w : Wd} {G : Hs} {m : Bool} {ds : List D} {vs : List V} {Q : V → Hp → Prop} (R : Rel K T w G) (h : Lift K T w (newD m ds G) Q) (r : RVs K w ds vs) : ∀ p, w.H p = none → Q (.ref p) (upd w.H p (.lst vs)) := by
  cases m with
  | false => exact h.newL R r
  | true => exact h.newC R r
theorem call_lenD : CallR X (.builtin "len") (rn X.K T (one lenD)) := by
  intro pins s σ H xs us Q I rs h0
  obtain ⟨ι, F, G, d, v, rfl, R, r, h⟩ := rn_one h0
  by_cases c : ∃ cs, d = .str cs
  · obtain ⟨cs, rfl⟩ := c
    obtain ⟨hl, h⟩ := h.ite
    have ev : v = V.str ⟨cs.toArray⟩ := r
    subst ev
    exact call_len pins s σ H _ us Q I rs ⟨_, cs.length, rfl, ⟨by rw [strLen]; exact hl, by rw [strLen]⟩, h.now R rfl⟩
  · have h' : Lift X.K T ⟨ι, F, H⟩ ((seqOf G d).bind fun ds => some (.int ds.length, G)) Q := by
      cases d <;> first | exact h | exact absurd ⟨_, rfl⟩ c
    obtain ⟨ds, e, h'⟩ := h'.ofBind
    obtain ⟨a, vs, rfl, h1, h2⟩ := seqOf_at R r e
    refine call_len pins s σ H _ us Q I rs ⟨_, ds.length, rfl, ?_, h'.now R rfl⟩
    rcases h1 with h1 | h1
    · exact .inl ⟨vs, h1, h2.len⟩
    · exact .inr ⟨vs, h1, h2.len⟩
theorem call_absD : CallR X (.builtin "abs") (rn X.K T (one absD)) := by
  intro pins s σ H xs us Q I rs h0
  obtain ⟨ι, F, G, d, v, rfl, R, r, h⟩ := rn_one h0
  cases d <;> first | exact h.no | skip
  exact call_abs pins s σ H _ us Q I rs ⟨_, by rw [rv_int r], h.now R rfl⟩
theorem call_min2D (hc : X.calm = true) : CallR X (.builtin "min") (rn X.K T (two min2D)) := by
  intro pins s σ H xs us Q I rs h0
  obtain ⟨ι, F, G, d, e, v, u, rfl, R, r, r', h⟩ := rn_two h0
  cases d <;> first | exact h.no | skip
  cases e <;> first | exact h.no | skip
  exact call_min2 hc pins s σ H _ us Q I rs ⟨_, _, by rw [rv_int r, rv_int r'], h.now R rfl⟩
theorem call_max2D (hc : X.calm = true) : CallR X (.builtin "max") (rn X.K T (two max2D)) := by
  intro pins s σ H xs us Q I rs h0
  obtain ⟨ι, F, G, d, e, v, u, rfl, R, r, r', h⟩ := rn_two h0
  cases d <;> first | exact h.no | skip
  cases e <;> first | exact h.no | skip
  exact call_max2 hc pins s σ H _ us Q I rs ⟨_, _, by rw [rv_int r, rv_int r'], h.now R rfl⟩
theorem call_intD : CallR X (.type "int") (rn X.K T (one intD)) := by
  intro pins s σ H xs us Q I rs h0
  obtain ⟨ι, F, G, d, v, rfl, R, r, h⟩ := rn_one h0
  cases d <;> first | exact h.no | skip
  · exact call_int1 pins s σ H _ us Q I rs (.inr ⟨_, by rw [rv_bl r], h.now R rfl⟩)
  · exact call_int1 pins s σ H _ us Q I rs (.inl ⟨_, by rw [rv_int r], h.now R rfl⟩)
theorem ints_at {w : Wd} {G : Hs} (R : Rel K T w G) {d : D} {v : V} (r : RV K w d v) {ds : List D} {ns : List Int} (e : roOf G d = some ds) (e2 : intsD ds = some ns) : ∃ a, v = .ref a ∧ SqL K w.H a (ns.map V.int) := by
  obtain ⟨a, vs, e1, h1, h2⟩ := roOf_at R r e
  rw [intsD_at h2 e2] at h1
  exact ⟨a, e1, h1⟩
theorem call_sumD (hc : X.calm = true) : CallR X (.builtin "sum") (rn X.K T (one sumD)) := by
  intro pins s σ H xs us Q I rs h0
  obtain ⟨ι, F, G, d, v, rfl, R, r, h⟩ := rn_one h0
  obtain ⟨ds, e, h⟩ := h.ofBind
  obtain ⟨ns, e2, h⟩ := h.ofBind
  obtain ⟨a, rfl, hq⟩ := ints_at R r e e2
  exact cr_sum hc pins s σ H _ us Q I rs ⟨a, ns, rfl, hq, h.now R rfl⟩
theorem max_of {ns : List Int} {m m' : Int} (e : ns.max? = some m) (h1 : m' ∈ ns) (h2 : ∀ y, y ∈ ns → y ≤ m') : m' = m := by
  have hm := List.max?_mem e
  have := h2 m hm
  have h3 := (List.max?_le_iff e (x := m)).mp (Int.le_refl _) m' h1
  omega
theorem min_of {ns : List Int} {m m' : Int} (e : ns.min? = some m) (h1 : m' ∈ ns) (h2 : ∀ y, y ∈ ns → m' ≤ y) : m' = m := by
  have hm := List.min?_mem e
  have := h2 m hm
  have h3 := (List.le_min?_iff e (x := m)).mp (Int.le_refl _) m' h1
  omega
theorem call_maxL (hc : X.calm = true) : CallR X (.builtin "max") (rn X.K T (one maxL)) := by
  intro pins s σ H xs us Q I rs h0
  obtain ⟨ι, F, G, d, v, rfl, R, r, h⟩ := rn_one h0
  obtain ⟨ds, e, h⟩ := h.ofBind
  obtain ⟨ns, e2, h⟩ := h.ofBind
  obtain ⟨m, e3, h⟩ := h.ofBind
  obtain ⟨a, rfl, hq⟩ := ints_at R r e e2
  refine cr_max hc pins s σ H _ us Q I rs ⟨a, ns, rfl, hq, ?_, fun m' h1 h2 => ?_⟩
  · cases ns with
    | nil => cases e3
    | cons _ _ => simp
  · rw [max_of e3 h1 h2]; exact h.now R rfl
theorem call_minL (hc : X.calm = true) : CallR X (.builtin "min") (rn X.K T (one minL)) := by
  intro pins s σ H xs us Q I rs h0
  obtain ⟨ι, F, G, d, v, rfl, R, r, h⟩ := rn_one h0
  obtain ⟨ds, e, h⟩ := h.ofBind
  obtain ⟨ns, e2, h⟩ := h.ofBind
  obtain ⟨m, e3, h⟩ := h.ofBind
  obtain ⟨a, rfl, hq⟩ := ints_at R r e e2
  refine cr_min hc pins s σ H _ us Q I rs ⟨a, ns, rfl, hq, ?_, fun m' h1 h2 => ?_⟩
  · cases ns with
    | nil => cases e3
    | cons _ _ => simp
  · rw [min_of e3 h1 h2]; exact h.now R rfl
theorem signs_vals {cs : List Nat} : ∀ {acc : List Value}, acc.length = cs.length → (∀ (i : Nat) v, acc[i]? = some v → ∃ c t, cs[i]? = some c ∧ v = .str ⟨#[c]⟩ t) → Vals (cs.map fun c => V.str ⟨#[c]⟩) acc := by
  induction cs with
  | nil =>
    intro acc h _
    have : acc = [] := List.length_eq_zero_iff.mp h
    subst this; exact .nil
  | cons c cs ih =>
    intro acc h g
    cases acc with
    | nil => simp at h
    | cons v acc =>
      obtain ⟨c', t, e1, e2⟩ := g 0 v rfl
      cases e1
      refine .cons ⟨t, e2⟩ (ih (by simpa using h) fun i v e => ?_)
      obtain ⟨c', t, e1, e2⟩ := g (i + 1) v (by simpa using e)
      exact ⟨c', t, by simpa using e1, e2⟩
theorem signs_rvs {w : Wd} : ∀ cs : List Nat, RVs K w (cs.map fun c => D.str [c]) (cs.map fun c => V.str ⟨#[c]⟩)
  | [] => rfl
  | c :: cs => ⟨_, _, rfl, rfl, signs_rvs cs⟩
theorem call_listD (m : Bool) (hc : X.calm = true) : CallR X (.type "list") (rn X.K T (one (listD m))) := by
  intro pins s σ H xs us Q I rs h0
  obtain ⟨ι, F, G, d, v, rfl, R, r, h⟩ := rn_one h0
  by_cases cs : ∃ cs, d = .str cs
  · obtain ⟨cs, rfl⟩ := cs
    obtain ⟨hl, h⟩ := h.ite
    rw [show v = V.str ⟨cs.toArray⟩ from r] at rs
    obtain ⟨u, rfl, ru⟩ := vals1 rs
    obtain ⟨t, rfl⟩ := ru
    refine call_list_str (I.ok.hd hc) ⟨cs.toArray⟩ t (fun h' tk acc' c' hk hS hacc => ?_) (by rw [sizeLine_eq]; simpa using hl)
    have rv : Vals (cs.map fun c => V.str ⟨#[c]⟩) acc'.toList := by
      refine signs_vals (by have := hacc.1; rw [Array.length_toList, this]; simp) fun i v e => ?_
      obtain ⟨c, t, e1, e2⟩ := hacc.2 i v (by simpa using e)
      exact ⟨c, t, by simpa using e1, e2⟩
    have lv : (cs.map fun c => V.str ⟨#[c]⟩).length ≤ sizeLine := by rw [List.length_map, sizeLine_eq]; exact hl
    exact ⟨.ref s.heap.objs.size, _, I.laid (t' := tk) hk (Nat.le_refl _) (show ObjOk X.prog X.w _ h' _ (.lst (cs.map fun c => V.str ⟨#[c]⟩)) from ⟨lv, acc'.toList, c', rv, by simpa using hS⟩), rfl, h.newM R (signs_rvs cs) _ (I.hok.fresh (Nat.le_refl _))⟩
  · have h' : Lift X.K T ⟨ι, F, H⟩ ((seqOf G d).bind fun ds => newD m ds G) Q := by
      cases d <;> first | exact h | exact absurd ⟨_, rfl⟩ cs
    obtain ⟨ds, e, h⟩ := h'.ofBind
    obtain ⟨a, vs, rfl, h1, h2⟩ := seqOf_at R r e
    exact call_list_of pins s σ H _ us Q I rs ⟨a, vs, rfl, h1, h.newM R h2⟩
theorem call_tupD : CallR X (.type "tuple") (rn X.K T (one tupD)) := by
  intro pins s σ H xs us Q I rs h0
  obtain ⟨ι, F, G, d, v, rfl, R, r, h⟩ := rn_one h0
  obtain ⟨ds, e, h⟩ := h.ofBind
  obtain ⟨a, vs, rfl, h1, h2⟩ := seqOf_at R r e
  rcases h1 with h1 | h1
  · exact call_tuple_of pins s σ H _ us Q I rs ⟨a, vs, rfl, .inl ⟨h1, h.newT R h2⟩⟩
  · refine call_tuple_of pins s σ H _ us Q I rs ⟨a, vs, rfl, .inr ⟨h1, h.now R ⟨a, vs, rfl, h1, h2⟩⟩⟩

/-! ### isinstance -/
theorem tyD_at {w : Wd} {G : Hs} (R : Rel K T w G) {d : D} {v : V} (r : RV K w d v) {t : String} (e : tyD G d = some t) : TyX K w.H v (.type t) := by
  cases d with
  | non => cases e; rw [show v = V.non from r]; exact .base .non
  | bl b => cases e; rw [rv_bl r]; exact .base (.bl b)
  | int b => cases e; rw [rv_int r]; exact .base (.int b)
  | str b => cases e; rw [rv_str r]; exact .base (.str _)
  | tup ds =>
    cases e
    obtain ⟨a, vs, rfl, h1, h2⟩ := r
    rcases h1 with (h1 | ⟨o, h1⟩) | ⟨o, its, n, h1, h3, _⟩
    · exact .base (.tup h1)
    · exact .fTuple h1
    · exact .kTuple h1 h3
  | lst ds =>
    cases e
    obtain ⟨a, vs, rfl, h1, h2⟩ := r
    exact .base (.lst h1.2)
  | fz ds =>
    cases e
    obtain ⟨a, vs, rfl, h1, h2⟩ := r
    rcases h1 with ⟨o, h1⟩ | ⟨o, its, n, h1, h3, _⟩
    · exact .base (.frz h1)
    · exact .kList h1 h3
  | dic ks ds =>
    cases e
    obtain ⟨a, o, vs, rfl, h1, _⟩ := r
    exact .fDict h1
  | row ds =>
    cases e
    obtain ⟨a, o, vs, rfl, h1, _⟩ := r
    exact .fTuple h1
  | ref n =>
    simp only [tyD] at e
    split at e
    · rename_i ds eg
      cases e
      obtain ⟨a, vs, rfl, _, _, h1, _⟩ := cell_at R r eg
      exact .base (.lst h1)
    · rename_i ds eg
      cases e
      obtain ⟨a, vs, rfl, _, _, h1, _⟩ := dct_at R r eg
      exact .base (.dK h1)
    · cases e
theorem tyD_names {G : Hs} {d : D} {t : String} (e : tyD G d = some t) : t = "NoneType" ∨ t = "bool" ∨ t = "int" ∨ t = "str" ∨ t = "tuple" ∨ t = "list" ∨ t = "dict" := by
  cases d <;> simp only [tyD] at e <;> first | (cases e; simp; done) | skip
  split at e <;> first | (cases e; simp; done) | (cases e)
theorem kit_names (c : Ty) {t : String} (e : t = "NoneType" ∨ t = "bool" ∨ t = "int" ∨ t = "str" ∨ t = "tuple" ∨ t = "list" ∨ t = "dict") :
    PySem.W.kitOne K (.type t) (.type c.nm) = some (t == c.nm || (t == "bool" && c.nm == "int")) := by
  cases c <;> rcases e with rfl | rfl | rfl | rfl | rfl | rfl | rfl <;> first | rfl | decide +kernel
end
end Mp
set_option Elab.async false
set_option linter.all false
set_option autoImplicit false
set_option maxRecDepth 100000
set_option maxHeartbeats 1000000
/-! Mp, part 5b: dicts, methods, stores -/
namespace Mp
open PySem PySem.Spec L2
open PyProof.Rows hiding St

variable {K : PySem.W.Frag} {T : List Addr}

def dput (kvs : List (Key × D)) (k : Key) (d : D) : List (Key × D) :=
  if (kvs.any fun kv => decide (kv.1 = k)) = true then kvs.map (fun kv => if kv.1 = k then (kv.1, d) else kv) else kvs ++ [(k, d)]
def dmerge (kvs more : List (Key × D)) : List (Key × D) := more.foldl (fun acc kv => dput acc kv.1 kv.2) kvs
def dictD (d : D) (G : Hs) : Rs := (roOf G d).bind fun ds => (pairsD ds).bind fun ps => some (.ref G.length, G ++ [.dct (dmerge [] ps)])

theorem RKs.put {w : Wd} {kvs : List (Key × D)} {us : List (Key × V)} (r : RKs K w kvs us) (k : Key) {d : D} {v : V} (h : RV K w d v) : RKs K w (dput kvs k d) (putK us k v) := by
  have e : (kvs.any fun kv => decide (kv.1 = k)) = (us.any fun kv => decide (kv.1 = k)) := by
    unfold RKs at r
    induction r with
    | nil => rfl
    | @cons p q ps qs hq t ih => simp only [List.any_cons, ih, hq.1]
  unfold dput putK
  rw [← e]
  split
  · rename_i hany
    clear e hany
    unfold RKs at r ⊢
    induction r with
    | nil => exact .nil
    | @cons p q ps qs hq t ih =>
      refine .cons ?_ ih
      show (if p.1 = k then (p.1, d) else p).1 = (if q.1 = k then (q.1, v) else q).1 ∧ RV K w (if p.1 = k then (p.1, d) else p).2 (if q.1 = k then (q.1, v) else q).2
      by_cases c : p.1 = k
      · rw [if_pos c, if_pos (by rw [← hq.1]; exact c)]
        exact ⟨hq.1, h⟩
      · rw [if_neg c, if_neg (by rw [← hq.1]; exact c)]
        exact hq
  · exact Paired.snoc r ⟨rfl, h⟩
theorem RKs.merge {w : Wd} {more : List (Key × D)} {ms : List (Key × V)} (r : RKs K w more ms) : ∀ {kvs : List (Key × D)} {us : List (Key × V)}, RKs K w kvs us → RKs K w (dmerge kvs more) (mergeK us ms) := by
  unfold RKs at r
  induction r with
  | nil => intro _ _ q; exact q
  | @cons p q ps qs h t ih =>
    intro kvs us q0
    have z := q0.put p.1 h.2
    rw [h.1] at z
    have := ih z
    show RKs K w (dmerge (dput kvs p.1 p.2) ps) (mergeK (putK us q.1 q.2) qs)
    rw [h.1]
    exact this
/-- a list of pairs, as the layer reads it -/
theorem pairsD_at {w : Wd} : ∀ {ds : List D} {vs : List V} {ps : List (Key × D)}, RVs K w ds vs → pairsD ds = some ps →
    ∃ (as : List Addr) (us : List (Key × V)), vs = as.map V.ref ∧ Paired (fun p kv => SqT K w.H p [kV kv.1, kv.2]) as us ∧ RKs K w ps us
  | [], _, _, r, e => by
    cases r; cases e
    exact ⟨[], [], rfl, .nil, .nil⟩
  | d :: t, _, _, r, e => by
    obtain ⟨v, u, rfl, h1, h2⟩ := r
    simp only [pairsD] at e
    cases e1 : pairD d with
    | none => rw [e1] at e; cases e
    | some p =>
      rw [e1] at e
      simp only [Option.bind_some, Option.map_eq_some_iff] at e
      obtain ⟨m, e2, rfl⟩ := e
      obtain ⟨as, us, rfl, h3, h4⟩ := pairsD_at h2 e2
      have : ∃ k x kd, d = .tup [k, x] ∧ keyD k = some kd ∧ p = (kd, x) := by
        match d, e1 with
        | .tup [k, x], e1 =>
          simp only [pairD, Option.map_eq_some_iff] at e1
          obtain ⟨kd, e3, rfl⟩ := e1
          exact ⟨k, x, kd, rfl, e3, rfl⟩
      obtain ⟨k, x, kd, rfl, ek, rfl⟩ := this
      obtain ⟨a, ws, rfl, h5, h6⟩ := h1
      obtain ⟨v1, v2, rfl, h7, h8⟩ := h6.two
      rw [keyD_kV ek h7] at h5
      exact ⟨a :: as, (kd, v2) :: us, rfl, .cons h5 h3, .cons ⟨rfl, h8⟩ h4⟩

section
variable {X : Cx}
theorem call_dictD (hc : X.calm = true) : CallR X (.type "dict") (rn X.K T (one dictD)) := by
  intro pins s σ H xs us Q I rs h0
  obtain ⟨ι, F, G, d, v, rfl, R, r, h⟩ := rn_one h0
  obtain ⟨ds, e, h⟩ := h.ofBind
  obtain ⟨ps, e2, h⟩ := h.ofBind
  obtain ⟨a, vs, rfl, h1, h2⟩ := roOf_at R r e
  obtain ⟨as, kvs, rfl, h3, h4⟩ := pairsD_at h2 e2
  refine call_dictP hc pins s σ H _ us Q I rs ⟨a, as, kvs, rfl, h1, h3, fun p hp => ?_⟩
  have x : Ex2 X.K ⟨ι, F, H⟩ ⟨ι ++ [p], F, upd H p (.dK (mergeK [] kvs))⟩ := Ex2.cell hp
  refine h.to x (R.newCell hp fun nf => ⟨nf, _, upd_same, (h4.merge (kvs := []) (us := []) .nil).ext x.toExt⟩) ⟨p, rfl, ?_⟩
  show (ι ++ [p])[G.length]? = some p
  rw [← R.len, List.getElem?_append_right (Nat.le_refl _), Nat.sub_self]; rfl

/-! ### methods -/
theorem Lift.wr {w : Wd} {G : Hs} {n : Nat} {a : Addr} {o u : HO} {c : Cell} {d : D} {v : V} {Q : V → Hp → Prop} (R : Rel K T w G) (h : Lift K T w (some (d, G.set n c)) Q) (ha : w.ι[n]? = some a) (hF : ¬ w.F a) (hu : w.H a = some u) (hw : Wr u)
    (hc : CellOk K ⟨w.ι, w.F, upd w.H a o⟩ a c) (r : RV K w d v) : Q v (upd w.H a o) :=
  h.to (Ex2.write (List.mem_of_getElem? ha) hF hu hw) (R.write ha hF hu hw hc) (RV.ext (Ext.write hF hu hw) _ _ r)
def appendM (o : D) (xs : List D) (G : Hs) : Rs := match o, xs with
  | .ref n, [x] => match G[n]? with
    | some (.lst ds) => if ds.length < sizeLine then some (.non, G.set n (.lst (ds ++ [x]))) else none
    | _ => none
  | _, _ => none
def extendM (o : D) (xs : List D) (G : Hs) : Rs := match o, xs with
  | .ref n, [x] => match G[n]? with
    | some (.lst ds) => (listOf G x).bind fun es => if ds.length + es.length ≤ sizeLine then some (.non, G.set n (.lst (ds ++ es))) else none
    | _ => none
  | _, _ => none
def popM (o : D) (xs : List D) (G : Hs) : Rs := match o, xs with
  | .ref n, [] => match G[n]? with
    | some (.lst ds) => (ds[ds.length - 1]?).bind fun y => some (y, G.set n (.lst ds.dropLast))
    | _ => none
  | .ref n, [.int i] => match G[n]? with
    | some (.lst ds) => if -(2 ^ 63) ≤ i ∧ i < 2 ^ 63 then (seqIndex? i ds.length).bind fun k => (ds[k]?).bind fun y => some (y, G.set n (.lst (ds.eraseIdx k))) else none
    | _ => none
  | _, _ => none
def indexM (o : D) (xs : List D) (G : Hs) : Rs := match xs with
  | [x] => (listOf G o).bind fun ds => if okC x ∧ okC (.lst ds) then (ds.findIdx? fun z => eqD z x).bind fun j => some (.int (j : Nat), G) else none
  | _ => none
def joinM (o : D) (xs : List D) (G : Hs) : Rs := match o, xs with
  | .str [], [x] => (seqOf G x).bind fun ds => (strsD ds).bind fun ts => if (ts.map (·.length)).sum ≤ 16777216 then some (.str ts.flatten, G) else none
  | _, _ => none
theorem CellOk.lst' {ι : List Addr} {F : Addr → Prop} {H : Hp} {a : Addr} {o : HO} {ds : List D} {vs : List V} (hF : ¬ F a) (hu : H a = some o) (hw : Wr o) (r : RVs K ⟨ι, F, H⟩ ds vs) :
    CellOk K ⟨ι, F, upd H a (.lst vs)⟩ a (.lst ds) := ⟨hF, vs, upd_same, r.ext (Ext.write (w := ⟨ι, F, H⟩) hF hu hw)⟩
theorem mt_appendD : MtR X "list.append" (rm X.K T appendM) := by
  intro pins s σ H x xs v us Q I rx rs h0
  obtain ⟨ι, F, G, d, ds, R, rd, rds, h⟩ := h0
  unfold appendM at h
  split at h
  · rename_i n y
    split at h
    · rename_i zs eg
      obtain ⟨hl, h⟩ := h.ite
      obtain ⟨yv, rfl, ry⟩ := rds.one
      obtain ⟨a, vs, rfl, ea, nf, h1, h2⟩ := cell_at R rd eg
      refine mt_append pins s σ H _ _ v us Q I rx rs ⟨a, vs, yv, rfl, rfl, h1, by rw [← h2.len]; exact hl, ?_⟩
      exact h.wr R ea nf h1 trivial (CellOk.lst' nf h1 trivial (h2.append ⟨yv, [], rfl, ry, rfl⟩)) rfl
    · exact h.no
  · exact h.no
theorem mt_extendD : MtR X "list.extend" (rm X.K T extendM) := by
  intro pins s σ H x xs v us Q I rx rs h0
  obtain ⟨ι, F, G, d, ds, R, rd, rds, h⟩ := h0
  unfold extendM at h
  split at h
  · rename_i n y
    split at h
    · rename_i zs eg
      obtain ⟨es, ee, h⟩ := h.ofBind
      obtain ⟨hl, h⟩ := h.ite
      obtain ⟨yv, rfl, ry⟩ := rds.one
      obtain ⟨a, vs, rfl, ea, nf, h1, h2⟩ := cell_at R rd eg
      obtain ⟨b, ws, rfl, h3, h4⟩ := listOf_at R ry ee
      refine mt_extend pins s σ H _ _ v us Q I rx rs ⟨a, b, vs, ws, rfl, rfl, h1, h3, by rw [← h2.len, ← h4.len]; exact hl, ?_⟩
      exact h.wr R ea nf h1 trivial (CellOk.lst' nf h1 trivial (h2.append h4)) rfl
    · exact h.no
  · exact h.no
theorem mt_popD : MtR X "list.pop" (rm X.K T popM) := by
  intro pins s σ H x xs v us Q I rx rs h0
  obtain ⟨ι, F, G, d, ds, R, rd, rds, h⟩ := h0
  unfold popM at h
  split at h
  · rename_i n
    split at h
    · rename_i zs eg
      obtain ⟨y, ey, h⟩ := h.ofBind
      cases rds
      obtain ⟨a, vs, rfl, ea, nf, h1, h2⟩ := cell_at R rd eg
      obtain ⟨yv, e2, ry⟩ := h2.get ey
      refine mt_pop pins s σ H _ _ v us Q I rx rs ⟨a, vs, yv, rfl, rfl, h1, by rw [← h2.len]; exact e2, ?_⟩
      exact h.wr R ea nf h1 trivial (CellOk.lst' nf h1 trivial h2.dropLast) ry
    · exact h.no
  · rename_i n i
    split at h
    · rename_i zs eg
      obtain ⟨hi, h⟩ := h.ite
      obtain ⟨k, ek, h⟩ := h.ofBind
      obtain ⟨y, ey, h⟩ := h.ofBind
      obtain ⟨yv, rfl, ry⟩ := rds.one
      obtain ⟨a, vs, rfl, ea, nf, h1, h2⟩ := cell_at R rd eg
      obtain ⟨uv, e2, ru⟩ := h2.get ey
      refine mt_popAt pins s σ H _ _ v us Q I rx rs ⟨a, vs, i, k, uv, rfl, by rw [rv_int ry], h1, hi.1, hi.2, by rw [← h2.len]; exact ek, e2, ?_⟩
      exact h.wr R ea nf h1 trivial (CellOk.lst' nf h1 trivial (h2.eraseIdx k)) ru
    · exact h.no
  · exact h.no
theorem toPs_get : ∀ (ds : List D) (j : Nat), (toPs ds)[j]? = (ds[j]?).map toP
  | [], _ => by simp [toPs]
  | d :: r, 0 => by simp [toPs]
  | d :: r, j + 1 => by simp [toPs, toPs_get r j]
theorem okDs_get : ∀ {ds : List D} {j : Nat} {d : D}, okDs ds = true → ds[j]? = some d → okD d = true
  | [], _, _, _, e => by simp at e
  | x :: r, 0, d, h, e => by
    simp only [okDs, Bool.and_eq_true] at h
    simp at e; subst e; exact h.1
  | x :: r, j + 1, d, h, e => by
    simp only [okDs, Bool.and_eq_true] at h
    exact okDs_get h.2 (by simpa using e)
theorem mt_indexM (hu : X.A.units + 65 < cLine) : MtR X "list.index" (rm X.K T indexM) := by
  intro pins s σ H x xs v us Q I rx rs h0
  obtain ⟨ι, F, G, d, ds, R, rd, rds, h⟩ := h0
  unfold indexM at h
  split at h
  · rename_i y
    obtain ⟨zs, ez, h⟩ := h.ofBind
    obtain ⟨⟨c1, c2⟩, h⟩ := h.ite
    obtain ⟨j, ej, h⟩ := h.ofBind
    obtain ⟨yv, rfl, ry⟩ := rds.one
    obtain ⟨a, vs, rfl, h1, h2⟩ := listOf_at R rd ez
    obtain ⟨o1, s1⟩ := okC_shaped c1
    obtain ⟨o2, s2⟩ := okC_shaped c2
    have o2' : okDs zs = true := by simpa only [okD] using o2
    obtain ⟨hj, pj, before⟩ := List.findIdx?_eq_some_iff_getElem.mp ej
    have ezj : zs[j]? = some zs[j] := List.getElem?_eq_getElem hj
    have s2' : SeqAt.shaped (.list (toPs zs)) = true := by simpa only [toP] using s2
    refine mt_indexD hu pins s σ H _ _ v us Q I rx rs ⟨a, yv, toP y, toPs zs, j, toP zs[j], rfl, rfl, .lst (.of h1) (dpDs zs vs o2' h2), dpD y yv o1 ry, s2', s1, by rw [toPs_get, ezj]; rfl,
      by rw [eqD_eqv _ _ (okDs_get o2' ezj) o1]; exact pj, fun m z' hm ez' => ?_, h.now R rfl⟩
    have hm' : m < zs.length := by omega
    have ezm : zs[m]? = some zs[m] := List.getElem?_eq_getElem hm'
    rw [toPs_get, ezm] at ez'
    cases ez'
    rw [eqD_eqv _ _ (okDs_get o2' ezm) o1]
    simpa using before m hm
  · exact h.no
theorem join_nil0 : ∀ ts : List (List Nat), Str.join (mkS []) (ts.map mkS) = mkS ts.flatten
  | [] => rfl
  | [t] => by
    show mkS t = mkS ([t].flatten)
    simp
  | t :: u :: r => by
    have ih := join_nil0 (u :: r)
    show (mkS t ++ mkS [] ++ Str.join (mkS []) ((u :: r).map mkS) : Str) = _
    rw [ih]
    unfold mkS
    rw [toArr, toArr]
    simp
theorem join_nil (ts : List (List Nat)) : Txt.join (mkS []) (ts.map mkS) = mkS ts.flatten := by
  show Builtin.Str.glued _ _ = _
  rw [StrLaws.glued_eq_join]
  exact join_nil0 ts
theorem mt_joinD : MtR X "str.join" (rm X.K T joinM) := by
  intro pins s σ H x xs v us Q I rx rs h0
  obtain ⟨ι, F, G, d, ds, R, rd, rds, h⟩ := h0
  unfold joinM at h
  split at h
  · rename_i y
    obtain ⟨zs, ez, h⟩ := h.ofBind
    obtain ⟨ts, et, h⟩ := h.ofBind
    obtain ⟨hl, h⟩ := h.ite
    obtain ⟨yv, rfl, ry⟩ := rds.one
    obtain ⟨a, vs, rfl, h1, h2⟩ := seqOf_at R ry ez
    have ev := strsD_at h2 et
    subst ev
    refine mt_join pins s σ H _ _ v us Q I rx rs ⟨mkS [], a, ts.map mkS, rd, rfl, h1, ?_, ?_⟩
    · rw [List.map_map]
      have e : ((fun x : Str => x.length) ∘ mkS) = fun x => x.length := by
        funext z
        exact strLen z
      rw [e]
      have e0 : (mkS []).length = 0 := rfl
      rw [e0, Nat.mul_zero, Nat.add_zero]
      exact hl
    · rw [join_nil]
      exact h.now R rfl
  · exact h.no
end
end Mp
set_option Elab.async false
set_option linter.all false
set_option autoImplicit false
set_option maxRecDepth 100000
set_option maxHeartbeats 1000000
/-! Mp: zip of two tuples, list(reversed(list)), list(range(a, b, c)) -/
namespace Mp
open PySem PySem.Spec L2
open PyProof.Rows hiding St

theorem vals_back : ∀ {xs : List V} {us : List Value} {i : Nat} {u : Value}, Vals xs us → us[i]? = some u → ∃ x, xs[i]? = some x ∧ RelV x u
  | _, _, _, _, .nil, e => by simp at e
  | _, _, 0, _, .cons r _, e => by simp at e; subst e; exact ⟨_, rfl, r⟩
  | _, _, i + 1, _, .cons _ t, e => by simpa using vals_back (i := i) t (by simpa using e)
/-- the tuples at a and b, pair by pair -/
def Izt (K : PySem.W.Frag) (a b : Addr) (n : Nat) : It :=
  ⟨fun i H => i < n ∧ ∃ (xs ys : List V), SqT K H a xs ∧ SqT K H b ys ∧ n ≤ xs.length ∧ n ≤ ys.length ∧ n = min xs.length ys.length,
    fun i H v H' => ∃ T x y, v = .ref T ∧ H T = none ∧ H' = upd H T (.tup [x, y]) ∧ (∀ xs, SqT K H a xs → xs[i]? = some x) ∧ ∀ ys, SqT K H b ys → ys[i]? = some y,
    fun i H => i = n ∧ ∃ (xs ys : List V), SqT K H a xs ∧ SqT K H b ys ∧ n = min xs.length ys.length⟩
abbrev ZtSt (z TI TO i1 i2 a b : Addr) (i : Nat) (h : Heap) : Prop := IsZip h z TI TO .none ∧ IsTupOf2 h TI (.ref i1) (.ref i2) ∧ (∃ x y, IsTupOf2 h TO x y) ∧ h.IsTupleIter i1 a i ∧ h.IsTupleIter i2 b i
theorem turn_zipT {P : Program} {w : World} {K : PySem.W.Frag} {elts : List Expr} {kk : Nat} {tpos : Pos} {a b z TI TO i1 i2 : Addr} {n : Nat} (S : ZipSep2 z TI TO i1 i2 [i1, a] [i2, b]) :
    Turn P w K (.Tuple elts kk tpos) (Izt K a b n) [z, TI, TO, i1, i2] z (ZtSt z TI TO i1 i2 a b) where
  mem := by simp
  obj := fun i h ⟨hz, hTI, ⟨x, y, hTO⟩, ⟨o1, e1, _, d1⟩, ⟨o2, e2, _, d2⟩⟩ c hc => by
    simp only [List.mem_cons, List.not_mem_nil, or_false] at hc
    rcases hc with rfl | rfl | rfl | rfl | rfl
    · exact ⟨_, hz, fun v q => nomatch q⟩
    · exact ⟨_, hTI, fun v q => nomatch q⟩
    · exact ⟨_, hTO, fun v q => nomatch q⟩
    · exact ⟨o1, e1, fun v q => by rw [d1] at q; cases q⟩
    · exact ⟨o2, e2, fun v q => by rw [d2] at q; cases q⟩
  keep := fun i h h' ⟨hz, hTI, ⟨x, y, hTO⟩, h1, h2⟩ k =>
    ⟨k z (by simp) _ hz, k TI (by simp) _ hTI, ⟨x, y, k TO (by simp) _ hTO⟩, h1.at fun o q => k i1 (by simp) o q, h2.at fun o q => k i2 (by simp) o q⟩
  item := by
    intro X hP hw hK hc i pins s σ H E I hf st hg
    subst hP hw hK
    obtain ⟨hi, xs, ys, hqx, hqy, hnx, hny, hn⟩ := hg
    obtain ⟨its, rv, p, _⟩ := I.tuple hqx
    obtain ⟨its2, rv2, p2, _⟩ := I.tuple hqy
    have l1 := rv.length
    have l2 := rv2.length
    have hh : X.A.in1.handled = none := I.ok.hd hc
    obtain ⟨hz, hTI, hTO, h1, h2⟩ := st
    have na : a ≠ i1 := fun q => by
      obtain ⟨o1, e1, c1, d1⟩ := h1
      obtain ⟨oo, e3, c3, _⟩ := p
      rw [q, e1] at e3; cases e3
      rw [c1] at c3
      injection c3 with c3
      exact absurd c3 (by decide)
    have nb : b ≠ i2 := fun q => by
      have e : H i2 = none := (hf i2 (by simp)).1
      obtain ⟨o1, e1, c1, d1⟩ := h2
      obtain ⟨oo, e3, c3, _⟩ := p2
      rw [q, e1] at e3; cases e3
      rw [c1] at c3
      injection c3 with c3
      exact absurd c3 (by decide)
    have W := GoesN.zip2 (prog := X.prog) (w := X.w) (A := X.A) (elts := elts) (x1 := kk) (pos := tpos) S (Draws.tuple hh i1 a na its.toArray) (Draws.tuple hh i2 b nb its2.toArray)
    have en : min its.toArray.size its2.toArray.size = n := by rw [List.size_toArray, List.size_toArray, ← l1, ← l2]; exact hn.symm
    have hlt : ∀ c ∈ [z, TI, TO, i1, i2], c < s.heap.objs.size := fun c hcm => by
      simp only [List.mem_cons, List.not_mem_nil, or_false] at hcm
      obtain ⟨_, _, hTO⟩ := hTO
      obtain ⟨_, e1, _⟩ := h1
      obtain ⟨_, e2, _⟩ := h2
      rcases hcm with rfl | rfl | rfl | rfl | rfl
      · exact Heap.lt_size hz
      · exact Heap.lt_size hTI
      · exact Heap.lt_size hTO
      · exact Heap.lt_size e1
      · exact Heap.lt_size e2
    refine wpAny_mono (W.goes i s (fun u s2 => ∃ x H', Inv X pins σ H' s2 ∧ RelV x u ∧ (Izt X.K a b n).yld i H x H' ∧ ZtSt z TI TO i1 i2 a b (i + 1) s2.heap ∧ ∀ b ∈ [z, TI, TO, i1, i2], H' b = none) E (by rw [en]; exact hi)
      ⟨hz, hTI, hTO, ⟨h1, p⟩, ⟨h2, p2⟩⟩ fun v h' tk hY st' hk _ => ?_) (fun r s1 hr => ?_) fun _ _ q => q
    · obtain ⟨T, x, y, rfl, hT, hx, hy, hTup⟩ := hY
      obtain ⟨hz', hTI', hTO', ⟨h1', _⟩, h2', _⟩ := st'
      obtain ⟨xv, ex, rx⟩ := vals_back rv (by simpa using hx)
      obtain ⟨yv, ey, ry⟩ := vals_back rv2 (by simpa using hy)
      have new : ObjOk X.prog X.w (upd H T (.tup [xv, yv])) h' T (.tup [xv, yv]) := ⟨by show 2 ≤ sizeLine; decide, [x, y], .cons rx (.cons ry .nil), hTup⟩
      have I1 : Inv X pins σ (upd H T (.tup [xv, yv])) { s with heap := h', toks := tk } :=
        I.turnedNew (ch := [z, TI, TO, i1, i2]) (fun c o hb q => hk c o (fun q' => hb (by simp only [List.mem_cons, List.not_mem_nil, or_false] at q' ⊢; rcases q' with q' | q' | q' | q' <;> simp [q'])) q) hf hT new
      refine ⟨.ref T, _, I1, rfl, ⟨T, xv, yv, rfl, I.hok.fresh hT, rfl, fun l hl => by rw [I.tuple_inj hl hqx]; exact ex, fun l hl => by rw [I.tuple_inj hl hqy]; exact ey⟩, ⟨hz', hTI', hTO', h1', h2'⟩, fun c hcm => ?_⟩
      rw [upd_ne (Nat.ne_of_lt (Nat.lt_of_lt_of_le (hlt c hcm) hT))]
      exact (hf c hcm).1
    · obtain ⟨v, e, q⟩ := hr
      exact ⟨v, e, q⟩
  done := by
    intro X hP hw hK hc i pins s σ H E I hf st hg
    subst hP hw hK
    obtain ⟨rfl, xs, ys, hqx, hqy, hn⟩ := hg
    obtain ⟨its, rv, p, _⟩ := I.tuple hqx
    obtain ⟨its2, rv2, p2, _⟩ := I.tuple hqy
    have l1 := rv.length
    have l2 := rv2.length
    have hh : X.A.in1.handled = none := I.ok.hd hc
    obtain ⟨hz, hTI, hTO, h1, h2⟩ := st
    have na : a ≠ i1 := fun q => by
      obtain ⟨o1, e1, c1, d1⟩ := h1
      obtain ⟨oo, e3, c3, _⟩ := p
      rw [q, e1] at e3; cases e3
      rw [c1] at c3
      injection c3 with c3
      exact absurd c3 (by decide)
    have nb : b ≠ i2 := fun q => by
      obtain ⟨o1, e1, c1, d1⟩ := h2
      obtain ⟨oo, e3, c3, _⟩ := p2
      rw [q, e1] at e3; cases e3
      rw [c1] at c3
      injection c3 with c3
      exact absurd c3 (by decide)
    have W := GoesN.zip2 (prog := X.prog) (w := X.w) (A := X.A) (elts := elts) (x1 := kk) (pos := tpos) S (Draws.tuple hh i1 a na its.toArray) (Draws.tuple hh i2 b nb its2.toArray)
    have en : min its.toArray.size its2.toArray.size = i := by rw [List.size_toArray, List.size_toArray, ← l1, ← l2]; exact hn.symm
    refine W.stops s (fun s1 => Inv X pins σ H s1) E (by rw [en]; exact ⟨hz, hTI, hTO, ⟨h1, p⟩, ⟨h2, p2⟩⟩) fun h' tk hk _ => ?_
    exact I.turnedL (ch := [z, TI, TO, i1, i2]) (fun c o hb q => hk c o (fun q' => hb (by simp only [List.mem_cons, List.not_mem_nil, or_false] at q' ⊢; rcases q' with q' | q' | q' | q' <;> simp [q'])) q) hf
  self := fun A i s Q E st h => wpAny_pyIter_zip st.1 h
def iZipT (K : PySem.W.Frag) (ta : TA) : TI := fun σ H R => ta σ H fun vs H1 => ∃ a b xs ys, vs = [.ref a, .ref b] ∧ SqT K H1 a xs ∧ SqT K H1 b ys ∧ R (Izt K a b (min xs.length ys.length)) H1
theorem pi_zipT {X : Cx} {e e2 : Expr} {ta : TA} {p pos tpos : Pos} {elts : List Expr} {kk : Nat} (hg : Gl X "zip") (hm : X.mg "zip" = none) (ha : PA X [e, e2] ta)
    (hs : starEach [e, e2] X.env = (false, eval e X.env) :: starEach [e2] X.env := by rfl) (hpl : (backTo pos (starEach [e2] X.env)).any (·.1) = false := by rfl) :
    PI X (.Tuple elts kk tpos) (.Call (.Name "zip" p) [e, e2] [] pos) (iZipT X.K ta) := by
  refine ⟨fun pins s σ H R I h => ?_⟩
  refine Call_ (ld_blt I hg hm PyProof.Rows.boot_zip (PyProof.Rows.callWith_type1 (thn (ha.run pos pins s σ H _ I h) fun us s1 ⟨vs, H1, I1, r1, q1⟩ => ?_) hs hpl))
  obtain ⟨a, b, xs, ys, ex, hqx, hqy, q⟩ := q1
  subst ex
  cases r1 with
  | cons r rr =>
    cases rr with
    | cons r' rr =>
      cases rr
      cases r
      cases r'
      obtain ⟨its, rv, p1, _⟩ := I1.tuple hqx
      obtain ⟨its2, rv2, p2, _⟩ := I1.tuple hqy
      have la : a < s1.heap.objs.size := by obtain ⟨_, e, _⟩ := id p1; exact Heap.lt_size e
      have lb : b < s1.heap.objs.size := by obtain ⟨_, e, _⟩ := id p2; exact Heap.lt_size e
      refine zip_begins2 (begins_tuple a its.toArray) (begins_tuple b its2.toArray) p1 p2 fun h' hz hTI hTO h1 h2 hsz hk => wpAny_pyIter_zip hz ?_
      have I2 : Inv X pins σ H1 { s1 with heap := h' } := I1.kept (t' := s1.toks) hk
      have S := zip_sep2 (N := s1.heap.objs.size) (fp1 := [a]) (fp2 := [b]) (fun c hc => by rw [List.mem_singleton.mp hc]; exact la) (fun c hc => by rw [List.mem_singleton.mp hc]; exact lb)
      refine ⟨s1.heap.objs.size + 4, [s1.heap.objs.size + 4, s1.heap.objs.size + 2, s1.heap.objs.size + 3, s1.heap.objs.size, s1.heap.objs.size + 1], _, _, H1, rfl, I2, turn_zipT S, ⟨hz, hTI, ⟨_, _, hTO⟩, ⟨_, h1, rfl, rfl⟩, ⟨_, h2, rfl, rfl⟩⟩, fun c hcm => ?_, q⟩
      have hle : s1.heap.objs.size ≤ c := by
        simp only [List.mem_cons, List.not_mem_nil, or_false] at hcm
        rcases hcm with z | z | z | z | z <;> rw [z] <;> first | exact Nat.le_add_right _ _ | exact Nat.le_refl _
      exact I1.fpOk hle (I1.hok.fresh hle)
end Mp
set_option Elab.async false
set_option linter.all false
set_option autoImplicit false
set_option maxRecDepth 100000
set_option maxHeartbeats 4000000
/-! Mp: enumerate of a tuple, of a text -/
namespace Mp
open PySem PySem.Spec L2
open PyProof.Rows hiding St

/-- the tuple at a, each item in a new pair with its number -/
def Iet (K : PySem.W.Frag) (a : Addr) (n : Nat) : It :=
  ⟨fun i H => i < n ∧ ∃ xs : List V, SqT K H a xs ∧ n = xs.length,
    fun i H v H' => ∃ T x, v = .ref T ∧ H T = none ∧ H' = upd H T (.tup [.int (i : Nat), x]) ∧ ∀ xs, SqT K H a xs → xs[i]? = some x,
    fun i H => i = n ∧ ∃ xs : List V, SqT K H a xs ∧ n = xs.length⟩
/-- the text z, sign by sign -/
def Ies (z : Str) : It :=
  ⟨fun i H => i < z.cps.size,
    fun i H v H' => ∃ T c, v = .ref T ∧ H T = none ∧ H' = upd H T (.tup [.int (i : Nat), .str ⟨#[c]⟩]) ∧ z.cps[i]? = some c,
    fun i H => i = z.cps.size⟩
abbrev EtSt (e it a : Addr) (i : Nat) (h : Heap) : Prop := (∃ old, IsEnum h e it (0 + (i : Int)) old) ∧ h.IsTupleIter it a i ∧ e ≠ it
abbrev EsSt (e it : Addr) (z : Str) (i : Nat) (h : Heap) : Prop := (∃ old, IsEnum h e it (0 + (i : Int)) old) ∧ (∃ t, h.IsStrIter it (strIterType z) z t i) ∧ e ≠ it
theorem ty_ne {t u : String} (h : t ≠ u) : (Value.type t) ≠ .type u := fun z => h (by injection z)
theorem turn_enumT {P : Program} {w : World} {K : PySem.W.Frag} {elts : List Expr} {kk : Nat} {tpos : Pos} {a e it : Addr} {n : Nat} :
    Turn P w K (.Tuple elts kk tpos) (Iet K a n) [e, it] e (EtSt e it a) where
  mem := by simp
  obj := fun i h ⟨⟨old, he⟩, ⟨o, ho, hc, hd⟩, _⟩ b hb => by
    simp only [List.mem_cons, List.not_mem_nil, or_false] at hb
    rcases hb with rfl | rfl
    · exact ⟨_, he, fun v q => nomatch q⟩
    · exact ⟨o, ho, fun v q => by rw [hd] at q; cases q⟩
  keep := fun i h h' ⟨⟨old, he⟩, hi, hne⟩ k => ⟨⟨old, k e (by simp) _ he⟩, hi.at fun o q => k it (by simp) o q, hne⟩
  item := by
    intro X hP hw hK hc i pins s σ H E I hf st hg
    subst hP hw hK
    obtain ⟨hi, xs, hq, hn⟩ := hg
    obtain ⟨its, rv, p, _⟩ := I.tuple hq
    have l1 := rv.length
    have hh : X.A.in1.handled = none := I.ok.hd hc
    obtain ⟨he, hit, hne⟩ := st
    have nai : a ≠ it := fun q => by
      obtain ⟨o1, e1, c1, d1⟩ := hit
      obtain ⟨oo, e3, c3, _⟩ := p
      rw [q, e1] at e3; cases e3
      rw [c1] at c3
      injection c3 with c3
      exact absurd c3 (by decide)
    have nae : a ≠ e := fun q => by
      obtain ⟨old, e1⟩ := he
      obtain ⟨oo, e3, c3, _⟩ := p
      rw [q] at e3
      have e1 : s.heap.get? e = some _ := e1
      rw [e1] at e3; cases e3
      injection c3 with c3
      exact absurd c3 (by decide)
    have W := GoesN.enumFrom (prog := X.prog) (w := X.w) (A := X.A) (elts := elts) (x1 := kk) (pos := tpos) 0 (Draws.tuple hh it a nai its.toArray) e hne (by simp [hne, Ne.symm nae]) (by simp)
    have hlt : ∀ c ∈ [e, it], c < s.heap.objs.size := fun c hcm => by
      simp only [List.mem_cons, List.not_mem_nil, or_false] at hcm
      obtain ⟨old, he⟩ := he
      obtain ⟨_, e1, _⟩ := hit
      rcases hcm with rfl | rfl
      · exact Heap.lt_size he
      · exact Heap.lt_size e1
    refine wpAny_mono (W.goes i s (fun u s2 => ∃ x H', Inv X pins σ H' s2 ∧ RelV x u ∧ (Iet X.K a n).yld i H x H' ∧ EtSt e it a (i + 1) s2.heap ∧ ∀ b ∈ [e, it], H' b = none) E (by rw [List.size_toArray, ← l1, ← hn]; exact hi)
      ⟨he, hit, p⟩ fun v h' tk hY st' hk _ => ?_) (fun r s1 hr => ?_) fun _ _ q => q
    · obtain ⟨T, t, x, rfl, hT, hx, hTup⟩ := hY
      obtain ⟨he', hit', _⟩ := st'
      obtain ⟨xv, ex, rx⟩ := vals_back rv (by simpa using hx)
      rw [Int.zero_add] at hTup
      have new : ObjOk X.prog X.w (upd H T (.tup [.int (i : Nat), xv])) h' T (.tup [.int (i : Nat), xv]) := ⟨by show 2 ≤ sizeLine; decide, [_, x], .cons ⟨_, rfl⟩ (.cons rx .nil), hTup⟩
      have I1 : Inv X pins σ (upd H T (.tup [.int (i : Nat), xv])) { s with heap := h', toks := tk } :=
        I.turnedNew (ch := [e, it]) (fun c o hb q => hk c o hb q) hf hT new
      refine ⟨.ref T, _, I1, rfl, ⟨T, xv, rfl, I.hok.fresh hT, rfl, fun l hl => by rw [I.tuple_inj hl hq]; exact ex⟩, ⟨he', hit', hne⟩, fun c hcm => ?_⟩
      rw [upd_ne (Nat.ne_of_lt (Nat.lt_of_lt_of_le (hlt c hcm) hT))]
      exact (hf c hcm).1
    · obtain ⟨v, e, q⟩ := hr
      exact ⟨v, e, q⟩
  done := by
    intro X hP hw hK hc i pins s σ H E I hf st hg
    subst hP hw hK
    obtain ⟨rfl, xs, hq, hn⟩ := hg
    obtain ⟨its, rv, p, _⟩ := I.tuple hq
    have l1 := rv.length
    have hh : X.A.in1.handled = none := I.ok.hd hc
    obtain ⟨he, hit, hne⟩ := st
    have nai : a ≠ it := fun q => by
      obtain ⟨o1, e1, c1, d1⟩ := hit
      obtain ⟨oo, e3, c3, _⟩ := p
      rw [q, e1] at e3; cases e3
      rw [c1] at c3
      injection c3 with c3
      exact absurd c3 (by decide)
    have nae : a ≠ e := fun q => by
      obtain ⟨old, e1⟩ := he
      obtain ⟨oo, e3, c3, _⟩ := p
      rw [q] at e3
      have e1 : s.heap.get? e = some _ := e1
      rw [e1] at e3; cases e3
      injection c3 with c3
      exact absurd c3 (by decide)
    have W := GoesN.enumFrom (prog := X.prog) (w := X.w) (A := X.A) (elts := elts) (x1 := kk) (pos := tpos) 0 (Draws.tuple hh it a nai its.toArray) e hne (by simp [hne, Ne.symm nae]) (by simp)
    have en : its.toArray.size = i := by rw [List.size_toArray, ← l1]; exact hn.symm
    refine W.stops s (fun s1 => Inv X pins σ H s1) E (by rw [en]; exact ⟨he, hit, p⟩) fun h' tk hk _ => ?_
    exact I.turnedL (ch := [e, it]) (fun c o hb q => hk c o hb q) hf
  self := fun A i s Q E st h => let ⟨⟨_, he⟩, _⟩ := st; wpAny_pyIter_enum he h
theorem turn_enumS {P : Program} {w : World} {K : PySem.W.Frag} {elts : List Expr} {kk : Nat} {tpos : Pos} {e it : Addr} {z : Str} :
    Turn P w K (.Tuple elts kk tpos) (Ies z) [e, it] e (EsSt e it z) where
  mem := by simp
  obj := fun i h ⟨⟨old, he⟩, ⟨t, o, ho, hc, hd⟩, _⟩ b hb => by
    simp only [List.mem_cons, List.not_mem_nil, or_false] at hb
    rcases hb with rfl | rfl
    · exact ⟨_, he, fun v q => nomatch q⟩
    · exact ⟨o, ho, fun v q => by rw [hd] at q; cases q⟩
  keep := fun i h h' ⟨⟨old, he⟩, ⟨t, o, ho, r⟩, hne⟩ k => ⟨⟨old, k e (by simp) _ he⟩, ⟨t, o, k it (by simp) _ ho, r⟩, hne⟩
  item := by
    intro X hP hw hK hc i pins s σ H E I hf st hg
    subst hP hw hK
    have hi : i < z.cps.size := hg
    have hh : X.A.in1.handled = none := I.ok.hd hc
    obtain ⟨he, ⟨t, hit⟩, hne⟩ := st
    have W := GoesN.enumFrom (prog := X.prog) (w := X.w) (A := X.A) (elts := elts) (x1 := kk) (pos := tpos) 0 (Draws.text hh it z t) e hne (by simp [hne]) (by simp)
    have hlt : ∀ c ∈ [e, it], c < s.heap.objs.size := fun c hcm => by
      simp only [List.mem_cons, List.not_mem_nil, or_false] at hcm
      obtain ⟨old, he⟩ := he
      obtain ⟨_, e1, _⟩ := hit
      rcases hcm with rfl | rfl
      · exact Heap.lt_size he
      · exact Heap.lt_size e1
    refine wpAny_mono (W.goes i s (fun u s2 => ∃ x H', Inv X pins σ H' s2 ∧ RelV x u ∧ (Ies z).yld i H x H' ∧ EsSt e it z (i + 1) s2.heap ∧ ∀ b ∈ [e, it], H' b = none) E hi
      ⟨he, hit⟩ fun v h' tk hY st' hk _ => ?_) (fun r s1 hr => ?_) fun _ _ q => q
    · obtain ⟨T, t', x, rfl, hT, ⟨c, u, hx, rfl⟩, hTup⟩ := hY
      obtain ⟨he', hit'⟩ := st'
      rw [Int.zero_add] at hTup
      have new : ObjOk X.prog X.w (upd H T (.tup [.int (i : Nat), .str ⟨#[c]⟩])) h' T (.tup [.int (i : Nat), .str ⟨#[c]⟩]) := ⟨by show 2 ≤ sizeLine; decide, [_, _], .cons ⟨_, rfl⟩ (.cons ⟨_, rfl⟩ .nil), hTup⟩
      have I1 : Inv X pins σ (upd H T (.tup [.int (i : Nat), .str ⟨#[c]⟩])) { s with heap := h', toks := tk } :=
        I.turnedNew (ch := [e, it]) (fun c o hb q => hk c o hb q) hf hT new
      refine ⟨.ref T, _, I1, rfl, ⟨T, c, rfl, I.hok.fresh hT, rfl, hx⟩, ⟨he', ⟨t, hit'⟩, hne⟩, fun c hcm => ?_⟩
      rw [upd_ne (Nat.ne_of_lt (Nat.lt_of_lt_of_le (hlt c hcm) hT))]
      exact (hf c hcm).1
    · obtain ⟨v, e, q⟩ := hr
      exact ⟨v, e, q⟩
  done := by
    intro X hP hw hK hc i pins s σ H E I hf st hg
    subst hP hw hK
    have hg : i = z.cps.size := hg
    subst hg
    have hh : X.A.in1.handled = none := I.ok.hd hc
    obtain ⟨he, ⟨t, hit⟩, hne⟩ := st
    have W := GoesN.enumFrom (prog := X.prog) (w := X.w) (A := X.A) (elts := elts) (x1 := kk) (pos := tpos) 0 (Draws.text hh it z t) e hne (by simp [hne]) (by simp)
    refine W.stops s (fun s1 => Inv X pins σ H s1) E ⟨he, hit⟩ fun h' tk hk _ => ?_
    exact I.turnedL (ch := [e, it]) (fun c o hb q => hk c o hb q) hf
  self := fun A i s Q E st h => let ⟨⟨_, he⟩, _⟩ := st; wpAny_pyIter_enum he h

/-! making them -/
theorem meets_enumerate_newT (l : Addr) (items : Array Value) (n : Nat) (dct : Option Addr) (sl : Array (Option Value)) :
    Meets (Builtin.«enumerate.__new__» ⟨[.type "enumerate", .ref l], []⟩) (fun _ R s => s.heap.get? l = some { cls := .type "tuple", dict := dct, data := .seq items n, slots := sl } ∧
      R (.ok (.ret (.ref (s.heap.push { cls := .type "tuple_iterator", data := .fields #[.ref l, .int 0 0] }).objs.size)))
        { s with heap := (s.heap.push { cls := .type "tuple_iterator", data := .fields #[.ref l, .int 0 0] }).push { cls := .type "enumerate", data := .fields #[.none, .bool false, .ref s.heap.objs.size, rawInt 0, .none, .none] } }) :=
  .of_wp fun prog w A R s h => by
    obtain ⟨hp, g, d, tk, os⟩ := s; obtain ⟨hl, h⟩ := h
    have hsub := sub_enumerate
    have hL : Heap.IsTuple (Shared.heap ⟨hp, g, d, tk, os⟩) l items := ⟨_, hl, rfl, n, rfl⟩
    wp_walk using AutoSeq1.wpAny_loadPart' hl
    refine wpAny_stack_any fun st => wpAny_pure ?_
    split
    · rename_i c _ _ _ _ _
      cases (c == Value.type "enumerate")
      · wp_walk using AutoSeq1.wpAny_loadPart' hl, wpAny_pyIter_tuple hL
        exact ⟨_, rfl, h⟩
      · wp_walk using AutoSeq1.wpAny_loadPart' hl, wpAny_pyIter_tuple hL
        exact ⟨_, rfl, h⟩
    · wp_walk using AutoSeq1.wpAny_loadPart' hl, wpAny_pyIter_tuple hL
      exact ⟨_, rfl, h⟩
section
variable {prog : Program} {w : World} {A : Around} {E : Value → Shared → Prop} {s : Shared}
theorem call_enumerate_tuple {l : Addr} {items : Array Value} {Q : Value → Shared → Prop} (hL : s.heap.IsTuple l items)
    (h : ∀ h', IsEnum h' (s.heap.objs.size + 1) s.heap.objs.size 0 .none → h'.IsTupleIter s.heap.objs.size l 0 → h'.objs.size = s.heap.objs.size + 2 →
      (∀ b o, s.heap.get? b = some o → h'.get? b = some o) → Q (.ref (s.heap.objs.size + 1)) { s with heap := h' }) :
    wpAny (model prog w) A (call (.type "enumerate") [.ref l]) Q E s := by
  obtain ⟨⟨c, dct, dt, sl⟩, hl, hc, n, hd⟩ := hL
  replace hc : c = .type "tuple" := hc
  replace hd : dt = .seq items n := hd
  subst hc hd
  refine callType_new F.called_enumerate (by decide) (F.typeCall_enumerate_1 _) (F.newCall_enumerate_1 _) (fun obj => F.args_object_init_2 obj _) F.entry_enumerate_new
    (meets_enumerate_newT l items n dct sl) ⟨hl, ?_⟩
  have hz : (s.heap.push { cls := .type "tuple_iterator", data := .fields #[.ref l, .int 0 0] }).objs.size = s.heap.objs.size + 1 := Heap.size_push ..
  show _ ∧ _
  rw [hz]
  have he : IsEnum ((s.heap.push { cls := .type "tuple_iterator", data := .fields #[.ref l, .int 0 0] }).push
      { cls := .type "enumerate", data := .fields #[.none, .bool false, .ref s.heap.objs.size, rawInt 0, .none, .none] }) (s.heap.objs.size + 1) s.heap.objs.size 0 .none := by
    have := Heap.get?_push_size (s.heap.push { cls := .type "tuple_iterator", data := .fields #[.ref l, .int 0 0] })
      (o := { cls := .type "enumerate", data := .fields #[.none, .bool false, .ref s.heap.objs.size, rawInt 0, .none, .none] }) rfl
    rw [hz] at this; exact this
  refine ⟨⟨_, he, rfl⟩, h _ he ⟨_, Heap.get?_push_of_some _ (Heap.get?_push_size _ rfl), rfl, rfl⟩ (by rw [Heap.size_push, hz]) fun b o x => Heap.get?_push_of_some _ (Heap.get?_push_of_some _ x)⟩
end
def iEnumT (K : PySem.W.Frag) (ta : TA) : TI := fun σ H R => ta σ H fun vs H1 => ∃ a xs, vs = [.ref a] ∧ SqT K H1 a xs ∧ R (Iet K a xs.length) H1
def iEnumS (ta : TA) : TI := fun σ H R => ta σ H fun vs H1 => ∃ z, vs = [.str z] ∧ R (Ies z) H1
theorem pi_enumT {X : Cx} {e : Expr} {ta : TA} {p pos tpos : Pos} {elts : List Expr} {kk : Nat} (hg : Gl X "enumerate") (hm : X.mg "enumerate" = none) (ha : PA X [e] ta) (hs : starEach [e] X.env = [(false, eval e X.env)] := by rfl) :
    PI X (.Tuple elts kk tpos) (.Call (.Name "enumerate" p) [e] [] pos) (iEnumT X.K ta) := by
  refine ⟨fun pins s σ H R I h => ?_⟩
  refine Call_ (ld_blt I hg hm boot_enumerate (PyProof.Rows.callWith_type1 (thn (ha.run pos pins s σ H _ I h) fun us s1 ⟨vs, H1, I1, r1, q1⟩ => ?_) hs rfl))
  obtain ⟨a, xs, ex, hq, q⟩ := q1
  subst ex
  cases r1 with
  | cons r rr =>
    cases rr
    cases r
    obtain ⟨its, rv, p', hz⟩ := I1.tuple hq
    refine call_enumerate_tuple p' fun h' he hit hsz hk => wpAny_pyIter_enum he ?_
    have I2 : Inv X pins σ H1 { s1 with heap := h' } := I1.kept (t' := s1.toks) hk
    refine ⟨s1.heap.objs.size + 1, [s1.heap.objs.size + 1, s1.heap.objs.size], _, _, H1, rfl, I2, turn_enumT (a := a) (e := s1.heap.objs.size + 1) (it := s1.heap.objs.size) (n := xs.length), ⟨⟨.none, he⟩, hit, Nat.succ_ne_self _⟩, fun b hb => ?_, q⟩
    have e' : b = s1.heap.objs.size + 1 ∨ b = s1.heap.objs.size := by simpa using hb
    have hle : s1.heap.objs.size ≤ b := by
      rcases e' with z | z
      · rw [z]; exact Nat.le_add_right _ _
      · rw [z]; exact Nat.le_refl _
    exact I1.fpOk hle (I1.hok.fresh hle)
theorem pi_enumS {X : Cx} {e : Expr} {ta : TA} {p pos tpos : Pos} {elts : List Expr} {kk : Nat} (hg : Gl X "enumerate") (hm : X.mg "enumerate" = none) (ha : PA X [e] ta) (hs : starEach [e] X.env = [(false, eval e X.env)] := by rfl) :
    PI X (.Tuple elts kk tpos) (.Call (.Name "enumerate" p) [e] [] pos) (iEnumS ta) := by
  refine ⟨fun pins s σ H R I h => ?_⟩
  refine Call_ (ld_blt I hg hm boot_enumerate (PyProof.Rows.callWith_type1 (thn (ha.run pos pins s σ H _ I h) fun us s1 ⟨vs, H1, I1, r1, q1⟩ => ?_) hs rfl))
  obtain ⟨z, ex, q⟩ := q1
  subst ex
  cases r1 with
  | cons r rr =>
    cases rr
    obtain ⟨t, rfl⟩ := r
    refine call_enumerate_str fun h' he hit hsz hk => wpAny_pyIter_enum he ?_
    have I2 : Inv X pins σ H1 { s1 with heap := h' } := I1.kept (t' := s1.toks) hk
    refine ⟨s1.heap.objs.size + 1, [s1.heap.objs.size + 1, s1.heap.objs.size], _, _, H1, rfl, I2, turn_enumS (e := s1.heap.objs.size + 1) (it := s1.heap.objs.size) (z := z), ⟨⟨.none, he⟩, ⟨t, hit⟩, Nat.succ_ne_self _⟩, fun b hb => ?_, q⟩
    have e' : b = s1.heap.objs.size + 1 ∨ b = s1.heap.objs.size := by simpa using hb
    have hle : s1.heap.objs.size ≤ b := by
      rcases e' with z | z
      · rw [z]; exact Nat.le_add_right _ _
      · rw [z]; exact Nat.le_refl _
    exact I1.fpOk hle (I1.hok.fresh hle)
end Mp
set_option Elab.async false
set_option linter.all false
set_option autoImplicit false
set_option maxRecDepth 100000
set_option maxHeartbeats 1000000
/-! Mp: list(reversed(list)), list(range(a, b, c)) -/
namespace Mp
open PySem PySem.Spec L2
open PyProof.Rows hiding St
open RT (nolen_lri hint_lri)

section
variable {prog : Program} {w : World} {A : Around} {E : Value → Shared → Prop} {s : Shared}
theorem init_rev {R : Result → Shared → Prop} {it l S : Addr} {items : Array Value} (hh : A.handled = none) (hit : s.heap.IsRevIter it l ((items.size : Int) - 1)) (hl : s.heap.IsList l items) (hne : l ≠ it) (hn : items.size ≤ sizeLine)
    (hS : s.heap.get? S = some { cls := .type "list", data := .seq #[] })
    (hR : ∀ h' tk acc' c', (∀ b o, b ≠ S → b ≠ it → s.heap.get? b = some o → h'.get? b = some o) → h'.get? S = some { cls := .type "list", dict := none, data := .seq acc' c', slots := #[] } →
      ItemsOf (fun i v => items[items.size - 1 - i]? = some v) acc' items.size → R (.ok (.ret .none)) { s with heap := h', toks := tk }) (hSl : S ≠ l) :
    wpAny (model prog w) A.in1 (Builtin.«list.__init__» ⟨[.ref S, .ref it], []⟩)
      (fun fin s' => match fin with | .done f => R (.ok f) s' | .again c' => c'.quiet = true ∧ codeAny (model prog w) A c' R s') (fun e s' => R (.error e) s') s := by
  have W := (Walks.listRev (prog := prog) (w := w) (A := A.in1) hh it l hne items).toS
  have hTi : s.TypeIs (.ref it) "list_reverseiterator" := hit.typeIs
  have hSi : S ≠ it := fun e => by
    obtain ⟨oi, hoi, hci, _⟩ := id hit
    rw [e, hoi] at hS; cases hS; injection hci with hci; exact absurd hci (by decide)
  have hSf : S ∉ [it, l] := by simp only [List.mem_cons, List.not_mem_nil, or_false, not_or]; exact ⟨hSi, hSl⟩
  show wpAny _ _ (do let old ← Builtin.List.listItems (.ref S); Builtin.List.listUpdate (.ref S) (fun _ => #[]); letGo old.toList.reverse; Builtin.List.listExtendWith (.ref S) (.ref it) .none) _ _ s
  refine wpAny_bind ?_
  unfold Builtin.List.listItems
  refine wpAny_bind (wpAny_seqItems hS rfl (wpAny_pure ?_))
  show wpAny _ _ (updateSeq S (fun _ => #[]) >>= fun _ => letGo (#[] : Array Value).toList.reverse >>= fun _ => Builtin.List.listExtendWith (.ref S) (.ref it) .none) _ _ s
  refine wpAny_bind (wpAny_updateSeq hS rfl ?_)
  have hS₂ := Heap.get?_update_self (Obj.mapSeq (fun _ => (#[] : Array Value))) hS rfl
  have oth : ∀ b o, b ≠ S → s.heap.get? b = some o → (s.heap.update S (Obj.mapSeq (fun _ => (#[] : Array Value)))).get? b = some o :=
    fun b o hb e => (Heap.get?_update_other _ _ (Ne.symm hb)).trans e
  refine wpAny_bind (wpAny_letGo ?_)
  generalize hs2 : ({ s with heap := s.heap.update S (Obj.mapSeq (fun _ => (#[] : Array Value))) } : Shared) = s2
  have e2 : s2.heap = s.heap.update S (Obj.mapSeq (fun _ => (#[] : Array Value))) := by rw [← hs2]
  have hit2 : s2.heap.IsRevIter it l ((items.size : Int) - 1) := hit.at fun o e => by rw [e2]; exact oth it o (Ne.symm hSi) e
  have hl2 : s2.heap.IsList l items := hl.at fun o e => by rw [e2]; exact oth l o (Ne.symm hSl) e
  have hT : s2.TypeIs (.ref it) "list_reverseiterator" := hit2.typeIs
  unfold Builtin.List.listExtendWith
  have h1 : Builtin.List.listSameRef (.ref S) (.ref it) = false := by simp [Builtin.List.listSameRef, hSi]
  refine wpAny_bind (wpAny_typeOf hT ?_)
  rw [if_neg (by rw [h1]; decide)]
  refine wpAny_bind (wpAny_pyIter_revIter hit2 ?_)
  refine wpAny_bind (wpAny_holding ?_)
  unfold Builtin.List.listLengthHint
  refine wpAny_bind (wpAny_specialOf hT nolen_lri ?_)
  show wpAny _ A.in1 (specialOf (Value.ref it) (Str.ofString "__length_hint__") >>= _) _ _ _
  refine wpAny_bind (wpAny_specialOf hT hint_lri ?_)
  generalize hid : ("list_reverseiterator.__length_hint__" : String) = id0
  wp_delta
  rw [show splitId id0 = some ("list_reverseiterator", "__length_hint__") from by subst hid; decide +kernel]
  subst hid
  refine wpAny_bind (wpAny_isInstance (b := true) hT (by rw [isSubtype_type]; kernel_rfl) ?_)
  refine wpAny_pure ?_
  rw [if_neg (by decide)]
  have e0 : ((items.size : Nat) : Int) - 1 - ((0 : Nat) : Int) = (items.size : Int) - 1 := by omega
  refine wpAny_pure ⟨plainId_quiet F.plain_extend_loop _, codeAny_extend_loopS W hn S hSf .none items.size 0 s2 #[] _ rfl (Nat.zero_le _) ⟨Nat.zero_le _, by rw [e0]; exact hit2, hl2⟩ (by rw [e2]; exact hS₂) (ItemsOf.nil _) fun s' acc' c' hm hS' hacc => ?_⟩
  have e3 : s' = { s with heap := s'.heap, toks := s'.toks } := by
    rw [Moved.eq_with hm, ← hs2]
  rw [e3]
  refine hR s'.heap s'.toks acc' c' (fun b o hb hb2 e => hm.heap b o (fun hmem => ?_) (by rw [e2]; exact oth b o hb e)) hS' hacc
  rcases List.mem_cons.mp hmem with e' | hmem
  · exact hb e'
  · exact hb2 (List.mem_singleton.mp hmem)
theorem call_list_revI {it l : Addr} {items : Array Value} {Q : Value → Shared → Prop} (hh : A.handled = none) (hit : s.heap.IsRevIter it l ((items.size : Int) - 1)) (hl : s.heap.IsList l items) (hne : l ≠ it) (hn : items.size ≤ sizeLine)
    (hQ : ∀ h' tk acc' c', (∀ b o, b ≠ it → s.heap.get? b = some o → h'.get? b = some o) → h'.get? s.heap.objs.size = some { cls := .type "list", dict := none, data := .seq acc' c', slots := #[] } →
      ItemsOf (fun i v => items[items.size - 1 - i]? = some v) acc' items.size → Q (.ref s.heap.objs.size) { s with heap := h', toks := tk }) :
    wpAny (model prog w) A (call (.type "list") [.ref it]) Q E s := by
  refine callType_codes (Q₁ := fun obj s₁ => obj = .ref s.heap.objs.size ∧ s₁ = { s with heap := s.heap.push { cls := .type "list", data := .seq #[] } }) F.called_list (F.typeCall_list_1 _) F.entry_list_init
    (code_list_new _ ⟨rfl, rfl⟩) fun obj s₁ h₁ => ?_
  obtain ⟨rfl, rfl⟩ := h₁
  have hS : (s.heap.push { cls := .type "list", data := .seq #[] }).get? s.heap.objs.size = some { cls := .type "list", data := .seq #[] } := Heap.get?_push_size _ rfl
  have lt : l < s.heap.objs.size := by obtain ⟨_, e, _⟩ := id hl; exact Heap.lt_size e
  refine ⟨⟨_, hS, rfl⟩, F.args_list_init_2 _ _, init_rev (A := A.in1) (s := { s with heap := s.heap.push { cls := .type "list", data := .seq #[] } }) hh (hit.at fun o e => Heap.get?_push_of_some _ e) (hl.push _) hne hn hS (fun h' tk acc' c' hk hS' hacc => ?_) (Nat.ne_of_gt lt)⟩
  exact ⟨rfl, hQ h' tk acc' c' (fun b o hb e => hk b o (Nat.ne_of_lt (Heap.lt_size e)) hb (Heap.get?_push_of_some _ e)) hS' hacc⟩
end
def tLstRev (K : PySem.W.Frag) (te : TE) : TE := fun σ H Q => te σ H fun v H1 => ∃ (a : Addr) (xs : List V), v = .ref a ∧ SqL K H1 a xs ∧ ∀ q, H1 q = none → Q (.ref q) (upd H1 q (.lst xs.reverse))
section
variable {X : Cx}
theorem pe_lstRev {e : Expr} {te : TE} {p p2 pos pos2 : Pos} (hc : X.calm = true) (hg : Gl X "list") (hm : X.mg "list" = none) (hg2 : Gl X "reversed") (hm2 : X.mg "reversed" = none) (he : PE X e te)
    (hs : starEach [e] X.env = (false, eval e X.env) :: starEach [] X.env := by rfl)
    (hs2 : starEach [.Call (.Name "reversed" p2) [e] [] pos2] X.env = (false, eval (.Call (.Name "reversed" p2) [e] [] pos2) X.env) :: starEach [] X.env := by rfl) :
    PE X (.Call (.Name "list" p) [.Call (.Name "reversed" p2) [e] [] pos2] [] pos) (tLstRev X.K te) := by
  refine ⟨fun pins s σ H Q I h => ?_⟩
  refine Call_ (ld_blt I hg hm boot_list (PyProof.Rows.callWith_type1 (args_cons (Call_ (ld_blt I hg2 hm2 PyProof.Rows.boot_reversed (PyProof.Rows.callWith_type1 (args_cons (thn (he.run pins s σ H _ I h) fun u s1 ⟨v, H1, I1, r1, q1⟩ => args_nil ?_) hs) hs rfl))) hs2) hs2 rfl))
  obtain ⟨a, xs, ev, hq, q⟩ := q1
  subst ev
  obtain rfl : u = Value.ref a := r1
  obtain ⟨its, rv, p', hz⟩ := I1.list hq
  refine call_reversed_list p'.isList (args_nil ?_)
  have I2 : Inv X pins σ H1 { s1 with heap := s1.heap.push (revObj a ((its.toArray.size : Int) - 1)) } := I1.kept (t' := s1.toks) fun b o e => Heap.get?_push_of_some _ e
  have hl := p'.isList
  have hne : a ≠ s1.heap.objs.size := by obtain ⟨ol, hol, _⟩ := id hl; exact Nat.ne_of_lt (Heap.lt_size hol)
  have hn : its.toArray.size ≤ sizeLine := by rw [List.size_toArray, ← rv.length]; exact hz
  generalize hs2 : ({ s1 with heap := s1.heap.push (revObj a ((its.toArray.size : Int) - 1)) } : Shared) = s2 at I2
  have e2 : s2.heap = s1.heap.push (revObj a ((its.toArray.size : Int) - 1)) := by rw [← hs2]
  have hsz : s2.heap.objs.size = s1.heap.objs.size + 1 := by rw [e2, Heap.size_push]
  show wpAny _ _ (call (.type "list") [.ref s1.heap.objs.size]) _ _ s2
  have hit : s2.heap.IsRevIter s1.heap.objs.size a ((its.toArray.size : Int) - 1) := by rw [e2]; exact ⟨_, Heap.get?_push_size _ rfl, rfl, rfl⟩
  obtain ⟨f0, f1, f2, f3, f4, f5⟩ := I1.fpOk (H' := H1) (b := s1.heap.objs.size) (Nat.le_refl _) (I1.hok.fresh (Nat.le_refl _))
  refine call_list_revI (I1.ok.hd hc) hit (by rw [e2]; exact hl.push _) hne hn fun h' tk acc c' hk e' hi => ?_
  have kk : ∀ b o, b ≠ s1.heap.objs.size → s2.heap.get? b = some o → h'.get? b = some o := fun b o hb e => hk b o hb e
  have I3 : Inv X pins σ H1 { s2 with heap := h', toks := tk } := I2.turned (t' := tk) kk f0 f1 f3 f4 f5
  have hfr : H1 s2.heap.objs.size = none := I2.hok.fresh (Nat.le_refl _)
  refine ⟨.ref s2.heap.objs.size, upd H1 s2.heap.objs.size (.lst xs.reverse), ?_, rfl, q _ hfr⟩
  refine I2.turnedNew (t' := tk) (ch := [s1.heap.objs.size]) (fun b o hb e => kk b o (fun z => hb (by simp [z])) e) (fun b hb => ?_) (Nat.le_refl _) ?_
  · rw [List.mem_singleton.mp hb]
    exact ⟨f0, f1, f2, f3, f4, f5⟩
  · refine ⟨by rw [List.length_reverse]; exact hz, acc.toList, c', RT.vals_rev rv hi, ?_⟩
    rw [Array.toArray_toList]
    exact e'
/-- the ints lo, lo + c, .. -/
def rcV (lo c : Int) (n : Nat) : List V := (List.range n).map fun i => V.int (lo + (i : Nat) * c)
def tLstRg3 (ta : TA) : TE := fun σ H Q => ta σ H fun vs H1 => ∃ (i j c : Int) (n : Nat), vs = [.int i, .int j, .int c] ∧ RgC i j c n ∧ n ≤ 2 ^ 24 ∧ ∀ q, H1 q = none → Q (.ref q) (upd H1 q (.lst (rcV i c n)))
theorem pe_listRg3 {a b c : Expr} {ta : TA} {p p2 pos pos2 : Pos} (hc : X.calm = true) (hg : Gl X "list") (hm : X.mg "list" = none) (hg2 : Gl X "range") (hm2 : X.mg "range" = none) (ha : PA X [a, b, c] ta)
    (hs : starEach [a, b, c] X.env = (false, eval a X.env) :: starEach [b, c] X.env := by rfl) (hpl : (backTo pos2 (starEach [b, c] X.env)).any (·.1) = false := by rfl)
    (hs2 : starEach [.Call (.Name "range" p2) [a, b, c] [] pos2] X.env = (false, eval (.Call (.Name "range" p2) [a, b, c] [] pos2) X.env) :: starEach [] X.env := by rfl) :
    PE X (.Call (.Name "list" p) [.Call (.Name "range" p2) [a, b, c] [] pos2] [] pos) (tLstRg3 ta) := by
  refine ⟨fun pins s σ H Q I h => ?_⟩
  refine Call_ (ld_blt I hg hm boot_list (PyProof.Rows.callWith_type1 (args_cons (Call_ (ld_blt I hg2 hm2 boot_range (PyProof.Rows.callWith_type1 (thn (ha.run pos2 pins s σ H _ I h) fun us s1 ⟨vs, H1, I1, r1, q1⟩ => ?_) hs hpl))) hs2) hs2 rfl))
  obtain ⟨i, j, k, n, e, ⟨c0, c1, c2, c3⟩, hn, q⟩ := q1
  subst e
  cases r1 with
  | cons r rr =>
    cases rr with
    | cons r' rr =>
      cases rr with
      | cons r'' rr =>
        cases rr
        obtain ⟨t, rfl⟩ := r
        obtain ⟨t', rfl⟩ := r'
        obtain ⟨t'', rfl⟩ := r''
        refine call_range_3 c0 (args_nil ?_) (.inl (PyProof.noPylong_small c1))
        have I2 : Inv X pins σ H1 { s1 with heap := s1.heap.push { cls := .type "range", data := .fields #[.int i t, .int j t', .int k t''] } } := I1.kept (t' := s1.toks) fun b o e => Heap.get?_push_of_some _ e
        refine call_list_range (n := n) (I1.ok.hd hc) (IsRange.new ..) c2 c3 hn fun h' tk acc c' hk e' hi => ?_
        generalize hs3 : ({ s1 with heap := s1.heap.push { cls := .type "range", data := .fields #[.int i t, .int j t', .int k t''] } } : Shared) = s3 at *
        refine ⟨.ref s3.heap.objs.size, upd H1 s3.heap.objs.size (.lst (rcV i k n)), I2.laid hk (Nat.le_refl _) ?_, rfl, q _ (I2.hok.fresh (Nat.le_refl _))⟩
        refine ⟨by unfold rcV; rw [List.length_map, List.length_range, sizeLine_eq]; omega, acc.toList, c', ?_, by rw [Array.toArray_toList]; exact e'⟩
        unfold rcV
        have en : acc.toList.length = n := by rw [Array.length_toList]; exact hi.1
        rw [← en]
        refine vals_of_get acc.toList _ fun j u hj => ?_
        obtain ⟨t, rfl⟩ := hi.2 j u (by rw [← hj, Array.getElem?_toList])
        exact ⟨t, rfl⟩
end
end Mp
set_option Elab.async false
set_option linter.all false
set_option autoImplicit false
set_option maxRecDepth 100000
set_option maxHeartbeats 1000000
/-! Mp, part 6: expressions read by plain functions -/
namespace Mp
open PySem PySem.Spec L2
open PyProof.Rows hiding St

variable {K : PySem.W.Frag} {T : List Addr}

def bnd {α : Type} (r : Option (α × Hs)) {β : Type} (k : α → Hs → Option β) : Option β := r.bind fun p => k p.1 p.2
theorem Lift.bnd {w : Wd} {r : Rs} {k : D → Hs → Rs} {Q : V → Hp → Prop} (h : Lift K T w (Mp.bnd r k) Q) :
    ∃ d G1, r = some (d, G1) ∧ ∀ w' v, Ex2 K w w' → Rel K T w' G1 → RV K w' d v → Lift K T w' (k d G1) Q := by
  cases r with
  | none => exact h.no
  | some p => exact ⟨p.1, p.2, rfl, fun w' v x _ _ => Lift.from x h⟩
abbrev Fn := Env' → Hs → Rs
/-- PE is the weaker, the stronger its reading -/
theorem _root_.L2.PE.imp {X : Cx} {e : Expr} {t t' : TE} (h : PE X e t) (m : ∀ σ H Q, t' σ H Q → t σ H Q) : PE X e t' := ⟨fun pins s σ H Q I q => h.run pins s σ H Q I (m σ H Q q)⟩
theorem _root_.L2.PT.imp {X : Cx} {e : Expr} {t t' : TT} (h : PT X e t) (m : ∀ σ H Q, t' σ H Q → t σ H Q) : PT X e t' := ⟨fun pins s σ H Q I q => h.run pins s σ H Q I (m σ H Q q)⟩
theorem _root_.L2.PA.imp {X : Cx} {e : List Expr} {t t' : TA} (h : PA X e t) (m : ∀ σ H Q, t' σ H Q → t σ H Q) : PA X e t' := ⟨fun pos pins s σ H Q I q => h.run pos pins s σ H Q I (m σ H Q q)⟩
theorem _root_.L2.PS.imp {X : Cx} {e : Stmt} {t t' : TS} (h : PS X e t) (m : ∀ D σ H, t' D σ H → t D σ H) : PS X e t' := ⟨fun pins s σ H D I q => h.run pins s σ H D I (m D σ H q)⟩
theorem _root_.L2.PSs.imp {X : Cx} {e : List Stmt} {t t' : TS} (h : PSs X e t) (m : ∀ D σ H, t' D σ H → t D σ H) : PSs X e t' := ⟨fun pins s σ H D I q => h.run pins s σ H D I (m D σ H q)⟩

/-- argument lists: the plain value is the tuple of them -/
def LiftL (K : PySem.W.Frag) (T : List Addr) (w : Wd) (r : Rs) (Q : List V → Hp → Prop) : Prop :=
  ∃ ds G', r = some (.tup ds, G') ∧ ∀ w' vs, Ex2 K w w' → Rel K T w' G' → RVs K w' ds vs → Q vs w'.H
def LA (K : PySem.W.Frag) (T : List Addr) (f : Fn) : TA := fun σ H Q =>
  ∃ ι F ς G, Rel K T ⟨ι, F, H⟩ G ∧ RS K ⟨ι, F, H⟩ ς σ ∧ LiftL K T ⟨ι, F, H⟩ (f ς G) Q
/-- tests -/
def LiftB (K : PySem.W.Frag) (T : List Addr) (w : Wd) (r : Option (Bool × Hs)) (Q : Bool → Hp → Prop) : Prop :=
  ∃ b G', r = some (b, G') ∧ ∀ w', Ex2 K w w' → Rel K T w' G' → Q b w'.H
def LT (K : PySem.W.Frag) (T : List Addr) (f : Env' → Hs → Option (Bool × Hs)) : TT := fun σ H Q =>
  ∃ ι F ς G, Rel K T ⟨ι, F, H⟩ G ∧ RS K ⟨ι, F, H⟩ ς σ ∧ LiftB K T ⟨ι, F, H⟩ (f ς G) Q

section
variable {X : Cx} {a b c : Expr} {es : List Expr} {f g h3 : Fn} {pos : Pos}

/-! names and constants -/
theorem le_v {i : Nat} {x : Str} (hN : X.N[i]? = some x) (hv : Vis X.env.scope x) (hd : (x == ("__debug__" : Str)) = false) (hcd : (x == ("__classdict__" : Str)) = false) :
    PE X (.Name x pos) (LE X.K T fun ς G => (ς[i]?).bind fun o => o.bind fun d => some (d, G)) := by
  refine (pe_var hN hv hd hcd).imp fun σ H Q ⟨ι, F, ς, G, R, S, h⟩ => ?_
  obtain ⟨o, e1, h⟩ := h.ofBind
  obtain ⟨d, e2, h⟩ := h.ofBind
  subst e2
  obtain ⟨v, e3, r⟩ := S.at_ i d e1
  exact ⟨v, e3, h.now R r⟩
/-- a constant's plain value -/
inductive CV : D → V → Prop where
  | non : CV .non .non
  | bl (b : Bool) : CV (.bl b) (.bl b)
  | int (i : Int) : CV (.int i) (.int i)
  | str (cs : List Nat) : CV (.str cs) (.str ⟨cs.toArray⟩)
theorem CV.rv {w : Wd} {d : D} {v : V} (h : CV d v) : RV K w d v := by cases h <;> rfl
theorem le_c {e : Expr} {d : D} {v : V} (he : PE X e (tC v)) (c : CV d v) : PE X e (LE X.K T fun _ G => some (d, G)) :=
  he.imp fun σ H Q ⟨ι, F, ς, G, R, S, h⟩ => h.now R c.rv

/-! operations -/
theorem le_2 {o : D → D → Hs → Rs} {e : Expr} (he : PE X e (tOp (r2 X.K T o) (LE X.K T f) (LE X.K T g))) :
    PE X e (LE X.K T fun ς G => bnd (f ς G) fun x G1 => bnd (g ς G1) fun y G2 => o x y G2) := by
  refine he.imp fun σ H Q ⟨ι, F, ς, G, R, S, h⟩ => ?_
  obtain ⟨x, G1, e1, h⟩ := h.bnd
  refine ⟨ι, F, ς, G, R, S, x, G1, e1, fun w1 xv x1 R1 r1 => ?_⟩
  obtain ⟨y, G2, e2, h2⟩ := (h w1 xv x1 R1 r1).bnd
  refine ⟨w1.ι, w1.F, ς, G1, R1, S.ext x1.toExt, y, G2, e2, fun w2 yv x2 R2 r2' => ?_⟩
  exact ⟨w2.ι, w2.F, G2, x, y, R2, RV.ext x2.toExt _ _ r1, r2', h2 w2 yv x2 R2 r2'⟩
theorem le_1 {o : D → Hs → Rs} {e : Expr} (he : PE X e (tUn (r1 X.K T o) (LE X.K T f))) : PE X e (LE X.K T fun ς G => bnd (f ς G) o) := by
  refine he.imp fun σ H Q ⟨ι, F, ς, G, R, S, h⟩ => ?_
  obtain ⟨x, G1, e1, h⟩ := h.bnd
  refine ⟨ι, F, ς, G, R, S, x, G1, e1, fun w1 xv x1 R1 r1 => ?_⟩
  exact ⟨w1.ι, w1.F, G1, x, R1, r1, h w1 xv x1 R1 r1⟩
theorem le_bin (o : Bop) (ha : PE X a (LE X.K T f)) (hb : PE X b (LE X.K T g)) : PE X (.BinOp a o.py b pos) (LE X.K T fun ς G => bnd (f ς G) fun x G1 => bnd (g ς G1) fun y G2 => binD o x y G2) :=
  le_2 (pe_op (op_bin o) ha hb)
theorem le_catM (ha : PE X a (LE X.K T f)) (hb : PE X b (LE X.K T g)) : PE X (.BinOp a .Add b pos) (LE X.K T fun ς G => bnd (f ς G) fun x G1 => bnd (g ς G1) fun y G2 => catM x y G2) :=
  le_2 (pe_op op_catM ha hb)
theorem le_repM (ha : PE X a (LE X.K T f)) (hb : PE X b (LE X.K T g)) : PE X (.BinOp a .Mult b pos) (LE X.K T fun ς G => bnd (f ς G) fun x G1 => bnd (g ς G1) fun y G2 => repM x y G2) :=
  le_2 (pe_op op_repM ha hb)
def negD (d : D) (G : Hs) : Rs := match d with | .int i => some (.int (-i), G) | _ => none
theorem le_neg (ha : PE X a (LE X.K T f)) : PE X (.UnaryOp .USub a pos) (LE X.K T fun ς G => bnd (f ς G) negD) := le_1 (pe_un un_negD ha)
theorem le_cmp (hu : X.A.units + 65 < cLine) (o : Cop) (ha : PE X a (LE X.K T f)) (hb : PE X b (LE X.K T g)) (hm : behindInMarks o.py b = false) :
    PE X (.Compare a [o.py] [b] pos) (LE X.K T fun ς G => bnd (f ς G) fun x G1 => bnd (g ς G1) fun y G2 => cmpD o x y G2) :=
  le_2 (pe_cmpR (op_cmp hu o) ha hb hm)
def chainD (f g h3 : Fn) (o o' : Cop) (ς : Env') (G : Hs) : Rs :=
  bnd (f ς G) fun x G1 => bnd (g ς G1) fun y G2 => (cmpB o x y G2).bind fun b => if b then bnd (h3 ς G2) fun z G3 => cmpD o' y z G3 else some (.bl false, G2)
theorem chain_in (hu : X.A.units + 65 < cLine) (o o' : Cop) {σ : L2.St} {H : Hp} {Q : VK} (h : LE X.K T (chainD f g h3 o o') σ H Q) : tChain (r2 X.K T (cmpD o)) (r2 X.K T (cmpD o')) (LE X.K T f) (LE X.K T g) (LE X.K T h3) σ H Q := by
  obtain ⟨ι, F, ς, G, R, S, h⟩ := h
  obtain ⟨x, G1, e1, h⟩ := h.bnd
  refine ⟨ι, F, ς, G, R, S, x, G1, e1, fun w1 xv x1 R1 r1 => ?_⟩
  obtain ⟨y, G2, e2, h2⟩ := (h w1 xv x1 R1 r1).bnd
  refine ⟨w1.ι, w1.F, ς, G1, R1, S.ext x1.toExt, y, G2, e2, fun w2 yv x2 R2 r2' => ?_⟩
  obtain ⟨b, eb, h3'⟩ := (h2 w2 yv x2 R2 r2').ofBind
  refine ⟨w2.ι, w2.F, G2, x, y, R2, RV.ext x2.toExt _ _ r1, r2', .bl b, G2, by unfold cmpD; rw [eb]; rfl, fun w3 v x3 R3 rv => ?_⟩
  refine ⟨b, rv, ?_⟩
  cases b with
  | false => exact h3'.to x3 R3 rfl
  | true =>
    have h3'' : Lift X.K T w2 (bnd (h3 ς G2) fun z G3 => cmpD o' y z G3) Q := h3'
    obtain ⟨z, G3, e3, h4⟩ := h3''.bnd
    refine ⟨w3.ι, w3.F, ς, G2, R3, (S.ext x1.toExt).ext (x2.toExt.trans x3.toExt), z, G3, e3, fun w4 zv x4 R4 rz => ?_⟩
    exact ⟨w4.ι, w4.F, G3, y, z, R4, RV.ext (x3.toExt.trans x4.toExt) _ _ r2', rz, h4 w4 zv (x3.trans x4) R4 rz⟩
theorem le_chain (hu : X.A.units + 65 < cLine) (o o' : Cop) (ha : PE X a (LE X.K T f)) (hb : PE X b (LE X.K T g)) (hc : PE X c (LE X.K T h3)) (hm : lastMarks [o.py, o'.py] [b, c] = false) :
    PE X (.Compare a [o.py, o'.py] [b, c] pos) (LE X.K T (chainD f g h3 o o')) :=
  (pe_chain (op_cmp hu o) (op_cmp hu o') ha hb hc hm).imp fun σ H Q h => chain_in hu o o' h

/-! a value as a test -/
def blB (r : Rs) : Option (Bool × Hs) := bnd r fun d G => match d with | .bl b => some (b, G) | _ => none
theorem bnd_eq {α β : Type} {r : Option (α × Hs)} {k : α → Hs → Option β} {b : β} (h : bnd r k = some b) : ∃ x G, r = some (x, G) ∧ k x G = some b := by
  cases r with
  | none => cases h
  | some p => exact ⟨p.1, p.2, rfl, h⟩
theorem blB_eq {r : Rs} {b : Bool} {G : Hs} (h : blB r = some (b, G)) : r = some (.bl b, G) := by
  unfold blB bnd at h
  cases r with
  | none => cases h
  | some p =>
    obtain ⟨d, G1⟩ := p
    cases d <;> first | (cases h; done) | (cases h; rfl)
theorem lt_blB {e : Expr} (he : PT X e (tTest (LE X.K T f))) : PT X e (LT X.K T fun ς G => blB (f ς G)) := by
  refine he.imp fun σ H Q ⟨ι, F, ς, G, R, S, b, G', e, h⟩ => ?_
  exact ⟨ι, F, ς, G, R, S, _, _, blB_eq e, fun w' v x R' r => ⟨_, r, h w' x R'⟩⟩
theorem tTest_of {t : TE} {t' : TE} {σ : L2.St} {H : Hp} {Q : Bool → Hp → Prop} (m : ∀ σ H Q, t' σ H Q → t σ H Q) (h : tTest t' σ H Q) : tTest t σ H Q := m _ _ _ h
theorem lt_cmp (hu : X.A.units + 65 < cLine) (o : Cop) (ha : PE X a (LE X.K T f)) (hb : PE X b (LE X.K T g)) (hm : behindInMarks o.py b = false) :
    PT X (.Compare a [o.py] [b] pos) (LT X.K T fun ς G => blB (bnd (f ς G) fun x G1 => bnd (g ς G1) fun y G2 => cmpD o x y G2)) := by
  refine lt_blB (f := fun ς G => bnd (f ς G) fun x G1 => bnd (g ς G1) fun y G2 => cmpD o x y G2) ((pt_cmpR (op_cmp (T := T) hu o) ha hb hm).imp fun σ H Q h => ?_)
  obtain ⟨ι, F, ς, G, R, S, h⟩ := h
  obtain ⟨x, G1, e1, h⟩ := h.bnd
  refine ⟨ι, F, ς, G, R, S, x, G1, e1, fun w1 xv x1 R1 r1 => ?_⟩
  obtain ⟨y, G2, e2, h2⟩ := (h w1 xv x1 R1 r1).bnd
  refine ⟨w1.ι, w1.F, ς, G1, R1, S.ext x1.toExt, y, G2, e2, fun w2 yv x2 R2 r2' => ?_⟩
  exact ⟨w2.ι, w2.F, G2, x, y, R2, RV.ext x2.toExt _ _ r1, r2', h2 w2 yv x2 R2 r2'⟩
theorem lt_chain (hu : X.A.units + 65 < cLine) (o o' : Cop) (ha : PE X a (LE X.K T f)) (hb : PE X b (LE X.K T g)) (hc : PE X c (LE X.K T h3)) (hm : lastMarks [o.py, o'.py] [b, c] = false) :
    PT X (.Compare a [o.py, o'.py] [b, c] pos) (LT X.K T fun ς G => blB (chainD f g h3 o o' ς G)) :=
  lt_blB (f := chainD f g h3 o o') ((pt_chain (op_cmp (T := T) hu o) (op_cmp (T := T) hu o') ha hb hc hm).imp fun σ H Q h => chain_in hu o o' h)
/-- the truth of a plain value -/
def truD (d : D) (G : Hs) : Option (Bool × Hs) := match d with
  | .non => some (false, G)
  | .bl b => some (b, G)
  | .int i => some (i != 0, G)
  | .str cs => if cs.length ≤ sizeLine then some ((cs.length : Int) != 0, G) else none
  | d => (seqOf G d).bind fun ds => some (!ds.isEmpty, G)
theorem RVs.empty {w : Wd} {ds : List D} {vs : List V} (h : RVs K w ds vs) : ds.isEmpty = vs.isEmpty := by
  have := h.len
  cases ds <;> cases vs <;> simp_all
theorem truD_at {w : Wd} {G : Hs} (R : Rel K T w G) {d : D} {v : V} (r : RV K w d v) {b : Bool} {G' : Hs} (e : truD d G = some (b, G')) : TruV K v w.H b ∧ G' = G := by
  have seq : (seqOf G d).bind (fun ds => some (!ds.isEmpty, G)) = some (b, G') → TruV K v w.H b ∧ G' = G := by
    intro e
    cases es : seqOf G d with
    | none => rw [es] at e; cases e
    | some ds =>
      rw [es] at e; cases e
      obtain ⟨a, vs, rfl, h1, h2⟩ := seqOf_at R r es
      refine ⟨?_, rfl⟩
      rcases h1 with h1 | h1
      · exact .inl ⟨vs, h1, by rw [h2.empty]⟩
      · exact .inr (.inl ⟨vs, h1, by rw [h2.empty]⟩)
  cases d with
  | non => cases e; rw [show v = V.non from r]; exact ⟨rfl, rfl⟩
  | bl _ => cases e; rw [rv_bl r]; exact ⟨rfl, rfl⟩
  | int _ => cases e; rw [rv_int r]; exact ⟨rfl, rfl⟩
  | str cs =>
    simp only [truD] at e
    split at e
    · rename_i hl
      cases e; rw [rv_str r]
      exact ⟨⟨by rw [strLen]; exact hl, by rw [strLen]⟩, rfl⟩
    · cases e
  | tup _ => exact seq e
  | lst _ => exact seq e
  | fz _ => exact seq e
  | dic _ _ => exact seq e
  | row _ => exact seq e
  | ref _ => exact seq e
theorem lt_val (ha : PE X a (LE X.K T f)) (he : ∀ whole, isTrue a X.env whole = (do let v ← whole; standAt a.pos; holding [v] (truthy v))) : PT X a (LT X.K T fun ς G => bnd (f ς G) truD) := by
  refine (pt_truth ha he).imp fun σ H Q ⟨ι, F, ς, G, R, S, b, G', e, h⟩ => ?_
  obtain ⟨d, G1, ef, e⟩ := bnd_eq e
  refine ⟨ι, F, ς, G, R, S, d, G1, ef, fun w' v x R' r => ?_⟩
  obtain ⟨t, eG⟩ := truD_at R' r e
  subst eG
  exact ⟨b, t, h w' x R'⟩

/-! and, or, not, if -/
abbrev FB := Env' → Hs → Option (Bool × Hs)
variable {p q : FB}
theorem LiftB.bnd {w : Wd} {r : Option (Bool × Hs)} {k : Bool → Hs → Option (Bool × Hs)} {Q : Bool → Hp → Prop} (h : LiftB K T w (Mp.bnd r k) Q) :
    ∃ b G1, r = some (b, G1) ∧ ∀ w', Ex2 K w w' → Rel K T w' G1 → LiftB K T w' (k b G1) Q := by
  cases r with
  | none => obtain ⟨_, _, e, _⟩ := h; cases e
  | some p => exact ⟨p.1, p.2, rfl, fun w' x _ => let ⟨b, G', e, q⟩ := h; ⟨b, G', e, fun w'' y => q w'' (x.trans y)⟩⟩
theorem LiftB.now {w : Wd} {G : Hs} {b : Bool} {Q : Bool → Hp → Prop} (R : Rel K T w G) (h : LiftB K T w (some (b, G)) Q) : Q b w.H := by
  obtain ⟨b', G', e, q⟩ := h
  cases e
  exact q w Ex2.refl R
theorem lt_not (ha : PT X a (LT X.K T p)) : PT X (.UnaryOp .Not a pos) (LT X.K T fun ς G => bnd (p ς G) fun b G1 => some (!b, G1)) := by
  refine (pt_not ha).imp fun σ H Q ⟨ι, F, ς, G, R, S, h⟩ => ?_
  obtain ⟨b, G1, e, h⟩ := h.bnd
  exact ⟨ι, F, ς, G, R, S, b, G1, e, fun w' x R' => (h w' x R').now R'⟩
theorem lw_and {rest : List Expr} (ha : PT X a (LT X.K T p)) (hb : PW X (.BoolOp .And (b :: rest) pos) (LT X.K T q)) :
    PW X (.BoolOp .And (a :: b :: rest) pos) (LT X.K T fun ς G => bnd (p ς G) fun b G1 => if b then q ς G1 else some (false, G1)) := by
  refine ⟨fun wh pins s σ H Q I h => (pw_and ha hb).run wh pins s σ H Q I ?_⟩
  obtain ⟨ι, F, ς, G, R, S, h⟩ := h
  obtain ⟨c, G1, e, h⟩ := h.bnd
  refine ⟨ι, F, ς, G, R, S, c, G1, e, fun w' x R' => ?_⟩
  have h' := h w' x R'
  cases c with
  | false => exact h'.now R'
  | true => exact ⟨w'.ι, w'.F, ς, G1, R', S.ext x.toExt, h'⟩
theorem lw_or {rest : List Expr} (ha : PT X a (LT X.K T p)) (hb : PW X (.BoolOp .Or (b :: rest) pos) (LT X.K T q)) :
    PW X (.BoolOp .Or (a :: b :: rest) pos) (LT X.K T fun ς G => bnd (p ς G) fun b G1 => if b then some (true, G1) else q ς G1) := by
  refine ⟨fun wh pins s σ H Q I h => (pw_or ha hb).run wh pins s σ H Q I ?_⟩
  obtain ⟨ι, F, ς, G, R, S, h⟩ := h
  obtain ⟨c, G1, e, h⟩ := h.bnd
  refine ⟨ι, F, ς, G, R, S, c, G1, e, fun w' x R' => ?_⟩
  have h' := h w' x R'
  cases c with
  | true => exact h'.now R'
  | false => exact ⟨w'.ι, w'.F, ς, G1, R', S.ext x.toExt, h'⟩
/-- .. as values -/
def andD (f g : Fn) (ς : Env') (G : Hs) : Rs := bnd (blB (f ς G)) fun b G1 => if b then g ς G1 else some (.bl false, G1)
def orD (f g : Fn) (ς : Env') (G : Hs) : Rs := bnd (blB (f ς G)) fun b G1 => if b then some (.bl true, G1) else g ς G1
theorem Lift.bndB {w : Wd} {r : Option (Bool × Hs)} {k : Bool → Hs → Rs} {Q : V → Hp → Prop} (h : Lift K T w (Mp.bnd r k) Q) :
    ∃ b G1, r = some (b, G1) ∧ ∀ w', Ex2 K w w' → Rel K T w' G1 → Lift K T w' (k b G1) Q := by
  cases r with
  | none => exact h.no
  | some p => exact ⟨p.1, p.2, rfl, fun w' x _ => Lift.from x h⟩
theorem le_and {rest : List Expr} (ha : PE X a (LE X.K T f)) (hb : PE X (.BoolOp .And (b :: rest) pos) (LE X.K T g)) : PE X (.BoolOp .And (a :: b :: rest) pos) (LE X.K T (andD f g)) := by
  refine (pe_and ha hb).imp fun σ H Q ⟨ι, F, ς, G, R, S, h⟩ => ?_
  obtain ⟨c, G1, e, h⟩ := Lift.bndB h
  refine ⟨ι, F, ς, G, R, S, .bl c, G1, blB_eq e, fun w' v x R' r => ⟨c, r, ?_⟩⟩
  have h' := h w' x R'
  cases c with
  | false => exact h'.now R' rfl
  | true => exact ⟨w'.ι, w'.F, ς, G1, R', S.ext x.toExt, h'⟩
theorem le_or {rest : List Expr} (ha : PE X a (LE X.K T f)) (hb : PE X (.BoolOp .Or (b :: rest) pos) (LE X.K T g)) : PE X (.BoolOp .Or (a :: b :: rest) pos) (LE X.K T (orD f g)) := by
  refine (pe_or ha hb).imp fun σ H Q ⟨ι, F, ς, G, R, S, h⟩ => ?_
  obtain ⟨c, G1, e, h⟩ := Lift.bndB h
  refine ⟨ι, F, ς, G, R, S, .bl c, G1, blB_eq e, fun w' v x R' r => ⟨c, r, ?_⟩⟩
  have h' := h w' x R'
  cases c with
  | true => exact h'.now R' rfl
  | false => exact ⟨w'.ι, w'.F, ς, G1, R', S.ext x.toExt, h'⟩
def notD (f : Fn) (ς : Env') (G : Hs) : Rs := bnd (blB (f ς G)) fun b G1 => some (.bl (!b), G1)
theorem le_not (ha : PE X a (LE X.K T f)) : PE X (.UnaryOp .Not a pos) (LE X.K T (notD f)) := by
  refine (pe_not ha).imp fun σ H Q ⟨ι, F, ς, G, R, S, h⟩ => ?_
  obtain ⟨c, G1, e, h⟩ := Lift.bndB h
  exact ⟨ι, F, ς, G, R, S, .bl c, G1, blB_eq e, fun w' v x R' r => ⟨c, r, (h w' x R').now R' rfl⟩⟩
theorem le_ite (hc : PT X c (LT X.K T p)) (ha : PE X a (LE X.K T f)) (hb : PE X b (LE X.K T g)) : PE X (.IfExp c a b pos) (LE X.K T fun ς G => bnd (p ς G) fun t G1 => if t then f ς G1 else g ς G1) := by
  refine (pe_ifExp hc ha hb).imp fun σ H Q ⟨ι, F, ς, G, R, S, h⟩ => ?_
  obtain ⟨t, G1, e, h⟩ := Lift.bndB h
  refine ⟨ι, F, ς, G, R, S, t, G1, e, fun w' x R' => ?_⟩
  have h' := h w' x R'
  cases t with
  | true => exact ⟨w'.ι, w'.F, ς, G1, R', S.ext x.toExt, h'⟩
  | false => exact ⟨w'.ι, w'.F, ς, G1, R', S.ext x.toExt, h'⟩

/-! argument lists, displays -/
theorem la_nil : PA X [] (LA X.K T fun _ G => some (.tup [], G)) := by
  refine pa_nil.imp fun σ H Q ⟨ι, F, ς, G, R, S, ds, G', e, h⟩ => ?_
  cases e
  exact h ⟨ι, F, H⟩ [] Ex2.refl R rfl
def consD (f g : Fn) (ς : Env') (G : Hs) : Rs := bnd (f ς G) fun x G1 => bnd (g ς G1) fun xs G2 => match xs with | .tup r => some (.tup (x :: r), G2) | _ => none
theorem la_cons (ha : PE X a (LE X.K T f)) (hr : PA X es (LA X.K T g)) (hs : starEach (a :: es) X.env = (false, eval a X.env) :: starEach es X.env) : PA X (a :: es) (LA X.K T (consD f g)) := by
  refine (pa_cons ha hr hs).imp fun σ H Q ⟨ι, F, ς, G, R, S, ds, G', e, h⟩ => ?_
  obtain ⟨x, G1, e1, e⟩ := bnd_eq e
  obtain ⟨xs, G2, e2, e⟩ := bnd_eq e
  cases xs <;> first | (cases e; done) | skip
  cases e
  refine ⟨ι, F, ς, G, R, S, x, G1, e1, fun w1 v x1 R1 r1 => ?_⟩
  refine ⟨w1.ι, w1.F, ς, G1, R1, S.ext x1.toExt, _, _, e2, fun w2 vs x2 R2 r2' => ?_⟩
  exact h w2 (v :: vs) (x1.trans x2) R2 ⟨v, vs, rfl, RV.ext x2.toExt _ _ r1, r2'⟩
theorem LiftL.bnd {w : Wd} {r : Rs} {k : List D → Hs → Rs} {Q : V → Hp → Prop} (h : Lift K T w (Mp.bnd r fun xs G1 => match xs with | .tup ds => k ds G1 | _ => none) Q) :
    ∃ ds G1, r = some (.tup ds, G1) ∧ ∀ w', Ex2 K w w' → Lift K T w' (k ds G1) Q := by
  cases r with
  | none => exact h.no
  | some p =>
    obtain ⟨d, G1⟩ := p
    cases d <;> first | exact h.no | skip
    exact ⟨_, G1, rfl, fun w' x => Lift.from x h⟩
/-- a function of the argument list -/
def argD (f : Fn) (k : List D → Hs → Rs) (ς : Env') (G : Hs) : Rs := bnd (f ς G) fun xs G1 => match xs with | .tup ds => k ds G1 | _ => none
theorem le_args {e : Expr} {k : List D → Hs → Rs} (he : PE X e (tCB (rn X.K T k) (LA X.K T f))) : PE X e (LE X.K T (argD f k)) := by
  refine he.imp fun σ H Q ⟨ι, F, ς, G, R, S, h⟩ => ?_
  obtain ⟨ds, G1, e1, h⟩ := LiftL.bnd h
  exact ⟨ι, F, ς, G, R, S, ds, G1, e1, fun w' vs x R' r => ⟨w'.ι, w'.F, G1, ds, R', r, h w' x⟩⟩
def tupK (ds : List D) (G : Hs) : Rs := if ds.length ≤ sizeLine then some (.tup ds, G) else none
def lstK (m : Bool) (ds : List D) (G : Hs) : Rs := if ds.length ≤ sizeLine then newD m ds G else none
theorem le_tup {k1 : Nat} (ha : PA X es (LA X.K T f)) : PE X (.Tuple es k1 pos) (LE X.K T (argD f tupK)) := by
  refine (pe_tup ha).imp fun σ H Q ⟨ι, F, ς, G, R, S, h⟩ => ?_
  obtain ⟨ds, G1, e1, h⟩ := LiftL.bnd h
  refine ⟨ι, F, ς, G, R, S, ds, G1, e1, fun w' vs x R' r => ?_⟩
  obtain ⟨hl, h'⟩ := (h w' x).ite
  exact ⟨by rw [← r.len]; exact hl, h'.newT R' r⟩
theorem le_lst (m : Bool) (ha : PA X es (LA X.K T f)) : PE X (.List es pos) (LE X.K T (argD f (lstK m))) := by
  refine (pe_lst ha).imp fun σ H Q ⟨ι, F, ς, G, R, S, h⟩ => ?_
  obtain ⟨ds, G1, e1, h⟩ := LiftL.bnd h
  refine ⟨ι, F, ς, G, R, S, ds, G1, e1, fun w' vs x R' r => ?_⟩
  obtain ⟨hl, h'⟩ := (h w' x).ite
  exact ⟨by rw [← r.len]; exact hl, h'.newM R' r⟩

/-! subscripts, slices -/
theorem le_ix (hu : X.A.units + 65 < cLine) (ha : PE X a (LE X.K T f)) (hb : PE X b (LE X.K T g)) (hs : PlainIx b) : PE X (.Subscript a b pos) (LE X.K T fun ς G => bnd (f ς G) fun x G1 => bnd (g ς G1) fun y G2 => idxD x y G2) :=
  le_2 (pe_ix (ix_D hu) ha hb hs)
def partI (d : D) (G : Hs) : Option (Option Int × Hs) := match d with | .int i => some (some i, G) | _ => none
def partD (f : Option Fn) (ς : Env') (G : Hs) : Option (Option Int × Hs) := match f with
  | none => some (none, G)
  | some f => bnd (f ς G) partI
def LO (K : PySem.W.Frag) (T : List Addr) (f : Option Fn) : TO := fun σ H Q =>
  ∃ ι F ς G, Rel K T ⟨ι, F, H⟩ G ∧ RS K ⟨ι, F, H⟩ ς σ ∧ ∃ o G', partD f ς G = some (o, G') ∧ ∀ w', Ex2 K ⟨ι, F, H⟩ w' → Rel K T w' G' → Q o w'.H
theorem _root_.L2.PO.imp {e : Option Expr} {t t' : TO} (h : PO X e t) (m : ∀ σ H Q, t' σ H Q → t σ H Q) : PO X e t' := ⟨fun pins s σ H Q I q => h.run pins s σ H Q I (m σ H Q q)⟩
theorem lo_none : PO X none (LO X.K T none) := by
  refine PO.imp po_none fun σ H Q ⟨ι, F, ς, G, R, S, o, G', e, h⟩ => ?_
  cases e
  exact h ⟨ι, F, H⟩ Ex2.refl R
theorem lo_some (ha : PE X a (LE X.K T f)) : PO X (some a) (LO X.K T (some f)) := by
  refine PO.imp (po_some ha) fun σ H Q ⟨ι, F, ς, G, R, S, o, G', e, h⟩ => ?_
  have e0 : bnd (f ς G) partI = some (o, G') := e
  obtain ⟨d, G1, e1, e⟩ := bnd_eq e0
  cases d <;> first | (cases e; done) | skip
  cases e
  exact ⟨ι, F, ς, G, R, S, _, _, e1, fun w' v x R' r => ⟨_, r, h w' x R'⟩⟩
def slF (m : Bool) (f : Fn) (lo hi : Option Fn) (ς : Env') (G : Hs) : Rs := bnd (f ς G) fun x G1 => bnd (partD lo ς G1) fun l G2 => bnd (partD hi ς G2) fun u G3 => slD m x l u G3
theorem le_sl (m : Bool) {lo hi : Option Expr} {l u : Option Fn} {p2 : Pos} (ha : PE X a (LE X.K T f)) (hl : PO X lo (LO X.K T l)) (hh : PO X hi (LO X.K T u)) : PE X (.Subscript a (.Slice lo hi none p2) pos) (LE X.K T (slF m f l u)) := by
  refine (pe_slice (sl_D (T := T) m) ha hl hh).imp fun σ H Q ⟨ι, F, ς, G, R, S, h⟩ => ?_
  obtain ⟨x, G1, e1, h⟩ := h.bnd
  refine ⟨ι, F, ς, G, R, S, x, G1, e1, fun w1 xv x1 R1 r1 => ?_⟩
  have h1 := h w1 xv x1 R1 r1
  cases e2 : partD l ς G1 with
  | none => rw [e2] at h1; exact h1.no
  | some p2 =>
    obtain ⟨o, G2⟩ := p2
    rw [e2] at h1
    refine ⟨w1.ι, w1.F, ς, G1, R1, S.ext x1.toExt, o, G2, e2, fun w2 x2 R2 => ?_⟩
    have h2 : Lift X.K T w1 (bnd (partD u ς G2) fun u G3 => slD m x o u G3) Q := h1
    cases e3 : partD u ς G2 with
    | none => rw [e3] at h2; exact h2.no
    | some p3 =>
      obtain ⟨o', G3⟩ := p3
      rw [e3] at h2
      refine ⟨w2.ι, w2.F, ς, G2, R2, (S.ext x1.toExt).ext x2.toExt, o', G3, e3, fun w3 x3 R3 => ?_⟩
      have h3 : Lift X.K T w1 (slD m x o o' G3) Q := h2
      exact ⟨w3.ι, w3.F, G3, x, R3, RV.ext (x2.toExt.trans x3.toExt) _ _ r1, Lift.from (x2.trans x3) h3⟩
theorem le_rev (m : Bool) {j : Nat} {p1 p2 p3 : Pos} (ha : PE X a (LE X.K T f)) : PE X (.Subscript a (.Slice none none (some (.UnaryOp .USub (.Constant (.int 1) j p1) p2)) p3) pos) (LE X.K T fun ς G => bnd (f ς G) (revD m)) :=
  le_1 (pe_rev (rv_D m) ha)
end
end Mp
set_option Elab.async false
set_option linter.all false
set_option autoImplicit false
set_option maxRecDepth 100000
set_option maxHeartbeats 1000000
/-! Mp, generator expressions under all and any: the element may call -/
namespace GxM
open PySem PySem.Spec L2 GxR
open PyProof.Rows hiding St
open Sem (wp)

/-- where a generator expression's own frame runs -/
abbrev gcx (X : Cx) (A : Around) (s : Shared) (H : Hp) (ge : Env) (fp : List Addr) : Cx :=
  { X with A := A, s_0 := s, H_0 := H, env := ge, outer := X.stack, stack := ge :: X.stack, ex := fp, fn := fun _ => false, pn := [], xe := fun _ _ => False }

section
variable {X : Cx} {pins : List (Addr × Obj)} {σ : L2.St} {H : Hp} {s : Shared}

theorem gen_start {A : Around} {scope : Scope} {own : List (Str × Nat)} {fp : List Addr} {code : Value} {ge : Env} (I : Inv X pins σ H s) (ok : BlkOk X.N X.env.scope scope own)
    (hcell : ∀ y ∈ scope.names, y.2 ≠ .cell) (hN : X.N.Nodup) (hfp : ∀ b ∈ fp, FpOk X pins H b ∧ b < s.heap.objs.size)
    (hge : ge = genEnv scope (cloFrom X.env.cells scope.names []) s.heap.objs.size code builtinsNs X.env) (hA : A.frames = some (ge :: X.stack)) (hh : A.handled = none)
    {h5 : Heap} {g5 : Array GenState} {t5 : Nat} {m : Str → Option Value} (hk : ∀ b o, s.heap.get? b = some o → h5.get? b = some o) (hn : h5.Ns s.heap.objs.size m) (hg : AllBare g5)
    {a : Addr} {ga : Obj} (ha : h5.get? a = some ga) (hal : s.heap.objs.size < a) (hgd : ∀ v, ga.data ≠ .cell v) :
    Inv (gcx X A s H ge fp) [(a, ga)] (wipe σ (own.map (·.2))) H { s with heap := h5, gens := g5, toks := t5 } := by
  have eL : ge.locals = s.heap.objs.size := by rw [hge]; rfl
  have eC : ge.cells = cloFrom X.env.cells scope.names [] := by rw [hge]; rfl
  have eS : ge.scope = scope := by rw [hge]; rfl
  have eF : ge.frame = some ge.locals := by rw [hge]; rfl
  have hfree : ∀ y ∈ scope.names, y.2 = .free → ∃ c, X.env.cells.lookup y.1 = some c := fun y hy e =>
    (ok.free y hy e).elim (fun k => I.ok.has _ (.inl k)) fun k => I.ok.has _ (.inr k)
  -- a cell of the generator's frame is one of the def's
  have isC : ∀ y c, ge.cells.lookup y = some c → X.env.cells.lookup y = some c ∧ c < s.heap.objs.size := fun y c e => by
    rw [eC] at e
    rcases cloFrom_mem (PySem.mem_of_lookup e) with z | ⟨h1, h2⟩
    · cases z
    · obtain ⟨c', e'⟩ := hfree _ h1 rfl
      rw [e'] at h2
      have h2 : c = c' := h2
      subst h2
      obtain ⟨v, z⟩ := I.cell _ _ e'
      exact ⟨e', z.lt⟩
  have toC : ∀ y, scope.names.lookup y = some .free → ∃ c, ge.cells.lookup y = some c ∧ X.env.cells.lookup y = some c := fun y hl => by
    obtain ⟨c', e'⟩ := mem_lookup (cloFrom_has (cells := X.env.cells) (acc := []) (PySem.mem_of_lookup hl))
    rw [← eC] at e'
    exact ⟨c', e', (isC y c' e').1⟩
  have stIn : ∀ b ∈ frs X.stack, b < s.heap.objs.size := fun b hb => by
    obtain ⟨_, o, e, _⟩ := I.stack.mem hb
    exact Heap.lt_size e
  have okG : (gcx X A s H ge fp).Ok := by
    refine ⟨I.ok.mod, ?_, ?_, ?_, ?_, ?_, ?_, ?_, ?_, hA, .inr ⟨rfl, eF⟩, ?_, I.bs, Nat.le_trans I.ok.bsz I.sz, ?_, ?_, I.stack, I.stkFree⟩
    · show ge.scope.kind = _
      rw [eS]; exact ok.kind
    · show ge.globals = _
      rw [hge]; exact I.ok.glob
    · show ge.builtins = _
      rw [hge]; rfl
    · show s.heap.objs.size ≤ ge.locals
      rw [eL]; exact Nat.le_refl _
    · intro y z c e1 e2
      exact I.ok.inj y z c (isC y c e1).1 (isC z c e2).1
    · intro y hy
      have hy : ge.scope.names.lookup y = some .cell ∨ ge.scope.names.lookup y = some .free := hy
      rw [eS] at hy
      rcases hy with hy | hy
      · exact absurd rfl (hcell _ (PySem.mem_of_lookup hy))
      · obtain ⟨c, e, _⟩ := toC y hy
        exact ⟨c, e⟩
    · intro y c z
      cases z
    · intro _; exact hh
    · intro b hb
      refine ⟨?_, fun y c e z => ?_⟩
      · show b ≠ ge.locals
        rw [eL]; exact Nat.ne_of_lt (hfp b hb).2
      · exact (hfp b hb).1.2.2.2.2.1 y c (isC y c e).1 z
    · intro b o e hb
      rcases (hfp b hb).1.2.2.2.1 with z | z
      · exact I.ok.noex b o e z
      · exact absurd (Nat.lt_of_lt_of_le (Heap.lt_size e) (Nat.le_trans I.ok.bsz z)) (Nat.lt_irrefl _)
    · intro b hb z
      rcases List.mem_cons.mp (I.stkSub b z) with z | z
      · exact (hfp b hb).1.2.1 z
      · exact (hfp b hb).1.2.2.1 z
  refine ⟨okG, rfl, hg, Un.kept hk, ⟨m, ?_, ?_⟩, ?_, ?_, ?_, ?_, I.hok.kept hk, by rw [wipe_length]; exact I.len⟩
  · show h5.Ns ge.locals m
    rw [eL]; exact hn
  · intro i y av e1 e2 e3
    obtain ⟨e2, hne⟩ := wipe_some e2
    have e3 : Vis ge.scope y := e3
    rw [eS] at e3
    have noL : ¬ (scope.names.lookup y = some .local ∨ scope.names.lookup y = some .cell) := fun q => by
      have q' : ∃ k, scope.names.lookup y = some k ∧ (k = .local ∨ k = .cell) := q.elim (fun z => ⟨_, z, .inl rfl⟩) fun z => ⟨_, z, .inr rfl⟩
      obtain ⟨k, z, hz⟩ := q'
      rcases ok.own (y, k) (PySem.mem_of_lookup z) hz with e' | e'
      · obtain ⟨p, hp, hpy⟩ := List.mem_map.mp e'
        have z3 := ok.ix p hp
        rw [hpy] at z3
        exact hne (List.mem_map.mpr ⟨p, hp, nodup_ix hN z3 e1⟩)
      · exact e' (List.mem_of_getElem? e1)
    have hf : scope.names.lookup y = some .free := by
      rcases e3 with z | z | z
      · exact absurd (.inl z) noL
      · exact absurd (.inr z) noL
      · exact z
    obtain ⟨c, k1, k2⟩ := toC y hf
    obtain ⟨m0, hn0, hl0⟩ := I.loc
    have hvis : Vis X.env.scope y := (ok.free _ (PySem.mem_of_lookup hf) rfl).elim (fun k => .inr (.inl k)) fun k => .inr (.inr k)
    obtain ⟨u, r, q⟩ := hl0 i y av e1 e2 hvis
    refine ⟨u, r, .inr ⟨.inr (by show ge.scope.names.lookup y = _; rw [eS]; exact hf), c, k1, ?_⟩⟩
    rcases q with ⟨k, _⟩ | ⟨_, c', e', z⟩
    · have k : X.env.scope.names.lookup y = some .local := k
      rcases ok.free _ (PySem.mem_of_lookup hf) rfl with k' | k' <;> rw [show X.env.scope.names.lookup y = _ from k'] at k <;> cases k
    · rw [k2] at e'; cases e'
      exact z.keeps hk
  · intro y c e
    obtain ⟨v, z⟩ := I.cell y c (isC y c e).1
    exact ⟨v, z.keeps hk⟩
  · show H ge.locals = none
    rw [eL]; exact I.hok.fresh (Nat.le_refl _)
  · intro y c e
    exact I.freeC y c (isC y c e).1
  · intro p hp
    have hp : p ∈ [(a, ga)] := hp
    rw [List.mem_singleton.mp hp]
    refine ⟨ha, I.hok.fresh (Nat.le_of_lt hal), ?_, fun z => ?_, hgd⟩
    · show a ≠ ge.locals
      rw [eL]; exact Ne.symm (Nat.ne_of_lt hal)
    · exact Nat.lt_asymm hal (stIn a z)

/-- the loop's end; what a yield hands on -/
def GEnd (Xg : Cx) (pn : List (Addr × Obj)) (σg : L2.St) (Fin : Hp → Prop) : Nat → Shared → Shared → Prop := fun _ _ s => ∃ H', Inv Xg pn σg H' s ∧ Fin H'
def GYld (Xg : Cx) (pn : List (Addr × Obj)) (σg : L2.St) (sb : Bool) (Stp : Hp → Prop) : Protocol := fun _ _ v s kap =>
  ∃ b H', v = .bool b ∧ Inv Xg pn σg H' s ∧ (b = sb → Stp H') ∧ (b ≠ sb → ∀ s'' : Shared, s''.heap = s.heap → s''.os = s.os → AllBare s''.gens → kap (.send .none) s'')

theorem Inv.like {pn : List (Addr × Obj)} (I : Inv X pn σ H s) {s' : Shared} (h1 : s'.heap = s.heap) (h2 : s'.os = s.os) (h3 : AllBare s'.gens) : Inv X pn σ H s' :=
  ⟨I.ok, h2.trans I.os, h3, h1 ▸ I.base, h1 ▸ I.loc, h1 ▸ I.cell, I.free, I.freeC, h1 ▸ I.pin, h1 ▸ I.hok, I.len⟩

theorem seg_gen {A : Around} {elt tg iter : Expr} {scope : Scope} {pos : Pos} {it : Addr} {ge : Env} {fp : List Addr} {J : It} {tn : Nat → Heap → Prop} {g : TG} {te : TE} {vs : List Nat} {pn : List (Addr × Obj)} {sb : Bool} {Fin Stp : Hp → Prop} {W : Nat → Nat → Hp → Prop} {Xg : Cx}
    (hA : Xg.A = A.over (.compLoop (.GeneratorExp elt [⟨tg, iter, [], 0⟩] scope pos) 0 (.ref it) .none ge) []) (hE : Xg.env = ge) (hx : Xg.xe = fun _ _ => False) (hc : Xg.calm = true) (hex : Xg.ex = fp) (hpn : Xg.pn = [])
    (hco : ge.scope.isCoroutine = false)
    (Tn : Turn Xg.prog Xg.w Xg.K tg J fp it tn) (pg : PG Xg tg g) (pe : PE Xg elt te) (hfp : ∀ b ∈ fp, ∀ p ∈ pn, p.1 ≠ b)
    (turn : ∀ i m H, W i m H → (J.stop i H ∧ Fin H) ∨ (J.go i H ∧ ∃ Nx : Hp → Prop, (∀ H', Nx H' → ∃ m', m' < m ∧ W (i + 1) m' H') ∧ ∀ x H', J.yld i H x H' → g x (wipe σ vs) H' fun σ2 H2 => wipe σ2 vs = wipe σ vs ∧
      te σ2 H2 fun y H3 => ∃ b, y = .bl b ∧ if b = sb then Stp H3 else Nx H3)) :
    ∀ (m n i : Nat) (H : Hp) (s₀ s : Shared), m < n → W i m H → Inv Xg pn (wipe σ vs) H s → tn i s.heap → (∀ b ∈ fp, H b = none) →
      Seg (model Xg.prog Xg.w) A (fun n s₀ r s₁ => r = .ok .next ∧ GEnd Xg pn (wipe σ vs) Fin n s₀ s₁) (GYld Xg pn (wipe σ vs) sb Stp) n s₀
        (.compLoop (.GeneratorExp elt [⟨tg, iter, [], 0⟩] scope pos) 0 (.ref it) .none ge)
        ((model Xg.prog Xg.w).den (.compLoop (.GeneratorExp elt [⟨tg, iter, [], 0⟩] scope pos) 0 (.ref it) .none ge)) [] s := by
  have stat : ∀ {σ' : L2.St} {H' : Hp} {s' : Shared}, Inv Xg pn σ' H' s' → (∀ b ∈ fp, H' b = none) → ∀ b ∈ fp, FpOk Xg pn H' b := fun {σ' H' s'} I' hn b hb => by
    have hb' : b ∈ Xg.ex := by rw [hex]; exact hb
    refine ⟨hn b hb, (I'.ok.exf b hb').1, I'.ok.exfs b hb', .inl hb', fun x c e => (I'.ok.exf b hb').2 x c e, fun p hp => ?_⟩
    rw [hpn] at hp
    exact hfp b hb p hp
  intro m
  induction m using Nat.strongRecOn with
  | ind m ih =>
    intro n i H s₀ s hmn w0 I st0 n0
    show Seg _ A _ _ _ s₀ _ ((compTurn (.GeneratorExp elt [⟨tg, iter, [], 0⟩] scope pos) 0 (.ref it) .none ge).onRaise (leaving ge)) [] s
    rw [compTurn_gen, Sem.onRaise_eq_wrap]
    refine seg_bind_wrap (wpAny_standAt ?_)
    rcases turn i m H w0 with ⟨stop, fin⟩ | ⟨go, Nx, hNx, step⟩
    · refine seg_bind_wrap ?_
      rw [← hA]
      refine thnF (Tn.done Xg rfl rfl rfl hc i pn s _ H (fun _ _ => False) I (stat I n0) st0 stop) fun r s1 ⟨hr, I1⟩ => ?_
      subst hr
      exact seg_end (.ok .next) ⟨rfl, H, I1, fin⟩
    · refine seg_bind_wrap ?_
      rw [← hA]
      refine thnF (Tn.item Xg rfl rfl rfl hc i pn s _ H (fun _ _ => False) I (stat I n0) st0 go) fun r s1 ⟨u, hr, h1⟩ => ?_
      subst hr
      refine seg_bind_wrap ?_
      rw [← hA]
      refine thnF h1 fun _ s2 ⟨x, H2, I2, r2, y2, st2, n2⟩ => ?_
      have I2p := I2.pinned (stat I2 n2) (Tn.obj _ _ st2)
      refine seg_bind_wrap ?_
      rw [← hA]
      have hasg := pg.run _ s2 _ H2 x u _ I2p r2 (step x H2 y2)
      rw [hE, hx] at hasg
      refine thnF hasg fun _ s3 ⟨σ3, H3, I3, hw3, q3⟩ => ?_
      simp only [List.forIn_nil]
      refine seg_bind_wrap (wpAny_pure ?_)
      simp only [if_true]
      have hy : ∀ v, yieldOut ge v = yieldValue v := fun v => by simp only [yieldOut, hco, Bool.false_eq_true, if_false]
      simp only [hy]
      rw [Sem.bind_eq_wrap', Sem.bind_eq_wrap', Sem.wrap_wrap, Sem.wrap_wrap]
      refine seg_wrap ?_
      rw [← hA]
      have hel := pe.run _ s3 σ3 H3 _ I3 q3
      rw [hE, hx] at hel
      refine thnF hel fun z s4 ⟨yv, H4, I4, r4, b, hb, q4⟩ => ?_
      subst hb
      have r4 : z = .bool b := r4
      subst r4
      -- the iterator's records stand
      have pin' : ∀ c ∈ fp, ∀ o, s2.heap.get? c = some o → s4.heap.get? c = some o ∧ H4 c = none := fun c hc o e =>
        let q := I4.pin (c, o) (List.mem_append_right _ (List.mem_append_right _ (mem_pinsAt hc e)))
        ⟨q.1, q.2.1⟩
      have I5 : Inv Xg pn (wipe σ vs) H4 s4 := by
        have hl : (wipe σ vs).length = σ3.length := by rw [← hw3, wipe_length]
        refine (I4.unpinned (pins := pn)).weak hl fun j v e => ?_
        rw [← hw3] at e
        exact (wipe_some e).1
      obtain ⟨n', rfl⟩ : ∃ n', n = n' + 1 := ⟨n - 1, by omega⟩
      refine seg_at (seg_yield rfl rfl rfl ⟨b, H4, rfl, I5, fun eb => ?_, fun nb s'' e1 e2 e3 => ?_⟩)
      · rw [if_pos eb] at q4; exact q4
      · rw [if_neg nb] at q4
        obtain ⟨m', hm', w'⟩ := hNx H4 q4
        refine seg_again rfl (ih m' hm' n' (i + 1) H4 s'' s'' (by omega) w' (Inv.like I5 e1 e2 e3) ?_ fun c hc => ?_)
        · rw [e1]
          exact Tn.keep _ _ _ st2 fun c hc o e => (pin' c hc o e).1
        · obtain ⟨o, e, _⟩ := Tn.obj _ _ st2 c hc
          exact (pin' c hc o e).2

/-- the generator at a sleeps, ready for at most n more -/
def GSt (Xg : Cx) (A : Around) (pn : List (Addr × Obj)) (σg : L2.St) (sb : Bool) (Fin Stp : Hp → Prop) (a : Addr) (gi n : Nat) (s : Shared) : Prop :=
  s.heap.IsGen a gi ∧ s.heap.NoLimit ∧ AllBare s.gens ∧ ∃ gs, s.gens[gi]? = some gs ∧ ∀ s'' : Shared, s''.heap = s.heap → s''.os = s.os → AllBare s''.gens →
    gs.Goes (model Xg.prog Xg.w) A (fun n s₀ r s₁ => r = .ok .next ∧ GEnd Xg pn σg Fin n s₀ s₁) (GYld Xg pn σg sb Stp) n (.send .none) s''
theorem setGen_bare {s : Shared} {g : Nat} {x : GenState} (h : AllBare s.gens) (hx : x.bare = true) : AllBare (s.setGen g x).gens := by
  intro y hy
  have hy : y ∈ s.gens.setIfInBounds g x := hy
  rcases Array.mem_or_eq_of_mem_setIfInBounds hy with z | z
  · exact h y z
  · rw [z]; exact hx
/-- one turn of the consumer -/
theorem gen_next {Xg : Cx} {A : Around} {pn : List (Addr × Obj)} {σg : L2.St} {sb : Bool} {Fin Stp : Hp → Prop} {a : Addr} {gi n : Nat} {s : Shared} {ga : Obj} {E : Value → Shared → Prop} {Q : Option Value → Shared → Prop}
    (hh : A.handled = none) (hroom : A.depth < recursionLimit) (hpin : (a, ga) ∈ pn) (hga : ∀ h : Heap, h.get? a = some ga → h.IsGen a gi) (st : GSt Xg A.in1 pn σg sb Fin Stp a gi n s)
    (hfin : ∀ s' H', Inv Xg pn σg H' s' → Fin H' → Q none s') (hstp : ∀ s' H', Inv Xg pn σg H' s' → Stp H' → Q (some (.bool sb)) s')
    (hgo : ∀ s' m, m < n → GSt Xg A.in1 pn σg sb Fin Stp a gi m s' → Q (some (.bool (!sb))) s') :
    wpAny (model Xg.prog Xg.w) A (pyNext (.ref a)) Q E s := by
  obtain ⟨hg, hl, hb, gs, hgs, hrun⟩ := st
  have hlt : gi + 1 ≤ s.gens.size := (Array.getElem?_eq_some_iff.mp hgs).1
  refine GenW.wpAny_gsz hlt ?_
  refine wpAny_pyNext_genexpQ (P := GEnd Xg pn σg Fin) (Y := GYld Xg pn σg sb Stp) (n := n) hh hl hroom hg hgs (hrun _ rfl rfl (setGen_bare hb rfl)) (fun v s₁ gs' hbr hy => ?_) (fun s₁ hp h' hk => ?_)
  · obtain ⟨b, H', rfl, I, hst, hgo'⟩ := hy
    intro hsz
    rw [GenW.setGen_size] at hsz
    have I' : Inv Xg pn σg H' (s₁.setGen gi gs') := Inv.like I rfl rfl (setGen_bare I.bare hbr)
    by_cases e : b = sb
    · rw [e]; exact hstp _ H' I' (hst e)
    · have eb : b = !sb := by cases b <;> cases sb <;> simp_all
      rw [eb]
      cases n with
      | zero => exact (hgo' e s₁ rfl rfl I.bare).elim
      | succ m =>
        refine hgo _ m (Nat.lt_succ_self m) ⟨hga _ ?_, I'.nolimit, I'.bare, gs', ?_, fun s'' e1 e2 e3 => ?_⟩
        · exact (I'.pin (a, ga) (List.mem_append_right _ hpin)).1
        · show (s₁.gens.setIfInBounds gi gs')[gi]? = some gs'
          rw [Array.getElem?_setIfInBounds_self_of_lt hsz]
        · exact hgo' e s'' e1 e2 e3
  · obtain ⟨H', I, hf⟩ := hp
    intro _
    have I1 : Inv Xg pn σg H' (s₁.setGen gi .finished) := Inv.like I rfl rfl (setGen_bare I.bare rfl)
    exact hfin _ H' (I1.kept (t' := (s₁.setGen gi .finished).toks) hk) hf

theorem gen_all {Xg : Cx} {A : Around} {pn : List (Addr × Obj)} {σg : L2.St} {Fin Stp : Hp → Prop} {a : Addr} {gi : Nat} {ga : Obj} {R : Result → Shared → Prop}
    (hh : A.handled = none) (hroom : A.depth < recursionLimit) (hpin : (a, ga) ∈ pn) (hga : ∀ h : Heap, h.get? a = some ga → h.IsGen a gi)
    (hfin : ∀ s' H', Inv Xg pn σg H' s' → Fin H' → R (.ok (.ret (.bool true))) s') (hstp : ∀ s' H', Inv Xg pn σg H' s' → Stp H' → R (.ok (.ret (.bool false))) s') :
    ∀ (n : Nat) (s : Shared), GSt Xg A.in1.in1 pn σg false Fin Stp a gi n s → codeAny (model Xg.prog Xg.w) A (.builtin "all.loop" ⟨[.ref a], []⟩) R s := by
  intro n
  induction n using Nat.strongRecOn with
  | ind n ih =>
    intro s st
    refine codeAny_builtin F.entry_all_loop ?_
    rw [Around.under_plainId F.plain_all_loop _]
    refine wpAny_bind (m := pyNext (.ref a)) (gen_next (A := A.in1) hh hroom hpin hga st (fun s' H' I f => ?_) (fun s' H' I f => ?_) fun s' m hm st' => ?_)
    · exact wpAny_bind (wpAny_rule (wpAny_pure (hfin s' H' I f)))
    · refine wpAny_bind (wpAny_holding (wpAny_truthy_bool (wpAny_bind (wpAny_letGo ?_))))
      simp only [Bool.false_eq_true, if_false]
      exact wpAny_bind (wpAny_rule (wpAny_pure (hstp s' H' I f)))
    · refine wpAny_bind (wpAny_holding (wpAny_truthy_bool (wpAny_bind (wpAny_letGo ?_))))
      simp only [Bool.not_false, if_true]
      exact wpAny_pure ⟨plainId_quiet F.plain_all_loop _, ih m hm s' st'⟩
theorem gen_any {Xg : Cx} {A : Around} {pn : List (Addr × Obj)} {σg : L2.St} {Fin Stp : Hp → Prop} {a : Addr} {gi : Nat} {ga : Obj} {R : Result → Shared → Prop}
    (hh : A.handled = none) (hroom : A.depth < recursionLimit) (hpin : (a, ga) ∈ pn) (hga : ∀ h : Heap, h.get? a = some ga → h.IsGen a gi)
    (hfin : ∀ s' H', Inv Xg pn σg H' s' → Fin H' → R (.ok (.ret (.bool false))) s') (hstp : ∀ s' H', Inv Xg pn σg H' s' → Stp H' → R (.ok (.ret (.bool true))) s') :
    ∀ (n : Nat) (s : Shared), GSt Xg A.in1.in1 pn σg true Fin Stp a gi n s → codeAny (model Xg.prog Xg.w) A (.builtin "any.loop" ⟨[.ref a], []⟩) R s := by
  intro n
  induction n using Nat.strongRecOn with
  | ind n ih =>
    intro s st
    refine codeAny_builtin F.entry_any_loop ?_
    rw [Around.under_plainId F.plain_any_loop _]
    refine wpAny_bind (m := pyNext (.ref a)) (gen_next (A := A.in1) hh hroom hpin hga st (fun s' H' I f => ?_) (fun s' H' I f => ?_) fun s' m hm st' => ?_)
    · exact wpAny_bind (wpAny_rule (wpAny_pure (hfin s' H' I f)))
    · refine wpAny_bind (wpAny_holding (wpAny_truthy_bool (wpAny_bind (wpAny_letGo ?_))))
      simp only [if_true]
      exact wpAny_bind (wpAny_rule (wpAny_pure (hstp s' H' I f)))
    · refine wpAny_bind (wpAny_holding (wpAny_truthy_bool (wpAny_bind (wpAny_letGo ?_))))
      simp only [Bool.not_true, Bool.false_eq_true, if_false]
      exact wpAny_pure ⟨plainId_quiet F.plain_any_loop _, ih m hm s' st'⟩

theorem seg_go {A : Around} {R : GenEnd} {Y : Protocol} {n : Nat} {s₀ s : Shared} {prog : Program} {w : World} {elt tg iter : Expr} {scope : Scope} {pos : Pos} {it : Addr} {ge : Env}
    (hself : ∀ (A' : Around) (Q : Value → Shared → Prop) (E : Value → Shared → Prop), Q (.ref it) s → wpAny (model prog w) A' (pyIter (.ref it)) Q E s)
    (loop : Seg (model prog w) A R Y n s₀ (.compLoop (.GeneratorExp elt [⟨tg, iter, [], 0⟩] scope pos) 0 (.ref it) .none ge)
        ((model prog w).den (.compLoop (.GeneratorExp elt [⟨tg, iter, [], 0⟩] scope pos) 0 (.ref it) .none ge)) [] s) :
    Seg (model prog w) A R Y n s₀ (.compStart (.GeneratorExp elt [⟨tg, iter, [], 0⟩] scope pos) 0 (.ref it) .none ge)
        ((model prog w).den (.compStart (.GeneratorExp elt [⟨tg, iter, [], 0⟩] scope pos) 0 (.ref it) .none ge)) [] s := by
  show Seg _ A R Y n s₀ _ ((compStart (.GeneratorExp elt [⟨tg, iter, [], 0⟩] scope pos) 0 (.ref it) .none ge).onRaise (leaving ge)) [] s
  unfold compStart
  rw [Sem.onRaise_eq_wrap]
  show Seg _ A R Y n s₀ _ ((ask >>= _).wrap _ _ _ _) [] s
  refine seg_bind_wrap (wpAny_askSetting ?_)
  split
  · exact seg_again rfl loop
  · refine seg_bind_wrap (wpAny_rule ?_)
    show Seg _ A R Y n s₀ _ ((standAt iter.pos >>= _).wrap _ _ _ _) [] s
    refine seg_bind_wrap (wpAny_standAt ?_)
    exact seg_bind_wrap (hself _ _ _ (seg_again rfl loop))

/-- all(e for t in i), any(e for t in i): sb is the answer at which it stops -/
def tGen (sb : Bool) (P : Addr) (wi : TI) (g : TG) (te : TE) (vs : List Nat) : TE := fun σ H Q => wi σ H fun J H1 => TabG H1 P ∧ ∀ H2, Tabbed P H1 H2 →
  ∃ W : Nat → Nat → Hp → Prop, (∃ m, W 0 m H2) ∧ ∀ i m H, W i m H → (J.stop i H ∧ Q (.bl (!sb)) H) ∨ (J.go i H ∧ ∃ Nx : Hp → Prop, (∀ H', Nx H' → ∃ m', m' < m ∧ W (i + 1) m' H') ∧ ∀ x H', J.yld i H x H' → g x (wipe σ vs) H' fun σ2 H2 => wipe σ2 vs = wipe σ vs ∧
      te σ2 H2 fun y H3 => ∃ b, y = .bl b ∧ if b = sb then Q (.bl sb) H3 else Nx H3)

/-- what is asked of the generator expression's scope -/
structure GxS (scope : Scope) : Prop where
  co : scope.isCoroutine = false
  cell : ∀ y ∈ scope.names, y.2 ≠ .cell
  dot : scope.names.lookup (".0" : Str) = some NameKind.local

theorem over_gen {A : Around} {elt tg iter : Expr} {scope : Scope} {pos : Pos} {it : Addr} {ge : Env} : (A.over (.compLoop (.GeneratorExp elt [⟨tg, iter, [], 0⟩] scope pos) 0 (.ref it) .none ge) []).frames = pushEnvs [ge] A.frames := by
  first | rfl | simp [Around.over, pushEnvs, Code.envs, Code.env?, Code.isFrame, envsOf]
theorem Room.gen {k : Nat} {A : Around} {elt tg iter : Expr} {scope : Scope} {pos : Pos} {it : Addr} {ge : Env} (r : Room (k + 2) A) :
    Room k (A.in1.in1.over (.compLoop (.GeneratorExp elt [⟨tg, iter, [], 0⟩] scope pos) 0 (.ref it) .none ge) []) := by
  have r2 : Room k A.in1.in1 := (r.in1).in1
  have e1 : (A.in1.in1.over (.compLoop (.GeneratorExp elt [⟨tg, iter, [], 0⟩] scope pos) 0 (.ref it) .none ge) []).depth = A.in1.in1.depth + 1 := by rfl
  have e2 : (A.in1.in1.over (.compLoop (.GeneratorExp elt [⟨tg, iter, [], 0⟩] scope pos) 0 (.ref it) .none ge) []).units = A.in1.in1.units + 3 := by rfl
  have d0 : A.in1.in1.depth = A.depth := by rfl
  have u0 : A.in1.in1.units ≤ A.units + 8 := by
    show A.units + _ + _ ≤ _
    omega
  refine ⟨r2.hd, ?_, ?_⟩
  · have := r.dp; omega
  · have := r.un; omega

/-- the generator is made, asleep -/
theorem gen_made {c P : Addr} {elt tg iter : Expr} {gpos : Pos} {scope : Scope} {own : List (Str × Nat)} {wi : TI} {g : TG} {te : TE} {k : Nat} {sb : Bool} {pins : List (Addr × Obj)} {Q : VK} {Q' : Value → Shared → Prop}
    (hr : Room (k + 2) X.A) (TB : TabB X.base X.mg c P) (hcode : X.env.code = .ref c) (hN : X.N.Nodup) (hc : X.calm = true) (hi : PI X tg iter wi) (ok : BlkOk X.N X.env.scope scope own) (S : GxS scope)
    (hpg : ∀ (A : Around) (s : Shared) (H : Hp) (cl : List (Str × Addr)) (C : Addr) (code : Value) (fp : List Addr), PG (gcx X A s H (genEnv scope cl C code builtinsNs X.env) fp) tg g)
    (hpe : ∀ (A : Around) (s : Shared) (H : Hp) (cl : List (Str × Addr)) (C : Addr) (code : Value) (fp : List Addr), Room k A → PE (gcx X A s H (genEnv scope cl C code builtinsNs X.env) fp) elt te)
    (hs : ∀ v, genFold iter X.env v = pure v) (I : Inv X pins σ H s) (h : tGen sb P wi g te (own.map (·.2)) σ H Q)
    (hQ : ∀ (Xg : Cx) (a : Addr) (gi n : Nat) (ga : Obj) (σg : L2.St) (s5 : Shared) (Fin Stp : Hp → Prop), Xg.prog = X.prog → Xg.w = X.w → (∀ h : Heap, h.get? a = some ga → h.IsGen a gi) → s5.heap.IsGen a gi →
      GSt Xg X.A.in1.in1 [(a, ga)] σg sb Fin Stp a gi n s5 →
      (∀ s' H', Inv Xg [(a, ga)] σg H' s' → Fin H' → EP X pins σ Q (.bool (!sb)) s') → (∀ s' H', Inv Xg [(a, ga)] σg H' s' → Stp H' → EP X pins σ Q (.bool sb) s') → Q' (.ref a) s5) :
    wpAny (model X.prog X.w) X.A (eval (.GeneratorExp elt [⟨tg, iter, [], 0⟩] scope gpos) X.env) Q' X.xe s := by
  have hfree : ∀ y ∈ scope.names, y.2 = .free → ∃ c, X.env.cells.lookup y.1 = some c := fun y hy e =>
    (ok.free y hy e).elim (fun k => I.ok.has _ (.inl k)) fun k => I.ok.has _ (.inr k)
  refine wpAny_GeneratorExp_make S.co (closure_ok hfree) S.cell S.dot ok.kind (by have := hr.dp; omega) ?_ hs
  refine thn (hi.run pins s σ H _ I h) fun xv s1 hx => thn hx fun itv s2 hp => ?_
  obtain ⟨it, fp, tn, J, H2, rfl, I2, Tn, st2, f2, hT, hW⟩ := hp
  obtain ⟨ps, hP, ht⟩ := hT
  have hPs : s2.heap.get? P = some { cls := .none, data := .fields ps } := I2.hok P _ hP
  have cd : PySem.W.CodeHd s2.heap c P := TB.code.keeps fun b u e => I2.bk b u e
  refine ⟨I2.nolimit, ?_⟩
  -- behind the code object: the state s3, the table grown
  have cont : ∀ (code : Value) (h3 : Heap) (tk : Nat) (more : Array Value), Heap.ExtBut P s2.heap h3 → s2.heap.objs.size ≤ h3.objs.size → h3.get? P = some { cls := .none, data := .fields (ps ++ more) } → TriplesOk (ps ++ more).toList →
      wpAny (model X.prog X.w) X.A (builtinsFor X.env.globals X.env.builtins) (fun bi s₄ =>
        ∀ h', h'.Ns s₄.heap.objs.size (fun y => if y = ".0" then some (.ref it) else none) → Heap.SameBut s₄.heap.objs.size (s₄.heap.push { cls := .type "frame", data := .dict #[] }) h' →
          Q' (.ref h'.objs.size) { s₄ with
            gens := s₄.gens.push (.fresh (.compStart (.GeneratorExp elt [⟨tg, iter, [], 0⟩] scope gpos) 0 (.ref it) .none (genEnv scope (cloFrom X.env.cells scope.names []) s₄.heap.objs.size code bi X.env))),
            toks := s₄.toks + 1 + 1 + 1,
            heap := h'.push { cls := .type "generator", data := .fields #[.int s₄.gens.size 0, .str "<genexpr>" (s₄.toks + 1), .str (X.env.qual ++ "<genexpr>") (s₄.toks + 1 + 1)] } }) X.xe { s2 with heap := h3, toks := tk } := by
    intro code h3 tk more hx hsz hP3 ht3
    have keep3 : ∀ b u, b ≠ P → s2.heap.get? b = some u → h3.get? b = some u := fun b u hb e => hx b u hb e
    have I3 : Inv X pins σ (upd H2 P (.tbl (ps ++ more))) { s2 with heap := h3, toks := tk } := inv_tab (g' := s2.gens) (d' := s2.drawn) I2 hP keep3 hP3 I2.bare
    have tb3 : Tabbed P H2 (upd H2 P (.tbl (ps ++ more))) := ⟨⟨_, upd_same, ht3⟩, fun b hb => upd_ne hb⟩
    obtain ⟨bm, ob, e1, e2, e3, e4, e5, e6, e7, e8⟩ := TB.bm
    refine wpAny_builtinsFor (m := X.mg) (by rw [I2.ok.glob]; exact (I2.mod.glob.keeps I2.bk).extBut hx TB.gP) e1 e2 (keep3 _ _ e4 (I2.bk _ _ e5)) e6 e7 e8 ?_
    intro h' hn' hs'
    obtain ⟨W, ⟨m0, w0⟩, turn⟩ := hW _ tb3
    generalize hs3 : ({ s2 with heap := h3, toks := tk } : Shared) = s3 at I3 hs' hn' ⊢
    have eh : s3.heap = h3 := by rw [← hs3]
    have hsz' : h'.objs.size = s3.heap.objs.size + 1 := by rw [hs'.1, Heap.size_push]
    generalize hga : ({ cls := .type "generator", data := .fields #[.int s3.gens.size 0, .str "<genexpr>" (s3.toks + 1), .str (X.env.qual ++ "<genexpr>") (s3.toks + 1 + 1)] } : Obj) = ga
    have keep' : ∀ b o, s3.heap.get? b = some o → (h'.push ga).get? b = some o := fun b o e =>
      Heap.get?_push_of_some _ (hs'.extBut b o (Nat.ne_of_lt (Heap.lt_size e)) (Heap.get?_push_of_some _ e))
    have f3 : ∀ b ∈ fp, FpOk X pins (upd H2 P (.tbl (ps ++ more))) b ∧ b < s3.heap.objs.size := fun b hb => by
      obtain ⟨o, e, _⟩ := Tn.obj _ _ st2 b hb
      have nP : b ≠ P := fun z => by
        have q := (f2 b hb).1
        rw [z, hP] at q; cases q
      refine ⟨⟨?_, (f2 b hb).2⟩, ?_⟩
      · rw [upd_ne nP]; exact (f2 b hb).1
      · rw [eh]; exact Heap.lt_size (keep3 b o nP e)
    have st3 : tn 0 s3.heap := Tn.keep _ _ _ st2 fun b hb o e => by
      have nP : b ≠ P := fun z => by
        have q := (f2 b hb).1
        rw [z, hP] at q; cases q
      rw [eh]; exact keep3 b o nP e
    generalize hge : genEnv scope (cloFrom X.env.cells scope.names []) s3.heap.objs.size code builtinsNs X.env = ge
    generalize hH3 : upd H2 P (.tbl (ps ++ more)) = H3 at I3 f3 w0
    have hfr : (X.A.in1.in1.over (.compLoop (.GeneratorExp elt [⟨tg, iter, [], 0⟩] scope gpos) 0 (.ref it) .none ge) []).frames = some (ge :: X.stack) := by
      rw [over_gen]
      show pushEnvs [ge] X.A.frames = _
      rw [I2.ok.frames]; rfl
    have hga' : (h'.push ga).get? h'.objs.size = some ga := Heap.get?_push_size _ (by rw [← hga]; rfl)
    have hal : s3.heap.objs.size < h'.objs.size := by rw [hsz']; exact Nat.lt_succ_self _
    have hgd : ∀ v, ga.data ≠ .cell v := fun v z => by rw [← hga] at z; cases z
    have hbare : AllBare (s3.gens.push (.fresh (.compStart (.GeneratorExp elt [⟨tg, iter, [], 0⟩] scope gpos) 0 (.ref it) .none ge))) := I3.bare.push rfl
    have I5 := gen_start (A := X.A.in1.in1.over (.compLoop (.GeneratorExp elt [⟨tg, iter, [], 0⟩] scope gpos) 0 (.ref it) .none ge) []) I3 ok S.cell hN f3 hge.symm hfr (by exact I3.ok.hd hc) keep' (hn'.push _) hbare (t5 := s3.toks + 1 + 1 + 1) hga' hal hgd
    have isG : ∀ hh : Heap, hh.get? h'.objs.size = some ga → hh.IsGen h'.objs.size s3.gens.size := fun hh e => ⟨_, _, _, e, by rw [← hga], by rw [← hga], by rw [← hga]⟩
    generalize hXg : gcx X (X.A.in1.in1.over (.compLoop (.GeneratorExp elt [⟨tg, iter, [], 0⟩] scope gpos) 0 (.ref it) .none ge) []) s3 H3 ge fp = Xg at I5
    have backTo : ∀ s' H', Inv Xg [(h'.objs.size, ga)] (wipe σ (own.map (·.2))) H' s' → Inv X pins σ H' s' := fun s' H' J' => by
      subst hXg
      exact I3.call' (ch := fp) J'.os J'.base J'.hok J'.bare fun b hb => ⟨(f3 b hb).1.2.2.2.1, (f3 b hb).1.2.1, (f3 b hb).1.2.2.2.2.1, (f3 b hb).1.2.2.2.2.2⟩
    refine hQ Xg h'.objs.size s3.gens.size (m0 + 1) ga (wipe σ (own.map (·.2))) _ (fun H => Q (.bl (!sb)) H) (fun H => Q (.bl sb) H) (by rw [← hXg]) (by rw [← hXg]) isG (isG _ hga') ?_ (fun s' H' J' q => ⟨.bl (!sb), H', backTo s' H' J', rfl, q⟩) fun s' H' J' q => ⟨.bl sb, H', backTo s' H' J', rfl, q⟩
    refine ⟨isG _ hga', I5.nolimit, hbare, _, Array.getElem?_push_size .., fun s'' e1 e2 e3 => ⟨rfl, ?_⟩⟩
    have t5 : tn 0 s''.heap := by rw [e1]; exact Tn.keep _ _ _ st3 fun b _ o e => keep' b o e
    have hself : ∀ (A' : Around) (Q : Value → Shared → Prop) (E : Value → Shared → Prop), Q (.ref it) s'' → wpAny (model Xg.prog Xg.w) A' (pyIter (.ref it)) Q E s'' := by
      subst hXg
      exact fun A' Q E q => Tn.self A' 0 s'' Q E t5 q
    refine seg_go hself ?_
    · have hrg : Room k Xg.A := by rw [← hXg]; exact Room.gen hr
      have pg := hpg (X.A.in1.in1.over (.compLoop (.GeneratorExp elt [⟨tg, iter, [], 0⟩] scope gpos) 0 (.ref it) .none ge) []) s3 H3 (cloFrom X.env.cells scope.names []) s3.heap.objs.size code fp
      have pe := hpe (X.A.in1.in1.over (.compLoop (.GeneratorExp elt [⟨tg, iter, [], 0⟩] scope gpos) 0 (.ref it) .none ge) []) s3 H3 (cloFrom X.env.cells scope.names []) s3.heap.objs.size code fp (Room.gen hr)
      rw [hge, hXg] at pg pe
      have J5 : Inv Xg [(h'.objs.size, ga)] (wipe σ (own.map (·.2))) H3 s'' := Inv.like I5 e1 e2 e3
      have hco : ge.scope.isCoroutine = false := by rw [← hge]; exact S.co
      refine seg_gen (Xg := Xg) (W := W) (J := J) (tn := tn) (fp := fp) (g := g) (te := te) (by rw [← hXg]) (by rw [← hXg]) (by rw [← hXg]) (by rw [← hXg]; exact hc) (by rw [← hXg]) (by rw [← hXg]) hco (by rw [← hXg]; exact Tn) pg pe (fun b hb p hp => ?_) turn m0 (m0 + 1) 0 H3 s'' s'' (Nat.lt_succ_self _) w0 J5 ?_ fun b hb => (f3 b hb).1.1
      · rw [List.mem_singleton.mp hp]
        exact Ne.symm (Nat.ne_of_lt (Nat.lt_trans (f3 b hb).2 hal))
      · exact t5
  cases hf : codeAmong gpos ps.toList with
  | none =>
    refine wpAny_genexprCodeX hcode (cd.code hPs ht) (cd.tab hPs) hf fun c' h' tk hx hge hlt hco' _ htab' _ => ?_
    obtain ⟨o1, vs, f1, tf, fl, tg', inF, tx, tt, op, _, _, _, _, _, _, _, _, _, htr, _⟩ := hco'
    exact cont _ h' tk _ hx (Nat.le_trans hge (Nat.le_of_lt hlt)) htab'.2 htr
  | some cv =>
    refine wpAny_genexprCode_hit hcode (cd.code hPs ht) hf ?_
    exact cont cv s2.heap s2.toks #[] (Heap.ExtBut.refl _ _) (Nat.le_refl _) (by rw [Array.append_empty]; exact hPs) (by rw [Array.append_empty]; exact ht)

theorem pe_all {c P : Addr} {elt tg iter : Expr} {p pos gpos : Pos} {scope : Scope} {own : List (Str × Nat)} {wi : TI} {g : TG} {te : TE} {k : Nat}
    (hr : Room (k + 2) X.A) (hgl : Gl X "all") (hm : X.mg "all" = none) (hb : bootBuiltins "all" = some (.builtin "all")) (TB : TabB X.base X.mg c P) (hcode : X.env.code = .ref c) (hN : X.N.Nodup) (hc : X.calm = true)
    (hi : PI X tg iter wi) (ok : BlkOk X.N X.env.scope scope own) (S : GxS scope)
    (hpg : ∀ (A : Around) (s : Shared) (H : Hp) (cl : List (Str × Addr)) (C : Addr) (code : Value) (fp : List Addr), PG (gcx X A s H (genEnv scope cl C code builtinsNs X.env) fp) tg g)
    (hpe : ∀ (A : Around) (s : Shared) (H : Hp) (cl : List (Str × Addr)) (C : Addr) (code : Value) (fp : List Addr), Room k A → PE (gcx X A s H (genEnv scope cl C code builtinsNs X.env) fp) elt te)
    (hs : ∀ v, genFold iter X.env v = pure v)
    (he : starEach [.GeneratorExp elt [⟨tg, iter, [], 0⟩] scope gpos] X.env = (false, eval (.GeneratorExp elt [⟨tg, iter, [], 0⟩] scope gpos) X.env) :: starEach [] X.env := by rfl) :
    PE X (.Call (.Name "all" p) [.GeneratorExp elt [⟨tg, iter, [], 0⟩] scope gpos] [] pos) (tGen false P wi g te (own.map (·.2))) := by
  refine ⟨fun pins s σ H Q I h => ?_⟩
  refine wpAny_Call_Name_kw (ld_blt I hgl hm hb ?_)
  refine PyProof.Rows.callWith_builtin1 ?_ he (by rfl)
  rw [he]
  show wpAny _ _ (spliced ((false, eval (.GeneratorExp elt [⟨tg, iter, [], 0⟩] scope gpos) X.env) :: backTo pos (starEach [] X.env))) _ _ s
  refine Calls.spliced_cons (gen_made hr TB hcode hN hc hi ok S hpg hpe hs I h fun Xg a gi n ga σg s5 Fin Stp x1 x2 isG hgen st fin stp => ?_)
  refine Calls.spliced_nil ?_
  refine call_function_tree F.kind_all F.plain_all F.entry_all (F.args_all1 _) ?_
  unfold Builtin.«all»
  refine wpAny_bind (m := oneArg "all" _) (wpAny_pure ?_)
  refine wpAny_bind (wpAny_pyIter_gen hgen ?_)
  have hd : X.A.depth < recursionLimit := by have := hr.dp; omega
  refine wpAny_pure ⟨plainId_quiet F.plain_all_loop _, ?_⟩
  rw [← x1, ← x2]
  exact gen_all (A := X.A) hr.hd hd (List.mem_singleton.mpr rfl) isG (fun s' H' J f => fin s' H' J f) (fun s' H' J f => stp s' H' J f) n s5 st

theorem pe_any {c P : Addr} {elt tg iter : Expr} {p pos gpos : Pos} {scope : Scope} {own : List (Str × Nat)} {wi : TI} {g : TG} {te : TE} {k : Nat}
    (hr : Room (k + 2) X.A) (hgl : Gl X "any") (hm : X.mg "any" = none) (hb : bootBuiltins "any" = some (.builtin "any")) (TB : TabB X.base X.mg c P) (hcode : X.env.code = .ref c) (hN : X.N.Nodup) (hc : X.calm = true)
    (hi : PI X tg iter wi) (ok : BlkOk X.N X.env.scope scope own) (S : GxS scope)
    (hpg : ∀ (A : Around) (s : Shared) (H : Hp) (cl : List (Str × Addr)) (C : Addr) (code : Value) (fp : List Addr), PG (gcx X A s H (genEnv scope cl C code builtinsNs X.env) fp) tg g)
    (hpe : ∀ (A : Around) (s : Shared) (H : Hp) (cl : List (Str × Addr)) (C : Addr) (code : Value) (fp : List Addr), Room k A → PE (gcx X A s H (genEnv scope cl C code builtinsNs X.env) fp) elt te)
    (hs : ∀ v, genFold iter X.env v = pure v)
    (he : starEach [.GeneratorExp elt [⟨tg, iter, [], 0⟩] scope gpos] X.env = (false, eval (.GeneratorExp elt [⟨tg, iter, [], 0⟩] scope gpos) X.env) :: starEach [] X.env := by rfl) :
    PE X (.Call (.Name "any" p) [.GeneratorExp elt [⟨tg, iter, [], 0⟩] scope gpos] [] pos) (tGen true P wi g te (own.map (·.2))) := by
  refine ⟨fun pins s σ H Q I h => ?_⟩
  refine wpAny_Call_Name_kw (ld_blt I hgl hm hb ?_)
  refine PyProof.Rows.callWith_builtin1 ?_ he (by rfl)
  rw [he]
  show wpAny _ _ (spliced ((false, eval (.GeneratorExp elt [⟨tg, iter, [], 0⟩] scope gpos) X.env) :: backTo pos (starEach [] X.env))) _ _ s
  refine Calls.spliced_cons (gen_made hr TB hcode hN hc hi ok S hpg hpe hs I h fun Xg a gi n ga σg s5 Fin Stp x1 x2 isG hgen st fin stp => ?_)
  refine Calls.spliced_nil ?_
  refine call_function_tree F.kind_any F.plain_any F.entry_any (F.args_any1 _) ?_
  unfold Builtin.«any»
  refine wpAny_bind (m := oneArg "any" _) (wpAny_pure ?_)
  refine wpAny_bind (wpAny_pyIter_gen hgen ?_)
  have hd : X.A.depth < recursionLimit := by have := hr.dp; omega
  refine wpAny_pure ⟨plainId_quiet F.plain_any_loop _, ?_⟩
  rw [← x1, ← x2]
  exact gen_any (A := X.A) hr.hd hd (List.mem_singleton.mpr rfl) isG (fun s' H' J f => fin s' H' J f) (fun s' H' J f => stp s' H' J f) n s5 st
end
end GxM
set_option Elab.async false
set_option linter.all false
set_option autoImplicit false
set_option maxRecDepth 100000
set_option maxHeartbeats 1000000
/-! Mp, part 7: calls, iterables, comprehensions, generator expressions -/
namespace Mp
open PySem PySem.Spec L2
open PyProof.Rows hiding St

variable {K : PySem.W.Frag} {T : List Addr}

/-! what a text must look like, by its shape alone -/
def isStar : Expr → Bool
  | .Starred _ _ => true
  | _ => false
theorem star_1 {e : Expr} {es : List Expr} {env : Env} (h : isStar e = false) : starEach (e :: es) env = (false, eval e env) :: starEach es env := by
  cases e <;> first | rfl | (cases h)
theorem star_any : ∀ {es : List Expr} {env : Env} {pos : Pos}, es.all (fun e => !isStar e) = true → (backTo pos (starEach es env)).any (·.1) = false
  | [], _, _, _ => rfl
  | e :: es, env, pos, h => by
    simp only [List.all_cons, Bool.and_eq_true] at h
    rw [star_1 (by simpa using h.1)]
    show (false || (backTo pos (starEach es env)).any (·.1)) = false
    rw [Bool.false_or]
    exact star_any h.2
theorem star_all : ∀ {es : List Expr} {env : Env} {pos : Pos}, es.all (fun e => !isStar e) = true → (backTo pos (starEach es env)).all (fun x => !x.1) = true
  | [], _, _, _ => rfl
  | e :: es, env, pos, h => by
    simp only [List.all_cons, Bool.and_eq_true] at h
    rw [star_1 (by simpa using h.1)]
    show (true && (backTo pos (starEach es env)).all (fun x => !x.1)) = true
    rw [Bool.true_and]
    exact star_all h.2
def plainBase : Expr → Bool
  | .Call (.Name _ _) [] [] _ => false
  | _ => true
theorem base_ok {o : Expr} {name : Str} {env : Env} (h : plainBase o = true) : attributeBase o name env (eval o env) = eval o env := by
  unfold attributeBase
  split
  · cases h
  · rfl

section
variable {X : Cx} {a b c e : Expr} {es : List Expr} {f g h3 : Fn} {pos pos2 p p2 : Pos}

theorem le_callB {id : String} {x : Str} {k : List D → Hs → Rs} (hc : CallR X (.builtin id) (rn X.K T k)) (hg : Gl X x) (hm : X.mg x = none) (hv : bootBuiltins x = some (.builtin id)) (ha : PA X (e :: es) (LA X.K T f))
    (hs : (e :: es).all (fun e => !isStar e) = true) (hn : x ≠ "__name__") (hdb : (x == ("__debug__" : Str)) = false) : PE X (.Call (.Name x p) (e :: es) [] pos) (LE X.K T (argD f k)) := by
  have h1 := hs
  simp only [List.all_cons, Bool.and_eq_true] at h1
  exact le_args (pe_callB hc hg hm hv ha hn hdb (star_1 (by simpa using h1.1)) (star_any h1.2))
theorem le_callTy {id : String} {x : Str} {k : List D → Hs → Rs} (hc : CallR X (.type id) (rn X.K T k)) (hg : Gl X x) (hm : X.mg x = none) (hv : bootBuiltins x = some (.type id)) (ha : PA X (e :: es) (LA X.K T f))
    (hs : (e :: es).all (fun e => !isStar e) = true) (hn : x ≠ "__name__") (hdb : (x == ("__debug__" : Str)) = false) : PE X (.Call (.Name x p) (e :: es) [] pos) (LE X.K T (argD f k)) := by
  have h1 := hs
  simp only [List.all_cons, Bool.and_eq_true] at h1
  exact le_args (pe_callTy hc hg hm hv ha hn hdb (star_1 (by simpa using h1.1)) (star_any h1.2))
theorem le_isi (c : Ty) {x : Str} (hg : Gl X "isinstance") (hm : X.mg "isinstance" = none) (hb : bootBuiltins "isinstance" = some (.builtin "isinstance")) (hg2 : Gl X x) (hm2 : X.mg x = none) (hv : bootBuiltins x = some (.type c.nm)) (ha : PE X a (LE X.K T f))
    (hs : isStar a = false) (hn : x ≠ "__name__") (hdb : (x == ("__debug__" : Str)) = false) : PE X (.Call (.Name "isinstance" p) [a, .Name x p2] [] pos) (LE X.K T fun ς G => bnd (f ς G) (isiD c)) := by
  have hty : PE X (.Name x p2) (tC (.ty c.nm)) := pe_bltn hg2 hm2 hv rfl hn hdb
  refine (pe_callB call_isi hg hm hb (pa_cons ha (pa_cons hty pa_nil rfl) (star_1 hs)) (by decide) (by decide) (star_1 hs) (by rfl)).imp fun σ H Q ⟨ι, F, ς, G, R, S, h⟩ => ?_
  obtain ⟨d, G1, e1, h⟩ := h.bnd
  refine ⟨ι, F, ς, G, R, S, d, G1, e1, fun w' v x R' r => ?_⟩
  obtain ⟨t, et, h'⟩ := (h w' v x R' r).ofBind
  exact ⟨v, .ty c.nm, .type t, .type c.nm, _, rfl, .ty _, tyD_at R' r et, kit_names c (tyD_names et), h'.now R' rfl⟩

/-! methods -/
inductive MTy where
  | list | str | dict
def MTy.nm : MTy → String
  | .list => "list" | .str => "str" | .dict => "dict"
def hasTy (t : MTy) (d : D) (G : Hs) : Bool := match t with
  | .list => (roOf G d).isSome
  | .str => match d with | .str _ => true | _ => false
  | .dict => match d with | .ref n => (match G[n]? with | some (.dct _) => true | _ => false) | _ => false
theorem hasTy_at {w : Wd} {G : Hs} (R : Rel K T w G) {t : MTy} {d : D} {v : V} (r : RV K w d v) (e : hasTy t d G = true) : tyV K t.nm v w.H := by
  cases t with
  | list =>
    obtain ⟨ds, e⟩ := Option.isSome_iff_exists.mp e
    obtain ⟨a, vs, rfl, h1, _⟩ := roOf_at R r e
    exact .inl ⟨rfl, vs, h1⟩
  | str =>
    cases d <;> first | (cases e; done) | skip
    rw [rv_str r]; rfl
  | dict =>
    cases d <;> first | (cases e; done) | skip
    simp only [hasTy] at e
    split at e
    · rename_i n _ kvs eg
      obtain ⟨a, us, rfl, _, _, h1, _⟩ := dct_at R r eg
      exact .inr (.inr (.inl ⟨rfl, .inl ⟨us, h1⟩⟩))
    · cases e
def mthD (t : MTy) (f g : Fn) (k : D → List D → Hs → Rs) (ς : Env') (G : Hs) : Rs :=
  bnd (f ς G) fun o G1 => if hasTy t o G1 = true then bnd (g ς G1) fun xs G2 => match xs with | .tup ds => k o ds G2 | _ => none else none
theorem le_mth {t : MTy} {id : String} {name : Str} {k : D → List D → Hs → Rs} (pa : PlainAttrs t.nm) (slot : Slot t.nm name id) (hty : typeOf (.builtin id) = pure (.type "method_descriptor")) (hm : MtR X id (rm X.K T k))
    (ho : PE X a (LE X.K T f)) (ha : PA X (e :: es) (LA X.K T g)) (hb : plainBase a = true) (hs : (e :: es).all (fun e => !isStar e) = true) (hl : (e :: es).length < 30) (hline : (p.endLine == pos.line) = true) :
    PE X (.Call (.Attribute a name p) (e :: es) [] pos) (LE X.K T (mthD t f g k)) := by
  have h1 := hs
  simp only [List.all_cons, Bool.and_eq_true] at h1
  refine (pe_bm pa slot hty hm ho ha (base_ok hb) ?_ hline (star_1 (by simpa using h1.1)) (star_any h1.2)).imp fun σ H Q ⟨ι, F, ς, G, R, S, h⟩ => ?_
  · rw [star_all hs]
    show (true && true && decide ((e :: es).length + 0 + 0 < 30)) = true
    rw [decide_eq_true (by omega)]; rfl
  · obtain ⟨o, G1, e1, h⟩ := h.bnd
    refine ⟨ι, F, ς, G, R, S, o, G1, e1, fun w1 ov x1 R1 r1 => ?_⟩
    obtain ⟨ht, h'⟩ := (h w1 ov x1 R1 r1).ite
    refine ⟨hasTy_at R1 r1 ht, ?_⟩
    obtain ⟨ds, G2, e2, h''⟩ := LiftL.bnd h'
    exact ⟨w1.ι, w1.F, ς, G1, R1, S.ext x1.toExt, ds, G2, e2, fun w2 vs x2 R2 r2 => ⟨w2.ι, w2.F, G2, o, ds, R2, RV.ext x2.toExt _ _ r1, r2, h'' w2 x2⟩⟩
theorem le_mth0 {t : MTy} {id : String} {name : Str} {k : D → List D → Hs → Rs} (pa : PlainAttrs t.nm) (slot : Slot t.nm name id) (hty : typeOf (.builtin id) = pure (.type "method_descriptor")) (hm : MtR X id (rm X.K T k))
    (ho : PE X a (LE X.K T f)) (hb : plainBase a = true) (hline : (p.endLine == pos.line) = true) :
    PE X (.Call (.Attribute a name p) [] [] pos) (LE X.K T fun ς G => bnd (f ς G) fun o G1 => if hasTy t o G1 = true then k o [] G1 else none) := by
  refine (pe_bm0 pa slot hty hm ho (base_ok hb) hline).imp fun σ H Q ⟨ι, F, ς, G, R, S, h⟩ => ?_
  obtain ⟨o, G1, e1, h⟩ := h.bnd
  refine ⟨ι, F, ς, G, R, S, o, G1, e1, fun w1 ov x1 R1 r1 => ?_⟩
  obtain ⟨ht, h'⟩ := (h w1 ov x1 R1 r1).ite
  exact ⟨hasTy_at R1 r1 ht, w1.ι, w1.F, G1, o, [], R1, r1, rfl, h'⟩

/-! own functions -/
def spD (K : PySem.W.Frag) (T : List Addr) (n : Nat) (k : List D → Hs → Rs) : Sp := fun vs H Q _ =>
  vs.length = n ∧ ∃ ι F G ds, Rel K T ⟨ι, F, H⟩ G ∧ RVs K ⟨ι, F, H⟩ ds vs ∧ Lift K T ⟨ι, F, H⟩ (k ds G) Q
/-- a def that stands under the name x -/
structure Own (X : Cx) (T : List Addr) (kl : Nat) (x : Str) (n : Nat) (k : List D → Hs → Rs) : Prop where
  ex : ∃ (fa : Addr) (fd : FuncData) (ps : List Str), FnOk X.prog X.w X.K X.mg X.base CX0 kl fa fd ps (spD X.K T n k) ∧ X.mg x = some (.ref fa) ∧ PySem.W.keepIn X.K (.ref fa) = true ∧ Binds X.K fd ps []
theorem le_call {kl n : Nat} {x : Str} {k : List D → Hs → Rs} (ow : Own X T kl x n k) (hr : Room kl X.A) (hg : Gl X x) (ha : PA X (e :: es) (LA X.K T f)) (hs : (e :: es).all (fun e => !isStar e) = true) (hdb : (x == ("__debug__" : Str)) = false) :
    PE X (.Call (.Name x p) (e :: es) [] pos) (LE X.K T (argD f fun ds G => if ds.length = n then k ds G else none)) := by
  have h1 := hs
  simp only [List.all_cons, Bool.and_eq_true] at h1
  obtain ⟨fa, fd, ps, F, hm, hk, hb⟩ := ow.ex
  refine (pe_call F hr hg hm hk hb .nil pass0 ha hdb (star_1 (by simpa using h1.1)) (star_any h1.2)).imp fun σ H Q ⟨ι, F, ς, G, R, S, h⟩ => ?_
  obtain ⟨ds, G1, e1, h⟩ := LiftL.bnd h
  refine ⟨ι, F, ς, G, R, S, ds, G1, e1, fun w' vs x R' r => ?_⟩
  obtain ⟨hn, h'⟩ := (h w' x).ite
  rw [List.append_nil]
  exact ⟨by rw [← r.len]; exact hn, w'.ι, w'.F, G1, ds, R', r, h'⟩
theorem le_call0 {kl : Nat} {x : Str} {k : List D → Hs → Rs} (ow : Own X T kl x 0 k) (hr : Room kl X.A) (hg : Gl X x) (hdb : (x == ("__debug__" : Str)) = false) :
    PE X (.Call (.Name x p) [] [] pos) (LE X.K T fun _ G => k [] G) := by
  obtain ⟨fa, fd, ps, F, hm, hk, hb⟩ := ow.ex
  refine (pe_call0 F hr hg hm hk hb .nil pass0 hdb).imp fun σ H Q ⟨ι, F, ς, G, R, S, h⟩ => ?_
  exact ⟨rfl, ι, F, G, [], R, rfl, h⟩

/-! list(range(..)), list(reversed(..)) -/
def rgN (lo c : Int) (n : Nat) : List D := (List.range n).map fun i => .int (lo + (i : Nat) * c)
/-- the bounds of a range: start, step, how many -/
def rgA : List D → Option (Int × Int × Nat)
  | [.int j] => if -(2 ^ 62) ≤ j ∧ j < 2 ^ 62 then some (0, 1, j.toNat) else none
  | [.int i, .int j] => if -(2 ^ 62) ≤ i ∧ i < 2 ^ 62 ∧ -(2 ^ 62) ≤ j ∧ j < 2 ^ 62 then some (i, 1, (j - i).toNat) else none
  | [.int i, .int j, .int c] => if c ≠ 0 ∧ c.natAbs < 1073741824 ∧ Builtin.Range.small i j c = true ∧ 0 ≤ Builtin.Range.rangeSize i j c then some (i, c, (Builtin.Range.rangeSize i j c).toNat) else none
  | _ => none
theorem ints_rvs {w : Wd} (g : Nat → Int) : ∀ n : List Nat, RVs K w (n.map fun i => D.int (g i)) (n.map fun i => V.int (g i))
  | [] => rfl
  | x :: r => ⟨_, _, rfl, rfl, ints_rvs g r⟩
theorem rgN_rvs {w : Wd} (lo c : Int) (n : Nat) : RVs K w (rgN lo c n) (rcV lo c n) := ints_rvs (fun i => lo + (i : Nat) * c) _
def lrgK (m : Bool) (ds : List D) (G : Hs) : Rs := (rgA ds).bind fun q => if q.2.2 ≤ 2 ^ 24 then newD m (rgN q.1 q.2.1 q.2.2) G else none
theorem rgV_rcV (i j : Int) : rgV i j = rcV i 1 (j - i).toNat := by
  unfold rgV rcV
  congr 1
  funext k
  rw [Int.mul_one]
theorem consE {f g : Fn} {ς : Env'} {G G' : Hs} {ds : List D} (h : consD f g ς G = some (.tup ds, G')) : ∃ x r G1, f ς G = some (x, G1) ∧ g ς G1 = some (.tup r, G') ∧ ds = x :: r := by
  obtain ⟨x, G1, e1, h⟩ := bnd_eq h
  obtain ⟨xs, G2, e2, h⟩ := bnd_eq h
  cases xs <;> first | (cases h; done) | skip
  cases h
  exact ⟨x, _, G1, e1, e2, rfl⟩
theorem le_lrg1 (m : Bool) (hc : X.calm = true) (hg : Gl X "list") (hm : X.mg "list" = none) (hg2 : Gl X "range") (hm2 : X.mg "range" = none) (ha : PE X a (LE X.K T f)) (hs : isStar a = false) :
    PE X (.Call (.Name "list" p) [.Call (.Name "range" p2) [a] [] pos2] [] pos) (LE X.K T (argD (consD f fun _ G => some (.tup [], G)) (lrgK m))) := by
  refine (pe_listRg hc hg hm (prg_1 hg2 hm2 ha (star_1 hs)) (by rfl)).imp fun σ H Q ⟨ι, F, ς, G, R, S, h⟩ => ?_
  obtain ⟨ds, G1, e1, h⟩ := LiftL.bnd h
  obtain ⟨x, r, G2, e2, e3, e4⟩ := consE e1
  cases e3
  subst e4
  refine ⟨ι, F, ς, G, R, S, x, G1, e2, fun w' v x' R' r => ?_⟩
  obtain ⟨q, eq, h'⟩ := (h w' x').ofBind
  obtain ⟨hl, h'⟩ := h'.ite
  cases x <;> first | (cases eq; done) | skip
  rename_i j
  simp only [rgA] at eq
  split at eq
  · rename_i hb
    cases eq
    refine ⟨j, r, ⟨by omega, by omega, hb.1, hb.2, by simpa using hl⟩, ?_⟩
    rw [rgV_rcV, Int.sub_zero]
    exact h'.newM R' (rgN_rvs 0 1 j.toNat)
  · cases eq
theorem le_lrg2 (m : Bool) (hc : X.calm = true) (hg : Gl X "list") (hm : X.mg "list" = none) (hg2 : Gl X "range") (hm2 : X.mg "range" = none) (ha : PE X a (LE X.K T f)) (hb : PE X b (LE X.K T g)) (hs : isStar a = false) (hs2 : isStar b = false) :
    PE X (.Call (.Name "list" p) [.Call (.Name "range" p2) [a, b] [] pos2] [] pos) (LE X.K T (argD (consD f (consD g fun _ G => some (.tup [], G))) (lrgK m))) := by
  refine (pe_listRg hc hg hm (prg_2 hg2 hm2 ha hb (star_1 hs) (star_1 hs2) (star_any (by simp [hs2]))) (by rfl)).imp fun σ H Q ⟨ι, F, ς, G, R, S, h⟩ => ?_
  obtain ⟨ds, G1, e1, h⟩ := LiftL.bnd h
  obtain ⟨x, r, G2, e2, e3, e4⟩ := consE e1
  obtain ⟨y, r2, G3, e5, e6, e7⟩ := consE e3
  cases e6
  subst e4 e7
  refine ⟨ι, F, ς, G, R, S, x, G2, e2, fun w1 v x1 R1 r1 => ?_⟩
  refine ⟨w1.ι, w1.F, ς, G2, R1, S.ext x1.toExt, y, G1, e5, fun w' u x' R' r => ?_⟩
  obtain ⟨q, eq, h'⟩ := (h w' (x1.trans x')).ofBind
  obtain ⟨hl, h'⟩ := h'.ite
  cases x <;> first | (cases eq; done) | skip
  cases y <;> first | (cases eq; done) | skip
  rename_i i j
  simp only [rgA] at eq
  split at eq
  · rename_i hb
    cases eq
    refine ⟨i, j, rv_int r1, rv_int r, ⟨hb.1, hb.2.1, hb.2.2.1, hb.2.2.2, hl⟩, ?_⟩
    rw [rgV_rcV]
    exact h'.newM R' (rgN_rvs i 1 _)
  · cases eq
theorem rga3 {x y z : D} {q : Int × Int × Nat} (e : rgA [x, y, z] = some q) : ∃ i j c n, x = .int i ∧ y = .int j ∧ z = .int c ∧ RgC i j c n ∧ q = (i, c, n) := by
  unfold rgA at e
  split at e
  · rename_i h; cases h
  · rename_i h; cases h
  · rename_i i j c h
    cases h
    split at e
    · rename_i hb; cases e; exact ⟨i, j, c, _, rfl, rfl, rfl, ⟨hb.1, hb.2.1, hb.2.2.1, (Int.toNat_of_nonneg hb.2.2.2).symm⟩, rfl⟩
    · cases e
  · cases e
theorem le_lrg3 (m : Bool) (hc : X.calm = true) (hg : Gl X "list") (hm : X.mg "list" = none) (hg2 : Gl X "range") (hm2 : X.mg "range" = none) (ha : PA X [a, b, c] (LA X.K T f)) (hs : [a, b, c].all (fun e => !isStar e) = true) :
    PE X (.Call (.Name "list" p) [.Call (.Name "range" p2) [a, b, c] [] pos2] [] pos) (LE X.K T (argD f (fun ds G => if ds.length = 3 then lrgK m ds G else none))) := by
  have h1 := hs
  rw [List.all_cons, Bool.and_eq_true] at h1
  refine (pe_listRg3 hc hg hm hg2 hm2 ha (star_1 (by simpa using h1.1)) (star_any h1.2) (by rfl)).imp fun σ H Q ⟨ι, F, ς, G, R, S, h⟩ => ?_
  obtain ⟨ds, G1, e1, h⟩ := LiftL.bnd h
  refine ⟨ι, F, ς, G, R, S, ds, G1, e1, fun w' vs x' R' r => ?_⟩
  obtain ⟨h3, h'⟩ := (h w' x').ite
  match ds, h3, r, h' with
  | [x, y, z], _, r, h' =>
    obtain ⟨q, eq, h'⟩ := h'.ofBind
    obtain ⟨hl, h'⟩ := h'.ite
    obtain ⟨i, j, c, n, rfl, rfl, rfl, hb, rfl⟩ := rga3 eq
    obtain ⟨v1, t1, rfl, r1, r⟩ := r
    obtain ⟨v2, t2, rfl, r2, r⟩ := r
    obtain ⟨v3, rfl, r3⟩ := r.one
    rw [rv_int r1, rv_int r2, rv_int r3]
    exact ⟨i, j, c, n, rfl, hb, hl, h'.newM R' (rgN_rvs i c _)⟩
def lrevK (m : Bool) (d : D) (G : Hs) : Rs := (roOf G d).bind fun ds => newD m ds.reverse G
theorem le_lrev (m : Bool) (hc : X.calm = true) (hg : Gl X "list") (hm : X.mg "list" = none) (hg2 : Gl X "reversed") (hm2 : X.mg "reversed" = none) (ha : PE X a (LE X.K T f)) (hs : isStar a = false) :
    PE X (.Call (.Name "list" p) [.Call (.Name "reversed" p2) [a] [] pos2] [] pos) (LE X.K T fun ς G => bnd (f ς G) (lrevK m)) := by
  refine (pe_lstRev hc hg hm hg2 hm2 ha (star_1 hs) (by rfl)).imp fun σ H Q ⟨ι, F, ς, G, R, S, h⟩ => ?_
  obtain ⟨d, G1, e1, h⟩ := h.bnd
  refine ⟨ι, F, ς, G, R, S, d, G1, e1, fun w' v x' R' r => ?_⟩
  obtain ⟨ds, e, h'⟩ := (h w' v x' R' r).ofBind
  obtain ⟨a, vs, rfl, h1, h2⟩ := roOf_at R' r e
  exact ⟨a, vs, rfl, h1, h'.newM R' h2.reverse⟩
end
end Mp
set_option Elab.async false
set_option linter.all false
set_option autoImplicit false
set_option maxRecDepth 100000
set_option maxHeartbeats 1000000
/-! Mp, part 8: iterables, targets -/
namespace Mp
open PySem PySem.Spec L2
open PyProof.Rows hiding St

variable {K : PySem.W.Frag} {T : List Addr}

/-- an iterator that hands out the items ds, whatever lies between -/
def JOk (K : PySem.W.Frag) (T : List Addr) (w : Wd) (J : It) (ds : List D) : Prop :=
  ∀ w' G', Ex2 K w w' → Rel K T w' G' →
    (∀ (i : Nat) d, ds[i]? = some d → J.go i w'.H ∧ ∀ x H', J.yld i w'.H x H' → ∃ w'', w''.H = H' ∧ Ex2 K w' w'' ∧ Rel K T w'' G' ∧ RV K w'' d x) ∧ J.stop ds.length w'.H
def LiftI (K : PySem.W.Frag) (T : List Addr) (w : Wd) (r : Rs) (Q : It → Hp → Prop) : Prop :=
  ∃ ds G', r = some (.tup ds, G') ∧ ∀ w' J, Ex2 K w w' → Rel K T w' G' → JOk K T w' J ds → Q J w'.H
def LI (K : PySem.W.Frag) (T : List Addr) (f : Fn) : TI := fun σ H Q =>
  ∃ ι F ς G, Rel K T ⟨ι, F, H⟩ G ∧ RS K ⟨ι, F, H⟩ ς σ ∧ LiftI K T ⟨ι, F, H⟩ (f ς G) Q
theorem _root_.L2.PI.imp {X : Cx} {tg e : Expr} {t t' : TI} (h : PI X tg e t) (m : ∀ σ H Q, t' σ H Q → t σ H Q) : PI X tg e t' := ⟨fun pins s σ H Q I q => h.run pins s σ H Q I (m σ H Q q)⟩

/-! the iterators of the layer -/
theorem jok_lst {w : Wd} {a : Addr} {vs : List V} {ds : List D} (h : LOk w a vs) (r : RVs K w ds vs) : JOk K T w (Itl K a) ds := by
  intro w' G' x R'
  have h' : SqL K w'.H a vs := (x.toExt.lst a vs h).sq
  have r' := r.ext x.toExt
  refine ⟨fun i d e => ?_, vs, h', Nat.le_of_eq r.len.symm⟩
  obtain ⟨v, ev, rv⟩ := r'.get e
  refine ⟨⟨vs, v, h', ev⟩, fun y H' ⟨e1, e2⟩ => ?_⟩
  have ey := e2 vs h'
  rw [ev] at ey; cases ey
  exact ⟨w', e1.symm, Ex2.refl, R', rv⟩
theorem jok_fz {w : Wd} {a : Addr} {vs : List V} {ds : List D} (h : FOk K w.H a vs) (r : RVs K w ds vs) : JOk K T w (Itl K a) ds := by
  intro w' G' x R'
  have h' : SqL K w'.H a vs := (x.toExt.fz a vs h).sq
  have r' := r.ext x.toExt
  refine ⟨fun i d e => ?_, vs, h', Nat.le_of_eq r.len.symm⟩
  obtain ⟨v, ev, rv⟩ := r'.get e
  refine ⟨⟨vs, v, h', ev⟩, fun y H' ⟨e1, e2⟩ => ?_⟩
  have ey := e2 vs h'
  rw [ev] at ey; cases ey
  exact ⟨w', e1.symm, Ex2.refl, R', rv⟩
theorem jok_tup {w : Wd} {a : Addr} {vs : List V} {ds : List D} (h : SqT K w.H a vs) (r : RVs K w ds vs) : JOk K T w (Itt K a) ds := by
  intro w' G' x R'
  have h' : SqT K w'.H a vs := x.toExt.tup a vs h
  have r' := r.ext x.toExt
  refine ⟨fun i d e => ?_, vs, h', Nat.le_of_eq r.len.symm⟩
  obtain ⟨v, ev, rv⟩ := r'.get e
  refine ⟨⟨vs, v, h', ev⟩, fun y H' ⟨e1, e2⟩ => ?_⟩
  have ey := e2 vs h'
  rw [ev] at ey; cases ey
  exact ⟨w', e1.symm, Ex2.refl, R', rv⟩
theorem jok_rng {w : Wd} {lo : Int} {n : Nat} : JOk K T w (Itr lo n) (rgN lo 1 n) := by
  intro w' G' x R'
  have hl : (rgN lo 1 n).length = n := by unfold rgN; simp
  refine ⟨fun i d e => ?_, by show n ≤ _; rw [hl]; exact Nat.le_refl _⟩
  have hi : i < n := by rw [← hl]; exact (List.getElem?_eq_some_iff.mp e).1
  refine ⟨hi, fun y H' ⟨e1, e2⟩ => ⟨w', e1.symm, Ex2.refl, R', ?_⟩⟩
  unfold rgN at e
  rw [List.getElem?_map, List.getElem?_range hi] at e
  cases e
  rw [e2]
  show V.int (lo + (i : Nat)) = V.int (lo + (i : Nat) * 1)
  rw [Int.mul_one]
theorem jok_rgc {w : Wd} {lo c : Int} {n : Nat} : JOk K T w (Itc lo c n) (rgN lo c n) := by
  intro w' G' x R'
  have hl : (rgN lo c n).length = n := by unfold rgN; simp
  refine ⟨fun i d e => ?_, by show n ≤ _; rw [hl]; exact Nat.le_refl _⟩
  have hi : i < n := by rw [← hl]; exact (List.getElem?_eq_some_iff.mp e).1
  refine ⟨hi, fun y H' ⟨e1, e2⟩ => ⟨w', e1.symm, Ex2.refl, R', ?_⟩⟩
  unfold rgN at e
  rw [List.getElem?_map, List.getElem?_range hi] at e
  cases e
  rw [e2]; rfl
theorem jok_str {w : Wd} {cs : List Nat} : JOk K T w (Its ⟨cs.toArray⟩) (cs.map fun c => .str [c]) := by
  intro w' G' x R'
  refine ⟨fun i d e => ?_, by show (cs.toArray).size ≤ _; simp⟩
  rw [List.getElem?_map] at e
  cases ec : cs[i]? with
  | none => rw [ec] at e; cases e
  | some c =>
    rw [ec] at e; cases e
    have hi : i < cs.length := (List.getElem?_eq_some_iff.mp ec).1
    refine ⟨by show i < (cs.toArray).size; simpa using hi, fun y H' ⟨e1, c', e2, e3⟩ => ⟨w', e1.symm, Ex2.refl, R', ?_⟩⟩
    have e2 : cs.toArray[i]? = some c' := e2
    rw [List.getElem?_toArray, ec] at e2
    cases e2
    exact e3
theorem jok_zip {w : Wd} {a b : Addr} {vs us : List V} {ds es : List D} (h : SqT K w.H a vs) (r : RVs K w ds vs) (g : SqT K w.H b us) (q : RVs K w es us) :
    JOk K T w (Izt K a b (min vs.length us.length)) (List.zipWith (fun x y => .tup [x, y]) ds es) := by
  intro w' G' x R'
  have h' : SqT K w'.H a vs := x.toExt.tup a vs h
  have g' : SqT K w'.H b us := x.toExt.tup b us g
  have r' := r.ext x.toExt
  have q' := q.ext x.toExt
  have hl : (List.zipWith (fun x y => D.tup [x, y]) ds es).length = min vs.length us.length := by rw [List.length_zipWith, r.len, q.len]
  refine ⟨fun i d e => ?_, hl, vs, us, h', g', rfl⟩
  have hi : i < min vs.length us.length := by rw [← hl]; exact (List.getElem?_eq_some_iff.mp e).1
  refine ⟨⟨hi, vs, us, h', g', by omega, by omega, rfl⟩, fun y H' hy => ?_⟩
  obtain ⟨Tp, v, u, rfl, hT, rfl, e1, e2⟩ := hy
  rw [List.getElem?_zipWith] at e
  cases ex : ds[i]? with
  | none => rw [ex] at e; cases e
  | some dx =>
    cases ey : es[i]? with
    | none => rw [ex, ey] at e; cases e
    | some dy =>
      rw [ex, ey] at e; cases e
      obtain ⟨v', e3, rv⟩ := r'.get ex
      obtain ⟨u', e4, ru⟩ := q'.get ey
      rw [e1 vs h'] at e3; cases e3
      rw [e2 us g'] at e4; cases e4
      have x2 : Ex2 K w' ⟨w'.ι, w'.F, upd w'.H Tp (.tup [v, u])⟩ := Ex2.newTup hT
      refine ⟨⟨w'.ι, w'.F, upd w'.H Tp (.tup [v, u])⟩, rfl, x2, R'.newTup hT, Tp, [v, u], rfl, .of upd_same, v, [u], rfl, RV.ext x2.toExt _ _ rv, u, [], rfl, RV.ext x2.toExt _ _ ru, rfl⟩
theorem jok_enum {w : Wd} {a : Addr} {vs : List V} {ds : List D} (h : ∀ w', Ex2 K w w' → SqL K w'.H a vs) (r : RVs K w ds vs) :
    JOk K T w (Ite K a) (ds.zipIdx.map fun p => .tup [.int (p.2 : Nat), p.1]) := by
  intro w' G' x R'
  have h' := h w' x
  have r' := r.ext x.toExt
  refine ⟨fun i d e => ?_, vs, h', by rw [List.length_map, List.length_zipIdx]; exact Nat.le_of_eq r.len.symm⟩
  rw [List.getElem?_map, List.getElem?_zipIdx] at e
  cases ex : ds[i]? with
  | none => rw [ex] at e; cases e
  | some dx =>
    rw [ex] at e
    simp only [Option.map_some, Nat.zero_add] at e
    cases e
    obtain ⟨v', e3, rv⟩ := r'.get ex
    refine ⟨⟨vs, v', h', e3⟩, fun y H' hy => ?_⟩
    obtain ⟨Tp, v, rfl, hT, rfl, e1⟩ := hy
    rw [e1 vs h'] at e3; cases e3
    have x2 : Ex2 K w' ⟨w'.ι, w'.F, upd w'.H Tp (.tup [.int (i : Nat), v'])⟩ := Ex2.newTup hT
    exact ⟨⟨w'.ι, w'.F, upd w'.H Tp (.tup [.int (i : Nat), v'])⟩, rfl, x2, R'.newTup hT, Tp, [.int (i : Nat), v'], rfl, .of upd_same, .int (i : Nat), [v'], rfl, rfl, v', [], rfl, RV.ext x2.toExt _ _ rv, rfl⟩

/-- keys as data -/
def kD : Key → D
  | .inl i => .int i
  | .inr s => .str s.cps.toList
theorem kD_rv {w : Wd} (k : Key) : RV K w (kD k) (kV k) := by
  cases k with
  | inl i => rfl
  | inr s => show V.str s = V.str ⟨s.cps.toList.toArray⟩; simp
theorem jok_dic {w : Wd} {a : Addr} {o : Obj} {ks : List Key} {vs : List V} (hl : ks.length = vs.length) (h : w.H a = some (.frz o (.dK (ks.zip vs)))) : JOk K T w (Itk a o (ks.zip vs)) (ks.map kD) := by
  intro w' G' x R'
  have h' := x.toExt.dic a o _ h
  have hz : (ks.zip vs).length = ks.length := by rw [List.length_zip, hl, Nat.min_self]
  refine ⟨fun i d e => ?_, h', by rw [hz, List.length_map]; exact Nat.le_refl _⟩
  rw [List.getElem?_map] at e
  cases ek : ks[i]? with
  | none => rw [ek] at e; cases e
  | some k =>
    rw [ek] at e; cases e
    have hi := (List.getElem?_eq_some_iff.mp ek).1
    refine ⟨⟨h', by rw [hz]; exact hi⟩, fun y H' ⟨e1, k', v', e2, e3⟩ => ?_⟩
    refine ⟨w', e1.symm, Ex2.refl, R', ?_⟩
    rw [List.getElem?_zip_eq_some] at e2
    rw [ek] at e2
    cases e2.1
    rw [e3]; exact kD_rv _
theorem jok_enumT {w : Wd} {a : Addr} {vs : List V} {ds : List D} (h : SqT K w.H a vs) (r : RVs K w ds vs) :
    JOk K T w (Iet K a vs.length) (ds.zipIdx.map fun p => .tup [.int (p.2 : Nat), p.1]) := by
  intro w' G' x R'
  have h' : SqT K w'.H a vs := x.toExt.tup a vs h
  have r' := r.ext x.toExt
  refine ⟨fun i d e => ?_, by rw [List.length_map, List.length_zipIdx]; exact r.len, vs, h', rfl⟩
  rw [List.getElem?_map, List.getElem?_zipIdx] at e
  cases ex : ds[i]? with
  | none => rw [ex] at e; cases e
  | some dx =>
    rw [ex] at e
    simp only [Option.map_some, Nat.zero_add] at e
    cases e
    obtain ⟨v', e3, rv⟩ := r'.get ex
    refine ⟨⟨(List.getElem?_eq_some_iff.mp e3).1, vs, h', rfl⟩, fun y H' hy => ?_⟩
    obtain ⟨Tp, v, rfl, hT, rfl, e1⟩ := hy
    rw [e1 vs h'] at e3; cases e3
    have x2 : Ex2 K w' ⟨w'.ι, w'.F, upd w'.H Tp (.tup [.int (i : Nat), v'])⟩ := Ex2.newTup hT
    exact ⟨⟨w'.ι, w'.F, upd w'.H Tp (.tup [.int (i : Nat), v'])⟩, rfl, x2, R'.newTup hT, Tp, [.int (i : Nat), v'], rfl, .of upd_same, .int (i : Nat), [v'], rfl, rfl, v', [], rfl, RV.ext x2.toExt _ _ rv, rfl⟩
theorem jok_enumS {w : Wd} {cs : List Nat} : JOk K T w (Ies ⟨cs.toArray⟩) (cs.zipIdx.map fun p => .tup [.int (p.2 : Nat), .str [p.1]]) := by
  intro w' G' x R'
  refine ⟨fun i d e => ?_, by show List.length _ = cs.toArray.size; rw [List.length_map, List.length_zipIdx]; simp⟩
  rw [List.getElem?_map, List.getElem?_zipIdx] at e
  cases ex : cs[i]? with
  | none => rw [ex] at e; cases e
  | some c =>
    rw [ex] at e
    simp only [Option.map_some, Nat.zero_add] at e
    cases e
    have hi := (List.getElem?_eq_some_iff.mp ex).1
    refine ⟨by show i < cs.toArray.size; simpa using hi, fun y H' hy => ?_⟩
    obtain ⟨Tp, c', rfl, hT, rfl, e1⟩ := hy
    have e1 : cs.toArray[i]? = some c' := e1
    rw [List.getElem?_toArray, ex] at e1
    cases e1
    have x2 : Ex2 K w' ⟨w'.ι, w'.F, upd w'.H Tp (.tup [.int (i : Nat), .str ⟨#[c]⟩])⟩ := Ex2.newTup hT
    exact ⟨⟨w'.ι, w'.F, upd w'.H Tp (.tup [.int (i : Nat), .str ⟨#[c]⟩])⟩, rfl, x2, R'.newTup hT, Tp, [.int (i : Nat), .str ⟨#[c]⟩], rfl, .of upd_same, .int (i : Nat), [.str ⟨#[c]⟩], rfl, rfl, .str ⟨#[c]⟩, [], rfl, rfl, rfl⟩

/-! rules -/
def seqK (d : D) (G : Hs) : Rs := match d with
  | .tup ds => some (.tup ds, G)
  | .lst ds => some (.tup ds, G)
  | .fz ds => some (.tup ds, G)
  | .str cs => some (.tup (cs.map fun c => .str [c]), G)
  | .dic ks _ => some (.tup (ks.map kD), G)
  | .row ds => some (.tup ds, G)
  | _ => none
section
variable {X : Cx} {a b c e tg : Expr} {es : List Expr} {f g h3 : Fn} {pos p p2 : Pos}
theorem li_seq (ha : PE X a (LE X.K T f)) : PI X tg a (LI X.K T fun ς G => bnd (f ς G) seqK) := by
  refine ⟨fun pins s σ H Q I ⟨ι, F, ς, G, R, S, ds, G', e, h⟩ => ?_⟩
  obtain ⟨d, G1, e1, e⟩ := bnd_eq e
  cases d <;> first | (cases e; done) | skip
  · cases e
    exact (pi_str ha).run pins s σ H Q I ⟨ι, F, ς, G, R, S, _, _, e1, fun w' v x R' r => ⟨_, rv_str r, h w' _ x R' jok_str⟩⟩
  · cases e
    refine (pi_tup ha).run pins s σ H Q I ⟨ι, F, ς, G, R, S, _, _, e1, fun w' v x R' r => ?_⟩
    obtain ⟨a, vs, rfl, h1, h2⟩ := r
    exact ⟨a, rfl, ⟨vs, h1⟩, h w' _ x R' (jok_tup h1 h2)⟩
  · cases e
    refine (pi_list ha).run pins s σ H Q I ⟨ι, F, ς, G, R, S, _, _, e1, fun w' v x R' r => ?_⟩
    obtain ⟨a, vs, rfl, h1, h2⟩ := r
    exact ⟨a, rfl, ⟨vs, h1.sq⟩, h w' _ x R' (jok_lst h1 h2)⟩
  · cases e
    refine (pi_list ha).run pins s σ H Q I ⟨ι, F, ς, G, R, S, _, _, e1, fun w' v x R' r => ?_⟩
    obtain ⟨a, vs, rfl, h1, h2⟩ := r
    exact ⟨a, rfl, ⟨vs, h1.sq⟩, h w' _ x R' (jok_fz h1 h2)⟩
  · cases e
    refine (pi_keys ha).run pins s σ H Q I ⟨ι, F, ς, G, R, S, _, _, e1, fun w' v x R' r => ?_⟩
    obtain ⟨a, o, vs, rfl, h1, hl, h2⟩ := r
    exact ⟨a, o, rfl, .inl ⟨_, h1, h w' _ x R' (jok_dic (by rw [hl, h2.len]) h1)⟩⟩
  · cases e
    refine (pi_tup ha).run pins s σ H Q I ⟨ι, F, ς, G, R, S, _, _, e1, fun w' v x R' r => ?_⟩
    obtain ⟨a, o, vs, rfl, h1, hl, h2⟩ := r
    have h1' : SqT X.K w'.H a vs := .inl (.inr ⟨o, h1⟩)
    exact ⟨a, rfl, ⟨vs, h1'⟩, h w' _ x R' (jok_tup h1' h2)⟩
def rngK (ds : List D) (G : Hs) : Rs := (rgA ds).bind fun q => some (.tup (rgN q.1 q.2.1 q.2.2), G)
theorem argE {f : Fn} {k : List D → Hs → Rs} {ς : Env'} {G : Hs} {r : D × Hs} (h : argD f k ς G = some r) : ∃ ds G1, f ς G = some (.tup ds, G1) ∧ k ds G1 = some r := by
  obtain ⟨x, G1, e1, h⟩ := bnd_eq h
  cases x <;> first | (cases h; done) | skip
  exact ⟨_, G1, e1, h⟩
def arity (n : Nat) (k : List D → Hs → Rs) (ds : List D) (G : Hs) : Rs := if ds.length = n then k ds G else none
theorem arE {n : Nat} {k : List D → Hs → Rs} {ds : List D} {G : Hs} {r : D × Hs} (h : arity n k ds G = some r) : ds.length = n ∧ k ds G = some r := by
  unfold arity at h
  split at h
  · exact ⟨‹_›, h⟩
  · cases h
theorem rga1 {x : D} {q : Int × Int × Nat} (e : rgA [x] = some q) : ∃ i, x = .int i ∧ (-(2 ^ 62) ≤ i ∧ i < 2 ^ 62) ∧ q = (0, 1, i.toNat) := by
  unfold rgA at e
  split at e
  · rename_i i h
    cases h
    split at e
    · rename_i hb; cases e; exact ⟨i, rfl, hb, rfl⟩
    · cases e
  · rename_i h; cases h
  · rename_i h; cases h
  · cases e
theorem rga2 {x y : D} {q : Int × Int × Nat} (e : rgA [x, y] = some q) : ∃ i j, x = .int i ∧ y = .int j ∧ (-(2 ^ 62) ≤ i ∧ i < 2 ^ 62 ∧ -(2 ^ 62) ≤ j ∧ j < 2 ^ 62) ∧ q = (i, 1, (j - i).toNat) := by
  unfold rgA at e
  split at e
  · rename_i h; cases h
  · rename_i i j h
    cases h
    split at e
    · rename_i hb; cases e; exact ⟨i, j, rfl, rfl, hb, rfl⟩
    · cases e
  · rename_i h; cases h
  · cases e
theorem rngE {ds : List D} {G : Hs} {r : D × Hs} (h : rngK ds G = some r) : ∃ q, rgA ds = some q ∧ r = (.tup (rgN q.1 q.2.1 q.2.2), G) := by
  unfold rngK at h
  cases eq : rgA ds with
  | none => rw [eq] at h; cases h
  | some q => rw [eq] at h; cases h; exact ⟨q, rfl, rfl⟩
theorem li_rng1 (hg : Gl X "range") (hm : X.mg "range" = none) (ha : PA X [a] (LA X.K T f)) (hs : isStar a = false) : PI X tg (.Call (.Name "range" p) [a] [] pos) (LI X.K T (argD f (arity 1 rngK))) := by
  refine PI.imp (pi_range1 hg hm ha (star_1 hs)) fun σ H Q ⟨ι, F, ς, G, R, S, ds, G', e, h⟩ => ?_
  obtain ⟨as, G1, e1, e⟩ := argE e
  obtain ⟨hl, e⟩ := arE e
  refine ⟨ι, F, ς, G, R, S, as, G1, e1, fun w' vs x R' r => ?_⟩
  match as, hl, r, e with
  | [d], _, r, e =>
    obtain ⟨v, rfl, r1⟩ := r.one
    obtain ⟨q, eq, e⟩ := rngE e
    obtain ⟨i, rfl, hb, rfl⟩ := rga1 eq
    cases e
    exact ⟨i, by rw [rv_int r1], hb.1, hb.2, h w' _ x R' jok_rng⟩
theorem li_rng2 (hg : Gl X "range") (hm : X.mg "range" = none) (ha : PA X [a, b] (LA X.K T f)) (hs : isStar a = false) (hs2 : isStar b = false) : PI X tg (.Call (.Name "range" p) [a, b] [] pos) (LI X.K T (argD f (arity 2 rngK))) := by
  refine PI.imp (pi_range2 hg hm ha (by rw [star_1 hs, star_1 hs2]; rfl) (star_1 hs2)) fun σ H Q ⟨ι, F, ς, G, R, S, ds, G', e, h⟩ => ?_
  obtain ⟨as, G1, e1, e⟩ := argE e
  obtain ⟨hl, e⟩ := arE e
  refine ⟨ι, F, ς, G, R, S, as, G1, e1, fun w' vs x R' r => ?_⟩
  match as, hl, r, e with
  | [d, d2], _, r, e =>
    obtain ⟨v, u, rfl, r1, r2⟩ := r.two
    obtain ⟨q, eq, e⟩ := rngE e
    obtain ⟨i, j, rfl, rfl, hb, rfl⟩ := rga2 eq
    cases e
    exact ⟨i, j, by rw [rv_int r1, rv_int r2], hb, h w' _ x R' jok_rng⟩
theorem li_rng3 (hg : Gl X "range") (hm : X.mg "range" = none) (ha : PA X [a, b, c] (LA X.K T f)) (hs : [a, b, c].all (fun e => !isStar e) = true) : PI X tg (.Call (.Name "range" p) [a, b, c] [] pos) (LI X.K T (argD f (arity 3 rngK))) := by
  have h1 := hs
  rw [List.all_cons, Bool.and_eq_true] at h1
  refine PI.imp (pi_range3 hg hm ha (star_1 (by simpa using h1.1)) (star_any h1.2)) fun σ H Q ⟨ι, F, ς, G, R, S, ds, G', e, h⟩ => ?_
  obtain ⟨as, G1, e1, e⟩ := argE e
  obtain ⟨hl, e⟩ := arE e
  refine ⟨ι, F, ς, G, R, S, as, G1, e1, fun w' vs x R' r => ?_⟩
  match as, hl, r, e with
  | [d, d2, d3], _, r, e =>
    obtain ⟨q, eq, e⟩ := rngE e
    obtain ⟨i, j, c, n, rfl, rfl, rfl, hb, rfl⟩ := rga3 eq
    cases e
    obtain ⟨v1, t1, rfl, r1, r⟩ := r
    obtain ⟨v2, t2, rfl, r2, r⟩ := r
    obtain ⟨v3, rfl, r3⟩ := r.one
    rw [rv_int r1, rv_int r2, rv_int r3]
    exact ⟨i, j, c, n, rfl, hb, h w' _ x R' jok_rgc⟩
def zipK (ds : List D) (G : Hs) : Rs := match ds with
  | [.tup xs, .tup ys] => some (.tup (List.zipWith (fun x y => .tup [x, y]) xs ys), G)
  | _ => none
theorem li_zip {elts : List Expr} {kk : Nat} {tpos : Pos} (hg : Gl X "zip") (hm : X.mg "zip" = none) (ha : PA X [a, b] (LA X.K T f)) (hs : isStar a = false) (hs2 : isStar b = false) :
    PI X (.Tuple elts kk tpos) (.Call (.Name "zip" p) [a, b] [] pos) (LI X.K T (argD f zipK)) := by
  refine PI.imp (pi_zipT hg hm ha (star_1 hs) (star_any (by simp [hs2]))) fun σ H Q ⟨ι, F, ς, G, R, S, ds, G', e, h⟩ => ?_
  obtain ⟨as, G1, e1, e⟩ := argE e
  refine ⟨ι, F, ς, G, R, S, as, G1, e1, fun w' vs x R' r => ?_⟩
  unfold zipK at e
  split at e
  · rename_i xs ys
    cases e
    obtain ⟨v, u, rfl, r, r2⟩ := r.two
    obtain ⟨a, vs, rfl, h1, h2⟩ := r
    obtain ⟨b, us, rfl, h3, h4⟩ := r2
    exact ⟨a, b, vs, us, rfl, h1, h3, h w' _ x R' (jok_zip h1 h2 h3 h4)⟩
  · cases e
def enumK (ds : List D) (G : Hs) : Rs := match ds with
  | [.lst xs] => some (.tup (xs.zipIdx.map fun p => .tup [.int (p.2 : Nat), p.1]), G)
  | [.fz xs] => some (.tup (xs.zipIdx.map fun p => .tup [.int (p.2 : Nat), p.1]), G)
  | [.tup xs] => some (.tup (xs.zipIdx.map fun p => .tup [.int (p.2 : Nat), p.1]), G)
  | [.str cs] => some (.tup (cs.zipIdx.map fun p => .tup [.int (p.2 : Nat), .str [p.1]]), G)
  | _ => none
theorem li_enum {elts : List Expr} {kk : Nat} {tpos : Pos} (hg : Gl X "enumerate") (hm : X.mg "enumerate" = none) (ha : PA X [a] (LA X.K T f)) (hs : isStar a = false) :
    PI X (.Tuple elts kk tpos) (.Call (.Name "enumerate" p) [a] [] pos) (LI X.K T (argD f enumK)) := by
  refine ⟨fun pins s σ H Q I ⟨ι, F, ς, G, R, S, ds, G', e, h⟩ => ?_⟩
  obtain ⟨as, G1, e1, e⟩ := argE e
  unfold enumK at e
  split at e
  · cases e
    refine (pi_enum hg hm ha (star_1 hs)).run pins s σ H Q I ⟨ι, F, ς, G, R, S, _, _, e1, fun w' vs x R' r => ?_⟩
    obtain ⟨v, rfl, r1⟩ := r.one
    obtain ⟨a, vs, rfl, h1, h2⟩ := r1
    exact ⟨a, vs, rfl, h1.sq, h w' _ x R' (jok_enum (fun w'' y => (y.toExt.lst _ _ h1).sq) h2)⟩
  · cases e
    refine (pi_enum hg hm ha (star_1 hs)).run pins s σ H Q I ⟨ι, F, ς, G, R, S, _, _, e1, fun w' vs x R' r => ?_⟩
    obtain ⟨v, rfl, r1⟩ := r.one
    obtain ⟨a, vs, rfl, h1, h2⟩ := r1
    exact ⟨a, vs, rfl, h1.sq, h w' _ x R' (jok_enum (fun w'' y => (y.toExt.fz _ _ h1).sq) h2)⟩
  · cases e
    refine (pi_enumT hg hm ha (star_1 hs)).run pins s σ H Q I ⟨ι, F, ς, G, R, S, _, _, e1, fun w' vs x R' r => ?_⟩
    obtain ⟨v, rfl, r1⟩ := r.one
    obtain ⟨a, vs, rfl, h1, h2⟩ := r1
    exact ⟨a, vs, rfl, h1, h w' _ x R' (jok_enumT h1 h2)⟩
  · cases e
    refine (pi_enumS hg hm ha (star_1 hs)).run pins s σ H Q I ⟨ι, F, ς, G, R, S, _, _, e1, fun w' vs x R' r => ?_⟩
    obtain ⟨v, rfl, r1⟩ := r.one
    exact ⟨_, by rw [rv_str r1], h w' _ x R' jok_enumS⟩
  · cases e

/-! targets -/
inductive Tg where
  | nm (i : Nat) | tp (l : Tg) | nil | cons (a b : Tg)
  deriving DecidableEq
def bindL : Tg → List D → Env' → Option Env'
  | .nm i, [d], ς => some (ς.set i (some d))
  | .tp l, [.tup ds], ς => bindL l ds ς
  | .nil, [], ς => some ς
  | .cons a b, d :: ds, ς => (bindL a [d] ς).bind (bindL b ds)
  | _, _, _ => none
def Tg.ix : Tg → List Nat
  | .nm i => [i]
  | .tp l => l.ix
  | .nil => []
  | .cons a b => a.ix ++ b.ix
/-- nothing but the slots l is stored -/
def Sam (l : List Nat) (σ σ' : L2.St) : Prop := σ'.length = σ.length ∧ ∀ i, i ∉ l → σ'[i]? = σ[i]?
/-- a target's reading -/
def GT (K : PySem.W.Frag) (T : List Addr) (t : Tg) : TG := fun v σ H Q =>
  ∃ ι F ς G d ς', Rel K T ⟨ι, F, H⟩ G ∧ RS K ⟨ι, F, H⟩ ς σ ∧ RV K ⟨ι, F, H⟩ d v ∧ bindL t [d] ς = some ς' ∧ ∀ σ', RS K ⟨ι, F, H⟩ ς' σ' → Sam t.ix σ σ' → Q σ' H
def GTs (K : PySem.W.Frag) (T : List Addr) (t : Tg) : TGs := fun vs σ H Q =>
  ∃ ι F ς G ds ς', Rel K T ⟨ι, F, H⟩ G ∧ RS K ⟨ι, F, H⟩ ς σ ∧ RVs K ⟨ι, F, H⟩ ds vs ∧ bindL t ds ς = some ς' ∧ ∀ σ', RS K ⟨ι, F, H⟩ ς' σ' → Sam t.ix σ σ' → Q σ' H
theorem _root_.L2.PG.imp {X : Cx} {e : Expr} {t t' : TG} (h : PG X e t) (m : ∀ v σ H Q, t' v σ H Q → t v σ H Q) : PG X e t' := ⟨fun pins s σ H v u Q I r q => h.run pins s σ H v u Q I r (m v σ H Q q)⟩
theorem _root_.L2.PGs.imp {X : Cx} {e : List Expr} {t t' : TGs} (h : PGs X e t) (m : ∀ v σ H Q, t' v σ H Q → t v σ H Q) : PGs X e t' := ⟨fun pins s σ H v u Q I r q => h.run pins s σ H v u Q I r (m v σ H Q q)⟩
theorem gt_nm {i : Nat} {x : Str} (hN : X.N.Nodup) (hi : X.N[i]? = some x) (hx : Loc X.env.scope x) (hf : X.fn x = true ∨ X.env.scope.names.lookup x = some .local) : PG X (.Name x pos) (GT X.K T (.nm i)) := by
  refine (pg_name hN hi hx hf).imp fun v σ H Q ⟨ι, F, ς, G, d, ς', R, S, r, e, h⟩ => ?_
  cases e
  exact h _ (S.set r i) ⟨by simp, fun j hj => List.getElem?_set_ne (fun z => hj (by simp [Tg.ix, z]))⟩
theorem assign_1 {e : Expr} {es : List Expr} {env : Env} (h : isStar e = false) : (assignEach (e :: es) env).map (·.2) = assign e env :: (assignEach es env).map (·.2) := by
  cases e <;> first | rfl | (cases h)
theorem gts_nil : PGs X [] (GTs X.K T .nil) := by
  refine pgs_nil.imp fun vs σ H Q ⟨ι, F, ς, G, ds, ς', R, S, r, e, h⟩ => ?_
  cases ds with
  | nil => cases e; exact ⟨r, h _ S ⟨rfl, fun _ _ => rfl⟩⟩
  | cons => cases e
theorem gts_cons {t u : Tg} (ha : PG X a (GT X.K T t)) (hr : PGs X es (GTs X.K T u)) (hs : isStar a = false) : PGs X (a :: es) (GTs X.K T (.cons t u)) := by
  refine (pgs_cons ha hr (assign_1 hs)).imp fun vs σ H Q ⟨ι, F, ς, G, ds, ς', R, S, r, e, h⟩ => ?_
  cases ds with
  | nil => cases e
  | cons d ds =>
    obtain ⟨v, vr, rfl, r1, r2⟩ := r
    have e : (bindL t [d] ς).bind (bindL u ds) = some ς' := by
      cases t <;> exact e
    cases e1 : bindL t [d] ς with
    | none => rw [e1] at e; cases e
    | some ς1 =>
      rw [e1] at e
      exact ⟨v, vr, rfl, ι, F, ς, G, d, ς1, R, S, r1, e1, fun σ' S' m1 => ⟨ι, F, ς1, G, ds, ς', R, S', r2, e, fun σ'' S'' m2 => h σ'' S'' ⟨m2.1.trans m1.1, fun j hj => (m2.2 j fun z => hj (List.mem_append_right _ z)).trans (m1.2 j fun z => hj (List.mem_append_left _ z))⟩⟩⟩
theorem each_len : ∀ {es : List Expr} {env : Env}, (assignEach es env).length = es.length
  | [], _ => rfl
  | e :: es, env => by cases e <;> exact congrArg (· + 1) (each_len (es := es) (env := env))
theorem each_star : ∀ {es : List Expr} {env : Env}, es.all (fun e => !isStar e) = true → (assignEach es env).findIdx? (·.1) = none
  | [], _, _ => rfl
  | e :: es, env, h => by
    simp only [List.all_cons, Bool.and_eq_true] at h
    have hs : isStar e = false := by simpa using h.1
    have ih := each_star (es := es) (env := env) h.2
    have e1 : assignEach (e :: es) env = (false, assign e env) :: assignEach es env := by cases e <;> first | rfl | (cases hs)
    rw [e1, List.findIdx?_cons, ih]; rfl
/-- how many a target list takes -/
def Tg.len : Tg → Nat
  | .cons _ b => b.len + 1
  | _ => 0
def Tg.isL : Tg → Bool
  | .cons _ b => b.isL
  | .nil => true
  | _ => false
theorem bindL_len : ∀ {t : Tg} {ds : List D} {ς ς' : Env'}, t.isL = true → bindL t ds ς = some ς' → ds.length = t.len
  | .nil, [], _, _, _, _ => rfl
  | .nil, _ :: _, _, _, _, e => by cases e
  | .cons a b, [], _, _, _, e => by cases e
  | .cons a b, d :: ds, ς, ς', h, e => by
    have e : (bindL a [d] ς).bind (bindL b ds) = some ς' := by cases a <;> exact e
    cases e1 : bindL a [d] ς with
    | none => rw [e1] at e; cases e
    | some ς1 =>
      rw [e1] at e
      exact congrArg (· + 1) (bindL_len (t := b) (show b.isL = true from h) e)
  | .nm _, _, _, _, h, _ => by cases h
  | .tp _, _, _, _, h, _ => by cases h
theorem gt_tup {kk : Nat} {t : Tg} (hc : X.calm = true) (h : PGs X es (GTs X.K T t)) (ht : t.isL = true) (hl : t.len = es.length) (hs : es.all (fun e => !isStar e) = true) : PG X (.Tuple es kk pos) (GT X.K T (.tp t)) := by
  refine (pg_tup hc h each_len (each_star hs)).imp fun v σ H Q ⟨ι, F, ς, G, d, ς', R, S, r, e, h⟩ => ?_
  cases d <;> first | (cases e; done) | skip
  rename_i ds
  have e : bindL t ds ς = some ς' := e
  obtain ⟨a, vs, rfl, h1, h2⟩ := r
  exact ⟨a, vs, rfl, h1, by rw [← h2.len, bindL_len ht e, hl], ι, F, ς, G, ds, ς', R, S, h2, e, h⟩
end
end Mp
set_option Elab.async false
set_option linter.all false
set_option autoImplicit false
set_option maxRecDepth 100000
set_option maxHeartbeats 1000000
/-! Mp, part 9: comprehensions and generator expressions -/
namespace Mp
open PySem PySem.Spec L2
open PyProof.Rows hiding St

variable {K : PySem.W.Frag} {T : List Addr}

def wipeE (ς : Env') : List Nat → Env'
  | [] => ς
  | v :: vs => (wipeE ς vs).set v none
theorem RS.none {w : Wd} {ς : Env'} {σ : L2.St} (h : RS K w ς σ) (i : Nat) : RS K w (ς.set i none) (σ.set i none) := by
  refine ⟨by simp [h.len], fun j e q => ?_⟩
  by_cases hj : j = i
  · subst hj
    by_cases hl : j < ς.length
    · rw [List.getElem?_set_self hl] at q; cases q
    · rw [List.getElem?_eq_none (by simpa using hl)] at q; cases q
  · rw [List.getElem?_set_ne (Ne.symm hj)] at q ⊢
    exact h.at_ j e q
theorem RS.wipe {w : Wd} {ς : Env'} {σ : L2.St} (h : RS K w ς σ) : ∀ vs, RS K w (wipeE ς vs) (L2.wipe σ vs)
  | [] => h
  | v :: vs => (RS.wipe h vs).none v
theorem wipe_get (σ : L2.St) (i : Nat) : ∀ vs, (L2.wipe σ vs)[i]? = if i ∈ vs then (σ[i]?).map (fun _ => none) else σ[i]?
  | [] => by simp [L2.wipe]
  | v :: vs => by
    show ((L2.wipe σ vs).set v none)[i]? = _
    by_cases hv : i = v
    · subst hv
      rw [if_pos (by simp)]
      by_cases hl : i < σ.length
      · rw [List.getElem?_set_self (by rw [wipe_length]; exact hl), List.getElem?_eq_getElem hl]; rfl
      · rw [List.getElem?_eq_none (by rw [List.length_set, wipe_length]; omega), List.getElem?_eq_none (by omega)]; rfl
    · rw [List.getElem?_set_ne (Ne.symm hv), wipe_get σ i vs]
      by_cases hm : i ∈ vs
      · rw [if_pos hm, if_pos (by simp [hm])]
      · rw [if_neg hm, if_neg (by simp [hv, hm])]
theorem wipe_same {σ σ2 : L2.St} {l vs : List Nat} (h : Sam l (L2.wipe σ vs) σ2) (hl : ∀ i ∈ l, i ∈ vs) : L2.wipe σ2 vs = L2.wipe σ vs := by
  apply List.ext_getElem?
  intro i
  rw [wipe_get, wipe_get]
  have hlen : σ2.length = σ.length := by rw [h.1, wipe_length]
  by_cases hm : i ∈ vs
  · rw [if_pos hm, if_pos hm]
    by_cases hi : i < σ.length
    · rw [List.getElem?_eq_getElem hi, List.getElem?_eq_getElem (by omega)]; rfl
    · rw [List.getElem?_eq_none (by omega), List.getElem?_eq_none (by omega)]
  · rw [if_neg hm, if_neg hm, h.2 i fun z => hm (hl i z), wipe_get, if_neg hm]

/-! a list that is being made: no cell, not frozen yet -/
structure Out (w : Wd) (a : Addr) (vs : List V) : Prop where
  at_ : w.H a = some (.lst vs)
  ni : a ∉ w.ι
  nf : ¬ w.F a
theorem Out.ext {w w' : Wd} {a : Addr} {vs : List V} (h : Out w a vs) (x : Ex2 K w w') : Out w' a vs := by
  refine ⟨x.stay a _ h.at_ (.inl h.ni) (fun ps z => by cases z), fun z => ?_, fun z => ?_⟩
  · rcases x.new a z with q | q
    · exact h.ni q
    · rw [h.at_] at q; cases q
  · rcases x.nf a z with q | q | q
    · exact h.nf q
    · exact h.ni q
    · rw [h.at_] at q; cases q
theorem Out.start {w : Wd} {G : Hs} {a : Addr} (R : Rel K T w G) (h : w.H a = none) {vs : List V} : Out ⟨w.ι, w.F, upd w.H a (.lst vs)⟩ a vs :=
  ⟨upd_same, fun z => R.alv a z h, fun z => R.live a z h⟩
theorem Out.put {w : Wd} {a : Addr} {vs us : List V} (h : Out w a vs) : Out ⟨w.ι, w.F, upd w.H a (.lst us)⟩ a us := ⟨upd_same, h.ni, h.nf⟩
theorem Out.wext {w : Wd} {a : Addr} {vs us : List V} (h : Out w a vs) : Ext K w ⟨w.ι, w.F, upd w.H a (.lst us)⟩ := Ext.write h.nf h.at_ trivial
/-- .. seen from a world where it was not there yet -/
theorem Ex2.out {w w' : Wd} {a : Addr} {vs us : List V} (x : Ex2 K w w') (h : Out w' a vs) (hn : w.H a = none) : Ex2 K w ⟨w'.ι, w'.F, upd w'.H a (.lst us)⟩ := by
  refine ⟨x.toExt.trans h.wext, x.new, x.fr, x.nf, fun b o e n t => ?_, fun b hb => ?_⟩
  · have nb : b ≠ a := fun z => by rw [z, hn] at e; cases e
    show upd w'.H a _ b = _
    rw [upd_ne nb]; exact x.stay b o e n t
  · show upd w'.H a _ b ≠ none
    by_cases hba : b = a
    · rw [hba, upd_same]; simp
    · rw [upd_ne hba]; exact x.occ b hb
theorem Rel.out {w : Wd} {G : Hs} {a : Addr} {vs us : List V} (R : Rel K T w G) (h : Out w a vs) : Rel K T ⟨w.ι, w.F, upd w.H a (.lst us)⟩ G := by
  have x : Ext K w ⟨w.ι, w.F, upd w.H a (.lst us)⟩ := h.wext
  refine ⟨R.len, R.nd, fun n c b e1 e2 => ?_, fun b hb => ?_, fun b hb => ?_, fun P hP => ?_⟩
  · have nb : b ≠ a := fun z => h.ni (z ▸ List.mem_of_getElem? e2)
    exact (R.cell n c b e1 e2).mono x (upd_ne nb) fun z => z
  · show upd w.H a _ b ≠ none
    by_cases hba : b = a
    · rw [hba, upd_same]; simp
    · rw [upd_ne hba]; exact R.live b hb
  · show upd w.H a _ b ≠ none
    by_cases hba : b = a
    · rw [hba, upd_same]; simp
    · rw [upd_ne hba]; exact R.alv b hb
  · obtain ⟨ps, q1, q2⟩ := R.tab P hP
    refine ⟨ps, ?_, q2⟩
    show upd w.H a _ P = _
    rw [upd_ne (fun z => by rw [z, h.at_] at q1; cases q1)]; exact q1
/-- .. at its end: frozen, or a cell -/
theorem Ex2.outF {w w' : Wd} {a : Addr} (x : Ex2 K w w') (hn : w.H a = none) : Ex2 K w ⟨w'.ι, fun b => w'.F b ∨ b = a, w'.H⟩ :=
  ⟨x.toExt.trans Ext.freeze, x.new, fun b z => .inl (x.fr b z), fun b z => z.elim (x.nf b) fun q => .inr (.inr (q ▸ hn)), x.stay, x.occ⟩
theorem Rel.outF {w : Wd} {G : Hs} {a : Addr} {vs : List V} (R : Rel K T w G) (h : Out w a vs) : Rel K T ⟨w.ι, fun b => w.F b ∨ b = a, w.H⟩ G := by
  refine ⟨R.len, R.nd, fun n c b e1 e2 => ?_, fun b hb => ?_, R.alv, R.tab⟩
  · have nb : b ≠ a := fun z => h.ni (z ▸ List.mem_of_getElem? e2)
    exact (R.cell n c b e1 e2).mono Ext.freeze rfl fun z => z.elim id fun z => absurd z nb
  · rcases hb with hb | rfl
    · exact R.live b hb
    · show w.H _ ≠ none
      rw [h.at_]; simp
theorem Ext.addC {w : Wd} {a : Addr} : Ext K w ⟨w.ι ++ [a], w.F, w.H⟩ := ⟨fun _ _ e => getElem?_snoc e, fun _ _ q => q, fun _ _ q => q, fun _ _ q => q, fun _ _ _ q => q⟩
theorem Ex2.outC {w w' : Wd} {a : Addr} (x : Ex2 K w w') (hn : w.H a = none) : Ex2 K w ⟨w'.ι ++ [a], w'.F, w'.H⟩ := by
  refine ⟨x.toExt.trans Ext.addC, fun b hb => ?_, x.fr, x.nf, x.stay, x.occ⟩
  rcases List.mem_append.mp hb with hb | hb
  · exact x.new b hb
  · exact .inr (by rw [List.mem_singleton.mp hb]; exact hn)
theorem Rel.outC {w : Wd} {G : Hs} {a : Addr} {vs : List V} {ds : List D} (R : Rel K T w G) (h : Out w a vs) (r : RVs K w ds vs) : Rel K T ⟨w.ι ++ [a], w.F, w.H⟩ (G ++ [.lst ds]) := by
  refine ⟨by simp [R.len], ?_, fun n c b e1 e2 => ?_, R.live, fun b hb => ?_, R.tab⟩
  · refine List.nodup_append.mpr ⟨R.nd, by simp, fun x hx y hy => ?_⟩
    rw [List.mem_singleton.mp hy]
    exact fun z => h.ni (z ▸ hx)
  · rcases getElem?_snoc_inv e1 with e1 | ⟨en, rfl⟩
    · have hn : n < w.ι.length := by rw [R.len]; exact (List.getElem?_eq_some_iff.mp e1).1
      rw [List.getElem?_append_left hn] at e2
      exact (R.cell n c b e1 e2).mono Ext.addC rfl fun z => z
    · rw [en, ← R.len, List.getElem?_append_right (Nat.le_refl _), Nat.sub_self] at e2
      simp at e2
      subst e2
      exact ⟨h.nf, vs, h.at_, r.ext Ext.addC⟩
  · rcases List.mem_append.mp hb with hb | hb
    · exact R.alv b hb
    · rw [List.mem_singleton.mp hb]
      show w.H a ≠ none
      rw [h.at_]; simp

/-! comprehensions -/
def loopC (c : FB) (e : Fn) (t : Tg) (ς : Env') : List D → List D → Hs → Option (List D × Hs)
  | [], acc, G => some (acc, G)
  | d :: ds, acc, G => (bindL t [d] ς).bind fun ς1 => bnd (c ς1 G) fun b G1 =>
    if b = true then bnd (e ς1 G1) fun x G2 => if acc.length < sizeLine then loopC c e t ς ds (acc ++ [x]) G2 else none
    else loopC c e t ς ds acc G1
def compD (m : Bool) (t : Tg) (own : List Nat) (fi : Fn) (c : FB) (e : Fn) (ς : Env') (G : Hs) : Rs :=
  argD fi (fun ds G1 => bnd (loopC c e t (wipeE ς own) ds [] G1) (newD m)) ς G
theorem lts_nil {X : Cx} : PTs X [] (LT X.K T fun _ G => some (true, G)) := by
  refine ⟨fun pins s σ H Q I h => pts_nil.run pins s σ H Q I ?_⟩
  obtain ⟨ι, F, ς, G, R, S, h⟩ := h
  exact h.now R
section
variable {X : Cx} {elt tg iter : Expr} {ifs : List Expr} {scope : Scope} {own : List (Str × Nat)} {pos : Pos} {fi e : Fn} {c : FB} {t : Tg}
theorem comp_in {K : PySem.W.Frag} (m : Bool) {vs : List Nat} (hix : ∀ i ∈ t.ix, i ∈ vs) {σ : L2.St} {H : Hp} {Q : VK} (h : LE K T (compD m t vs fi c e) σ H Q) : tLc (LI K T fi) (GT K T t) (LT K T c) (LE K T e) vs σ H Q := by
  obtain ⟨ι, F, ς, G, R, S, h⟩ := h
  have h : Lift K T ⟨ι, F, H⟩ (bnd (fi ς G) fun xs G1 => match xs with | .tup ds => bnd (loopC c e t (wipeE ς vs) ds [] G1) (newD m) | _ => none) Q := h
  obtain ⟨ds, G1, e1, h⟩ := LiftL.bnd h
  refine ⟨ι, F, ς, G, R, S, ds, G1, e1, fun w1 J x1 R1 jok Da hD => ?_⟩
  have hL := h w1 x1
  cases eL : loopC c e t (wipeE ς vs) ds [] G1 with
  | none => rw [eL] at hL; exact hL.no
  | some pF =>
  obtain ⟨accF, GF⟩ := pF
  rw [eL] at hL
  have hL : Lift K T w1 (newD m accF GF) Q := hL
  refine ⟨fun i mm H' => ∃ (w' : Wd) (acc : List D) (G' : Hs) (us : List V), w'.H = H' ∧ Ex2 K w1 w' ∧ Rel K T w' G' ∧ Out w' Da us ∧ RVs K w' acc us ∧ i ≤ ds.length ∧ mm = ds.length - i ∧ loopC c e t (wipeE ς vs) (ds.drop i) acc G' = some (accF, GF),
    ⟨ds.length, ⟨w1.ι, w1.F, upd w1.H Da (.lst [])⟩, [], G1, [], rfl, Ex2.newTup hD, R1.newTup hD, Out.start R1 hD, rfl, Nat.zero_le _, rfl, eL⟩, ?_⟩
  rintro i mm H' ⟨w', acc, G', us, rfl, x', R', o', ra, hi', rfl, el⟩
  obtain ⟨jgo, jstop⟩ := jok w' G' x' R'
  by_cases hlt : i < ds.length
  · refine .inr ?_
    have ed : ds[i]? = some ds[i] := List.getElem?_eq_getElem hlt
    rw [List.drop_eq_getElem_cons hlt] at el
    simp only [loopC] at el
    cases eb : bindL t [ds[i]] (wipeE ς vs) with
    | none => rw [eb] at el; cases el
    | some ς1 =>
    rw [eb] at el
    have el : bnd (c ς1 G') (fun b G1 => if b = true then bnd (e ς1 G1) fun x G2 => if acc.length < sizeLine then loopC c e t (wipeE ς vs) (ds.drop (i + 1)) (acc ++ [x]) G2 else none else loopC c e t (wipeE ς vs) (ds.drop (i + 1)) acc G1) = some (accF, GF) := el
    obtain ⟨b, G2, ec, el⟩ := bnd_eq el
    obtain ⟨go, yld⟩ := jgo i _ ed
    refine ⟨go, fun H' => ∃ (w' : Wd) (acc : List D) (G' : Hs) (us : List V), w'.H = H' ∧ Ex2 K w1 w' ∧ Rel K T w' G' ∧ Out w' Da us ∧ RVs K w' acc us ∧ loopC c e t (wipeE ς vs) (ds.drop (i + 1)) acc G' = some (accF, GF),
      fun H' ⟨w5, acc5, G5, us5, h1, h2, h3, h4, h5, h6⟩ => ⟨ds.length - (i + 1), by omega, w5, acc5, G5, us5, h1, h2, h3, h4, h5, hlt, rfl, h6⟩, fun v H' hy => ?_⟩
    obtain ⟨w2, rfl, x2, R2, rd⟩ := yld v H' hy
    have S2 : RS K w2 (wipeE ς vs) (L2.wipe σ vs) := ((((S.ext x1.toExt).ext x'.toExt).ext x2.toExt)).wipe vs
    refine ⟨w2.ι, w2.F, wipeE ς vs, G', ds[i], ς1, R2, S2, rd, eb, fun σ2 S3 sm => ⟨wipe_same sm hix, ?_⟩⟩
    refine ⟨w2.ι, w2.F, ς1, G', R2, S3, b, G2, ec, fun w3 x3 R3 => ?_⟩
    have x13 : Ex2 K w1 w3 := (x'.trans x2).trans x3
    have o3 : Out w3 Da us := o'.ext (x2.trans x3)
    have ra3 : RVs K w3 acc us := ra.ext (x2.trans x3).toExt
    cases b with
    | false =>
      simp only [Bool.false_eq_true, if_false] at el ⊢
      exact ⟨w3, acc, G2, us, rfl, x13, R3, o3, ra3, el⟩
    | true =>
      simp only [if_true] at el ⊢
      obtain ⟨y, G3, ee, el⟩ := bnd_eq el
      refine ⟨w3.ι, w3.F, ς1, G2, R3, S3.ext x3.toExt, y, G3, ee, fun w4 yv x4 R4 ry => ?_⟩
      have o4 : Out w4 Da us := o3.ext x4
      split at el
      · rename_i hsz
        refine ⟨us, o4.at_, by rw [← ra.len]; exact hsz, ?_⟩
        refine ⟨⟨w4.ι, w4.F, upd w4.H Da (.lst (us ++ [yv]))⟩, acc ++ [y], G3, us ++ [yv], rfl, (x13.trans x4).out o4 hD, R4.out o4, o4.put, ?_, el⟩
        exact ((ra3.ext x4.toExt).append (show RVs K w4 [y] [yv] from ⟨yv, [], rfl, ry, rfl⟩)).ext o4.wext
      · cases el
  · have hi2 : i = ds.length := by omega
    subst hi2
    refine .inl ⟨jstop, ?_⟩
    rw [List.drop_length] at el
    have el : some (acc, G') = some (accF, GF) := el
    cases el
    cases m with
    | false =>
      have hL : Lift K T w1 (some (.lst accF, GF)) Q := hL
      refine hL.to (w' := ⟨w'.ι, fun b => w'.F b ∨ b = Da, w'.H⟩) (x'.outF hD) (R'.outF o') ⟨Da, us, rfl, ⟨.inr rfl, o'.at_⟩, ra.ext Ext.freeze⟩
    | true =>
      have hL : Lift K T w1 (some (.ref GF.length, GF ++ [.lst accF])) Q := hL
      refine hL.to (w' := ⟨w'.ι ++ [Da], w'.F, w'.H⟩) (x'.outC hD) (R'.outC o' ra) ⟨Da, rfl, ?_⟩
      show (w'.ι ++ [Da])[GF.length]? = some Da
      rw [← R'.len, List.getElem?_append_right (Nat.le_refl _), Nat.sub_self]; rfl
theorem le_comp (m : Bool) (hc : X.calm = true) (hN : X.N.Nodup) (hi : PI X tg iter (LI X.K T fi)) (ok : BlkOk X.N X.env.scope scope own)
    (hg : ∀ (s : Shared) (H : Hp) (C : Addr) (cl : List (Str × Addr)) (fp : List Addr), PG (X.blk s H scope (compEnvC scope cl C X.env) fp) tg (GT X.K T t)) (ht : ∀ (s : Shared) (H : Hp) (C : Addr) (cl : List (Str × Addr)) (fp : List Addr), PTs (X.blk s H scope (compEnvC scope cl C X.env) fp) ifs (LT X.K T c))
    (he : ∀ (s : Shared) (H : Hp) (C : Addr) (cl : List (Str × Addr)) (fp : List Addr), PE (X.blk s H scope (compEnvC scope cl C X.env) fp) elt (LE X.K T e)) (hs : ∀ x, foldedSetIterable iter X.env x = pure x) (hix : ∀ i ∈ t.ix, i ∈ own.map (·.2)) :
    PE X (.ListComp elt [⟨tg, iter, ifs, 0⟩] scope pos) (LE X.K T (compD m t (own.map (·.2)) fi c e)) :=
  (pe_lc hc hN hi ok hg ht he hs).imp fun σ H Q h => comp_in m hix h
end

/-! generator expressions under all, any -/
def loopG (sb : Bool) (e : Fn) (t : Tg) (ς : Env') : List D → Hs → Rs
  | [], G => some (.bl (!sb), G)
  | d :: ds, G => (bindL t [d] ς).bind fun ς1 => bnd (blB (e ς1 G)) fun b G1 => if b = sb then some (.bl sb, G1) else loopG sb e t ς ds G1
def genD (sb : Bool) (t : Tg) (own : List Nat) (fi : Fn) (e : Fn) (ς : Env') (G : Hs) : Rs := argD fi (fun ds G1 => loopG sb e t (wipeE ς own) ds G1) ς G
theorem tabbed_ext {w : Wd} {G : Hs} {P : Addr} {H' : Hp} (R : Rel K T w G) (hT : GxR.TabG w.H P) (h : GxR.Tabbed P w.H H') : Ex2 K w ⟨w.ι, w.F, H'⟩ ∧ Rel K T ⟨w.ι, w.F, H'⟩ G := by
  obtain ⟨⟨ps', h1, h2⟩, h3⟩ := h
  obtain ⟨ps, q1, q2⟩ := hT
  have ne : ∀ b o, w.H b = some o → (∀ ps, o ≠ .tbl ps) → b ≠ P := fun b o e n z => by
    rw [z, q1] at e; cases e
    exact n _ rfl
  have x : Ext K w ⟨w.ι, w.F, H'⟩ := by
    refine ⟨fun _ _ e => e, fun a xs q => ?_, fun a xs q => ⟨q.1, ?_⟩, fun a xs q => ?_, fun a o' us q => by show H' a = _; rw [h3 a (ne a _ q fun _ z => by cases z)]; exact q⟩
    · rcases q with (q | ⟨o', q⟩) | q
      · exact .inl (.inl (by show H' a = _; rw [h3 a (ne a _ q fun _ z => by cases z)]; exact q))
      · exact .inl (.inr ⟨o', by show H' a = _; rw [h3 a (ne a _ q fun _ z => by cases z)]; exact q⟩)
      · exact .inr q
    · show H' a = _
      rw [h3 a (ne a _ q.2 fun _ z => by cases z)]; exact q.2
    · rcases q with ⟨o', q⟩ | q
      · exact .inl ⟨o', by show H' a = _; rw [h3 a (ne a _ q fun _ z => by cases z)]; exact q⟩
      · exact .inr q
  have occ : ∀ a, w.H a ≠ none → H' a ≠ none := fun a ha => by
    by_cases e : a = P
    · rw [e, h1]; simp
    · rw [h3 a e]; exact ha
  refine ⟨⟨x, fun a z => .inl z, fun _ z => z, fun _ z => .inl z, fun a o e _ t => ?_, occ⟩, R.len, R.nd, fun n c a e1 e2 => ?_, fun a ha => occ a (R.live a ha), fun a ha => occ a (R.alv a ha), fun Q hQ => ?_⟩
  · show H' a = _
    rw [h3 a (ne a o e t)]; exact e
  · have hc := R.cell n c a e1 e2
    by_cases ea : a = P
    · cases c with
      | gone => trivial
      | lst ds => obtain ⟨_, vs, z, _⟩ := hc; rw [ea, q1] at z; cases z
      | dct ds => obtain ⟨_, vs, z, _⟩ := hc; rw [ea, q1] at z; cases z
    · exact hc.mono x (h3 a ea) fun z => z
  · by_cases e : Q = P
    · rw [e]; exact ⟨ps', h1, h2⟩
    · obtain ⟨pz, z1, z2⟩ := R.tab Q hQ
      exact ⟨pz, by show H' Q = _; rw [h3 Q e]; exact z1, z2⟩
theorem gen_in {X : Cx} {P : Addr} {vs : List Nat} {fi e : Fn} {t : Tg} {sb : Bool} (hP : P ∈ T) (hix : ∀ i ∈ t.ix, i ∈ vs) {σ : L2.St} {H : Hp} {Q : VK} (h : LE K T (genD sb t vs fi e) σ H Q) : GxM.tGen sb P (LI K T fi) (GT K T t) (LE K T e) vs σ H Q := by
  obtain ⟨ι, F, ς, G, R, S, h⟩ := h
  obtain ⟨ds, G1, e1, h⟩ := LiftL.bnd h
  refine ⟨ι, F, ς, G, R, S, ds, G1, e1, fun w1 J x1 R1 jok => ⟨R1.tab P hP, fun H2 tb => ?_⟩⟩
  obtain ⟨x2, R2⟩ := tabbed_ext R1 (R1.tab P hP) tb
  have hL := h w1 x1
  cases eL : loopG sb e t (wipeE ς vs) ds G1 with
  | none => rw [eL] at hL; exact hL.no
  | some pF =>
  obtain ⟨dF, GF⟩ := pF
  rw [eL] at hL
  refine ⟨fun i mm H' => ∃ (w' : Wd) (G' : Hs), w'.H = H' ∧ Ex2 K w1 w' ∧ Rel K T w' G' ∧ i ≤ ds.length ∧ mm = ds.length - i ∧ loopG sb e t (wipeE ς vs) (ds.drop i) G' = some (dF, GF),
    ⟨ds.length, ⟨w1.ι, w1.F, H2⟩, G1, rfl, x2, R2, Nat.zero_le _, rfl, eL⟩, ?_⟩
  rintro i mm H' ⟨w', G', rfl, x', R', hi', rfl, el⟩
  obtain ⟨jgo, jstop⟩ := jok w' G' x' R'
  by_cases hlt : i < ds.length
  · refine .inr ?_
    have ed : ds[i]? = some ds[i] := List.getElem?_eq_getElem hlt
    rw [List.drop_eq_getElem_cons hlt] at el
    simp only [loopG] at el
    cases eb : bindL t [ds[i]] (wipeE ς vs) with
    | none => rw [eb] at el; cases el
    | some ς1 =>
    rw [eb] at el
    have el : bnd (blB (e ς1 G')) (fun b G1 => if b = sb then some (D.bl sb, G1) else loopG sb e t (wipeE ς vs) (ds.drop (i + 1)) G1) = some (dF, GF) := el
    obtain ⟨b, G2, ec, el⟩ := bnd_eq el
    obtain ⟨go, yld⟩ := jgo i _ ed
    refine ⟨go, fun H' => ∃ (w' : Wd) (G' : Hs), w'.H = H' ∧ Ex2 K w1 w' ∧ Rel K T w' G' ∧ loopG sb e t (wipeE ς vs) (ds.drop (i + 1)) G' = some (dF, GF),
      fun H' ⟨w5, G5, h1, h2, h3, h4⟩ => ⟨ds.length - (i + 1), by omega, w5, G5, h1, h2, h3, hlt, rfl, h4⟩, fun v H' hy => ?_⟩
    obtain ⟨w2, rfl, x2', R2', rd⟩ := yld v H' hy
    have S2 : RS K w2 (wipeE ς vs) (L2.wipe σ vs) := ((((S.ext x1.toExt).ext x'.toExt).ext x2'.toExt)).wipe vs
    refine ⟨w2.ι, w2.F, wipeE ς vs, G', ds[i], ς1, R2', S2, rd, eb, fun σ2 S3 sm => ⟨wipe_same sm hix, ?_⟩⟩
    refine ⟨w2.ι, w2.F, ς1, G', R2', S3, .bl b, G2, blB_eq ec, fun w3 y x3 R3 ry => ⟨b, ry, ?_⟩⟩
    by_cases hb : b = sb
    · rw [if_pos hb] at el ⊢
      cases el
      exact hL.to ((x'.trans x2').trans x3) R3 rfl
    · rw [if_neg hb] at el ⊢
      exact ⟨w3, G2, rfl, (x'.trans x2').trans x3, R3, el⟩
  · have hi2 : i = ds.length := by omega
    subst hi2
    refine .inl ⟨jstop, ?_⟩
    rw [List.drop_length] at el
    have el : some (D.bl (!sb), G') = some (dF, GF) := el
    cases el
    exact hL.to x' R' rfl
end Mp
set_option Elab.async false
set_option linter.all false
set_option autoImplicit false
set_option maxRecDepth 100000
set_option maxHeartbeats 1000000
/-! Mp, part 10: statements -/
namespace Mp
open PySem PySem.Spec L2
open PyProof.Rows hiding St

variable {K : PySem.W.Frag} {T : List Addr}

inductive Res where
  | nx (ς : Env') (G : Hs) | rt (d : D) (G : Hs) | bk (ς : Env') (G : Hs) | ct (ς : Env') (G : Hs)
def EndOk (K : PySem.W.Frag) (T : List Addr) (w : Wd) (D : Ends) : Res → Prop
  | .nx ς G => ∀ w' σ', Ex2 K w w' → Rel K T w' G → RS K w' ς σ' → D.nx σ' w'.H
  | .rt d G => ∀ w' v, Ex2 K w w' → Rel K T w' G → RV K w' d v → D.rt v w'.H
  | .bk ς G => ∀ w' σ', Ex2 K w w' → Rel K T w' G → RS K w' ς σ' → D.bk σ' w'.H
  | .ct ς G => ∀ w' σ', Ex2 K w w' → Rel K T w' G → RS K w' ς σ' → D.ct σ' w'.H
theorem EndOk.from {w w' : Wd} {D : Ends} {o : Res} (x : Ex2 K w w') (h : EndOk K T w D o) : EndOk K T w' D o := by
  cases o <;> exact fun w'' v y => h w'' v (x.trans y)
def LiftS (K : PySem.W.Frag) (T : List Addr) (w : Wd) (r : Option Res) (D : Ends) : Prop := ∃ o, r = some o ∧ EndOk K T w D o
theorem LiftS.from {w w' : Wd} {r : Option Res} {D : Ends} (x : Ex2 K w w') (h : LiftS K T w r D) : LiftS K T w' r D := let ⟨o, e, q⟩ := h; ⟨o, e, q.from x⟩
theorem LiftS.no {w : Wd} {D : Ends} {P : Prop} (h : LiftS K T w none D) : P := by obtain ⟨_, e, _⟩ := h; cases e
abbrev FS := Env' → Hs → Option Res
def LS (K : PySem.W.Frag) (T : List Addr) (f : FS) : TS := fun D σ H => ∃ ι F ς G, Rel K T ⟨ι, F, H⟩ G ∧ RS K ⟨ι, F, H⟩ ς σ ∧ LiftS K T ⟨ι, F, H⟩ (f ς G) D
theorem LiftS.bnd {α : Type} {w : Wd} {r : Option (α × Hs)} {k : α → Hs → Option Res} {D : Ends} (h : LiftS K T w (Mp.bnd r k) D) : ∃ d G1, r = some (d, G1) ∧ ∀ w', Ex2 K w w' → LiftS K T w' (k d G1) D := by
  cases r with
  | none => exact h.no
  | some p => exact ⟨p.1, p.2, rfl, fun w' x => LiftS.from x h⟩
theorem LiftS.nx {w : Wd} {ς : Env'} {G : Hs} {D : Ends} (h : LiftS K T w (some (.nx ς G)) D) {w' : Wd} {σ' : L2.St} (x : Ex2 K w w') (R : Rel K T w' G) (S : RS K w' ς σ') : D.nx σ' w'.H := by
  obtain ⟨o, e, q⟩ := h
  cases e
  exact q w' σ' x R S

/-! blocks -/
def skipS : FS := fun ς G => some (.nx ς G)
def seqS (f g : FS) : FS := fun ς G => (f ς G).bind fun o => match o with
  | .nx ς1 G1 => g ς1 G1
  | o => some o
section
variable {X : Cx} {st : Stmt} {rest body : List Stmt} {f g : FS} {e h1 h2 : Fn} {c : FB} {x e' : Expr} {pos p : Pos}
theorem ls_nil : PSs X [] (LS X.K T skipS) := pss_nil.imp fun D σ H ⟨ι, F, ς, G, R, S, h⟩ => h.nx Ex2.refl R S
theorem seq_in {w : Wd} {ς : Env'} {G : Hs} {D : Ends} {f : FS} (h : LiftS K T w (seqS f g ς G) D) : LiftS K T w (f ς G) { D with nx := LS K T g D } := by
  unfold seqS at h
  cases e : f ς G with
  | none => rw [e] at h; exact h.no
  | some o =>
    rw [e] at h
    refine ⟨o, rfl, ?_⟩
    cases o with
    | nx ς1 G1 => exact fun w' σ' x R S => ⟨w'.ι, w'.F, ς1, G1, R, S, LiftS.from x h⟩
    | rt d G1 => obtain ⟨_, e, q⟩ := h; cases e; exact q
    | bk d G1 => obtain ⟨_, e, q⟩ := h; cases e; exact q
    | ct d G1 => obtain ⟨_, e, q⟩ := h; cases e; exact q
theorem ls_cons (h1 : PS X st (LS X.K T f)) (h2 : PSs X rest (LS X.K T g)) : PSs X (st :: rest) (LS X.K T (seqS f g)) :=
  (pss_cons h1 h2).imp fun D σ H ⟨ι, F, ς, G, R, S, h⟩ => ⟨ι, F, ς, G, R, S, seq_in h⟩
theorem ls_pass : PS X (.Pass pos) (LS X.K T skipS) := ps_pass.imp fun D σ H ⟨ι, F, ς, G, R, S, h⟩ => h.nx Ex2.refl R S
theorem ls_break : PS X (.Break pos) (LS X.K T fun ς G => some (.bk ς G)) := ps_break.imp fun D σ H ⟨ι, F, ς, G, R, S, h⟩ => by
  obtain ⟨_, e, q⟩ := h; cases e; exact q _ _ Ex2.refl R S
theorem ls_cont : PS X (.Continue pos) (LS X.K T fun ς G => some (.ct ς G)) := ps_continue.imp fun D σ H ⟨ι, F, ς, G, R, S, h⟩ => by
  obtain ⟨_, e, q⟩ := h; cases e; exact q _ _ Ex2.refl R S
theorem ls_bad : PS X st (LS X.K T fun _ _ => none) := ps_never.imp fun D σ H ⟨ι, F, ς, G, R, S, h⟩ => h.no
/-! returns, values that are dropped -/
def retS (e : Fn) : FS := fun ς G => bnd (e ς G) fun d G1 => some (.rt d G1)
theorem ls_ret (he : PE X x (LE X.K T e)) : PS X (.Return (some x) pos) (LS X.K T (retS e)) := (ps_ret he).imp fun D σ H ⟨ι, F, ς, G, R, S, h⟩ => by
  obtain ⟨d, G1, e1, h⟩ := h.bnd
  refine ⟨ι, F, ς, G, R, S, d, G1, e1, fun w' v x' R' r => ?_⟩
  obtain ⟨_, e, q⟩ := h w' x'
  cases e
  exact q w' v Ex2.refl R' r
theorem ls_retN : PS X (.Return none pos) (LS X.K T fun _ G => some (.rt .non G)) := ps_retN.imp fun D σ H ⟨ι, F, ς, G, R, S, h⟩ => by
  obtain ⟨_, e, q⟩ := h; cases e; exact q _ _ Ex2.refl R rfl
def dropS (e : Fn) : FS := fun ς G => bnd (e ς G) fun _ G1 => some (.nx ς G1)
theorem ls_expr (he : PE X x (LE X.K T e)) (hs : swapsWith x none pos.line X.env = pure false) : PS X (.Expr x pos) (LS X.K T (dropS e)) := (ps_expr he hs).imp fun D σ H ⟨ι, F, ς, G, R, S, h⟩ => by
  obtain ⟨d, G1, e1, h⟩ := h.bnd
  exact ⟨ι, F, ς, G, R, S, d, G1, e1, fun w' v x' R' r => (h w' x').nx Ex2.refl R' (S.ext x'.toExt)⟩
theorem ls_doc {y : Str} {j : Nat} {p' : Pos} : PS X (.Expr (.Constant (.str y) j pos) p') (LS X.K T skipS) := ps_doc.imp fun D σ H ⟨ι, F, ς, G, R, S, h⟩ => h.nx Ex2.refl R S
/-! stores -/
def setS (i : Nat) (e : Fn) : FS := fun ς G => bnd (e ς G) fun d G1 => some (.nx (ς.set i (some d)) G1)
theorem set_in {σ : L2.St} {H : Hp} {D : Ends} {i : Nat} (h : LS K T (setS i e) D σ H) : LE K T e σ H fun v H1 => D.nx (σ.set i (some v)) H1 := by
  obtain ⟨ι, F, ς, G, R, S, h⟩ := h
  obtain ⟨d, G1, e1, h⟩ := h.bnd
  exact ⟨ι, F, ς, G, R, S, d, G1, e1, fun w' v x' R' r => (h w' x').nx Ex2.refl R' ((S.ext x'.toExt).set r i)⟩
theorem ls_set {i : Nat} {y : Str} {p' : Pos} (hN : X.N.Nodup) (hi : X.N[i]? = some y) (hx : Loc X.env.scope y) (he : PE X x (LE X.K T e)) (hs : swapsWith x (some (.Name y p')) pos.line X.env = pure false) (hf : X.fn y = true ∨ X.env.scope.names.lookup y = some .local) :
    PS X (.Assign [.Name y p'] x pos) (LS X.K T (setS i e)) := (ps_set hN hi hx he hs hf).imp fun D σ H h => set_in h
theorem ls_setLc {elt tg iter : Expr} {ifs : List Expr} {scope : Scope} {own : List (Str × Nat)} {fi : Fn} {t : Tg} {i : Nat} {y : Str} {py : Pos} (m : Bool) (hc : X.calm = true) (hN : X.N.Nodup) (hy : X.N[i]? = some y) (hyl : X.env.scope.names.lookup y = some .local)
    (hsw : swapsWith (.ListComp elt [⟨tg, iter, ifs, 0⟩] scope pos) (some (.Name y py)) p.line X.env = pure true) (hi : PI X tg iter (LI X.K T fi)) (ok : BlkOk X.N X.env.scope scope own)
    (hg : ∀ (s : Shared) (H : Hp) (C : Addr) (cl : List (Str × Addr)) (fp : List Addr), PG (X.blk s H scope (compEnvC scope cl C X.env) fp) tg (GT X.K T t)) (ht : ∀ (s : Shared) (H : Hp) (C : Addr) (cl : List (Str × Addr)) (fp : List Addr), PTs (X.blk s H scope (compEnvC scope cl C X.env) fp) ifs (LT X.K T c))
    (he : ∀ (s : Shared) (H : Hp) (C : Addr) (cl : List (Str × Addr)) (fp : List Addr), PE (X.blk s H scope (compEnvC scope cl C X.env) fp) elt (LE X.K T e)) (hs : ∀ x, foldedSetIterable iter X.env x = pure x) (hix : ∀ i ∈ t.ix, i ∈ own.map (·.2)) :
    PS X (.Assign [.Name y py] (.ListComp elt [⟨tg, iter, ifs, 0⟩] scope pos) p) (LS X.K T (setS i (compD m t (own.map (·.2)) fi c e))) :=
  (ps_setLc hc hN hy hyl hsw hi ok hg ht he hs).imp fun D σ H h => comp_in m hix (set_in h)
/-- a tuple of targets, the stores from the left -/
def tgtS (t : Tg) (e : Fn) : FS := fun ς G => bnd (e ς G) fun d G1 => (bindL t [d] ς).bind fun ς1 => some (.nx ς1 G1)
theorem ls_tgt {tg : Expr} {t : Tg} (he : PE X x (LE X.K T e)) (hg : PG X tg (GT X.K T t)) (hs : swapsWithSole [tg] x pos.line X.env = pure false) (hw : swappedStores [tg] x X.env = pure none) (hst : isStar tg = false) :
    PS X (.Assign [tg] x pos) (LS X.K T (tgtS t e)) := (ps_asg he hg hs hw (assign_1 hst)).imp fun D σ H ⟨ι, F, ς, G, R, S, h⟩ => by
  obtain ⟨d, G1, e1, h⟩ := h.bnd
  refine ⟨ι, F, ς, G, R, S, d, G1, e1, fun w' v x' R' r => ?_⟩
  have h' := h w' x'
  cases eb : bindL t [d] ς with
  | none => rw [eb] at h'; exact h'.no
  | some ς1 =>
    rw [eb] at h'
    exact ⟨w'.ι, w'.F, ς, G1, d, ς1, R', S.ext x'.toExt, r, eb, fun σ' S' _ => h'.nx Ex2.refl R' S'⟩
def par2S (i j : Nat) (f : Fn) : FS := fun ς G => bnd (f ς G) fun d G1 => match d with | .tup [a, b] => some (.nx ((ς.set i (some a)).set j (some b)) G1) | _ => none
theorem ls_par2 {i j : Nat} {y z : Str} {a b : Expr} {py pz pt : Pos} {kt k2 : Nat} {pt2 : Pos} (hc : X.calm = true) (hN : X.N.Nodup) (hi : X.N[i]? = some y) (hj : X.N[j]? = some z) (hij : i ≠ j)
    (hy : X.env.scope.names.lookup y = some .local) (hz : X.env.scope.names.lookup z = some .local) (ha : PA X [a, b] (LA X.K T e))
    (hw : swappedStores [.Tuple [.Name y py, .Name z pz] kt pt] (.Tuple [a, b] k2 pt2) X.env = pure (some [y, z])) :
    PS X (.Assign [.Tuple [.Name y py, .Name z pz] kt pt] (.Tuple [a, b] k2 pt2) pos) (LS X.K T (par2S i j e)) := (ps_par hc hN hi hj hij hy hz ha hw).imp fun D σ H ⟨ι, F, ς, G, R, S, h⟩ => by
  obtain ⟨d, G1, e1, h⟩ := h.bnd
  have h0 := h ⟨ι, F, H⟩ Ex2.refl
  split at h0
  · rename_i d1 d2
    refine ⟨ι, F, ς, G, R, S, [d1, d2], G1, e1, fun w' vs x' R' r => ?_⟩
    obtain ⟨v, u, rfl, r1, r2⟩ := r.two
    exact ⟨v, u, rfl, h0.nx x' R' (((S.ext x'.toExt).set r1 i).set r2 j)⟩
  · exact h0.no
def par3S (i j l : Nat) (f : Fn) : FS := fun ς G => bnd (f ς G) fun d G1 => match d with | .tup [a, b, c] => some (.nx (((ς.set i (some a)).set j (some b)).set l (some c)) G1) | _ => none
theorem ls_par3 {i j l : Nat} {y z u : Str} {a b b3 : Expr} {py pz pu pt : Pos} {kt k2 : Nat} {pt2 : Pos} (hc : X.calm = true) (hN : X.N.Nodup) (hi : X.N[i]? = some y) (hj : X.N[j]? = some z) (hl : X.N[l]? = some u) (hij : i ≠ j) (hil : i ≠ l) (hjl : j ≠ l)
    (hy : X.env.scope.names.lookup y = some .local) (hz : X.env.scope.names.lookup z = some .local) (hu : X.env.scope.names.lookup u = some .local) (ha : PA X [a, b, b3] (LA X.K T e))
    (hw : swappedStores [.Tuple [.Name y py, .Name z pz, .Name u pu] kt pt] (.Tuple [a, b, b3] k2 pt2) X.env = pure (some [y, z, u])) :
    PS X (.Assign [.Tuple [.Name y py, .Name z pz, .Name u pu] kt pt] (.Tuple [a, b, b3] k2 pt2) pos) (LS X.K T (par3S i j l e)) := (ps_par3 hc hN hi hj hl hij hil hjl hy hz hu ha hw).imp fun D σ H ⟨ι, F, ς, G, R, S, h⟩ => by
  obtain ⟨d, G1, e1, h⟩ := h.bnd
  have h0 := h ⟨ι, F, H⟩ Ex2.refl
  split at h0
  · rename_i d1 d2 d3
    refine ⟨ι, F, ς, G, R, S, [d1, d2, d3], G1, e1, fun w' vs x' R' r => ?_⟩
    obtain ⟨v, t1, rfl, r1, r⟩ := r
    obtain ⟨v2, v3, rfl, r2, r3⟩ := r.two
    exact ⟨v, v2, v3, rfl, h0.nx x' R' ((((S.ext x'.toExt).set r1 i).set r2 j).set r3 l)⟩
  · exact h0.no
/-! o[i] = e -/
def setK (o i d : D) (G : Hs) : Option Hs := match o with
  | .ref n => match G[n]?, i with
    | some (.lst ds), .int k => (ixN ds.length k).bind fun j => some (G.set n (.lst (ds.set j d)))
    | some (.dct kvs), i => (keyD i).bind fun k => if kvs.length < sizeLine then some (G.set n (.dct (dput kvs k d))) else none
    | _, _ => none
  | _ => none
def rSt (K : PySem.W.Frag) (T : List Addr) : V → V → V → Hp → (Hp → Prop) → Prop := fun o i v H Q =>
  ∃ ι F G d1 d2 d3 G', Rel K T ⟨ι, F, H⟩ G ∧ RV K ⟨ι, F, H⟩ d1 o ∧ RV K ⟨ι, F, H⟩ d2 i ∧ RV K ⟨ι, F, H⟩ d3 v ∧ setK d1 d2 d3 G = some G' ∧ ∀ w', Ex2 K ⟨ι, F, H⟩ w' → Rel K T w' G' → Q w'.H
theorem set_D (hu : X.A.units + 65 < cLine) : PSet X (rSt X.K T) := by
  intro pins s σ H o i v ov iv u Q I ro ri rv h
  obtain ⟨ι, F, G, d1, d2, d3, G', R, r1, r2, r3, es, h⟩ := h
  unfold setK at es
  split at es
  · rename_i n
    split at es
    · rename_i ds k eg
      cases ej : ixN ds.length k with
      | none => rw [ej] at es; cases es
      | some j =>
        rw [ej] at es
        cases es
        obtain ⟨a, vs, rfl, ea, nf, ha, q⟩ := cell_at R r1 eg
        refine set_list pins s σ H _ i v ov iv u Q I ro ri rv ⟨a, vs, k, j, rfl, rv_int r2, ha, by rw [← q.len]; exact ej, ?_⟩
        exact h ⟨ι, F, upd H a (.lst (vs.set j v))⟩ (Ex2.write (List.mem_of_getElem? ea) nf ha trivial) (R.write ea nf ha trivial (CellOk.lst' nf ha trivial (q.set r3 j)))
    · rename_i d2 _ _ kvs eg
      cases ek : keyD d2 with
      | none => rw [ek] at es; cases es
      | some k =>
        rw [ek] at es
        have es : (if kvs.length < sizeLine then some (G.set n (.dct (dput kvs k d3))) else none) = some G' := es
        split at es
        · rename_i hl
          cases es
          obtain ⟨a, us, rfl, ea, nf, ha, q⟩ := dct_at R r1 eg
          cases (show ov = Value.ref a from ro)
          have hlen : kvs.length = us.length := by unfold RKs at q; exact Paired.length q
          have ek' := keyD_kV ek r2
          subst ek'
          have hput := DPut.k (k := k) (v := v) ha (by rw [← hlen]; exact hl)
          refine d_setItem (Nat.lt_of_le_of_lt (by omega) hu) I hput ri rv fun s' I' => ⟨_, I', ?_⟩
          have x : Ext X.K ⟨ι, F, H⟩ ⟨ι, F, upd H a (.dK (putK us k v))⟩ := Ext.write (w := ⟨ι, F, H⟩) nf ha trivial
          exact h ⟨ι, F, upd H a (.dK (putK us k v))⟩ (Ex2.write (List.mem_of_getElem? ea) nf ha trivial) (R.write ea nf ha trivial ⟨nf, _, upd_same, (q.put k r3).ext x⟩)
        · cases es
    · cases es
  · cases es
def setIxS (o i e : Fn) : FS := fun ς G => bnd (e ς G) fun d G1 => bnd (o ς G1) fun x G2 => bnd (i ς G2) fun y G3 => (setK x y d G3).bind fun G4 => some (.nx ς G4)
theorem ls_setIx {o i : Expr} {p' : Pos} (hu : X.A.units + 65 < cLine) (ho : PE X o (LE X.K T h1)) (hi : PE X i (LE X.K T h2)) (he : PE X x (LE X.K T e)) (hsl : ∀ v, assign (.Subscript o i p') X.env v = (do
      let ov ← holding [v] (eval o X.env)
      let iv ← holding [v, ov] (eval i X.env)
      standAt p'
      holding [v, ov, iv] (setItem ov iv v)
      release [v, ov, iv] [])) (hs : swapsWithSole [.Subscript o i p'] x pos.line X.env = pure false) : PS X (.Assign [.Subscript o i p'] x pos) (LS X.K T (setIxS h1 h2 e)) :=
  (ps_asg he (pg_sub ho hi (set_D (T := T) hu) hsl) hs (by rfl) (by rfl)).imp fun D σ H ⟨ι, F, ς, G, R, S, h⟩ => by
  obtain ⟨d, G1, e1, h⟩ := h.bnd
  refine ⟨ι, F, ς, G, R, S, d, G1, e1, fun w1 v x1 R1 r1 => ?_⟩
  obtain ⟨dx, G2, e2, h⟩ := (h w1 x1).bnd
  refine ⟨w1.ι, w1.F, ς, G1, R1, S.ext x1.toExt, dx, G2, e2, fun w2 xv x2 R2 r2 => ?_⟩
  obtain ⟨dy, G3, e3, h⟩ := (h w2 x2).bnd
  refine ⟨w2.ι, w2.F, ς, G2, R2, (S.ext x1.toExt).ext x2.toExt, dy, G3, e3, fun w3 yv x3 R3 r3 => ?_⟩
  have h' := h w3 x3
  cases es : setK dx dy d G3 with
  | none => rw [es] at h'; exact h'.no
  | some G4 =>
    rw [es] at h'
    exact ⟨w3.ι, w3.F, G3, dx, dy, d, G4, R3, RV.ext x3.toExt _ _ r2, r3, RV.ext (x2.toExt.trans x3.toExt) _ _ r1, es, fun w4 x4 R4 => h'.nx x4 R4 ((((S.ext x1.toExt).ext x2.toExt).ext x3.toExt).ext x4.toExt)⟩
/-! augmented stores of ints and texts -/
inductive Aop where
  | add | sub | mul
def Aop.py : Aop → Operator
  | .add => .Add | .sub => .Sub | .mul => .Mult
def augK : Aop → D → D → Hs → Rs
  | .add, .int i, .int j, G => some (.int (i + j), G)
  | .add, .str a, .str b, G => if a.length + b.length ≤ sizeLine then some (.str (a ++ b), G) else none
  | .sub, .int i, .int j, G => some (.int (i - j), G)
  | .mul, .int i, .int j, G => if (-(2 ^ 64) < i ∧ i < 2 ^ 64) ∨ (-(2 ^ 64) < j ∧ j < 2 ^ 64) then some (.int (i * j), G) else none
  | _, _, _, _ => none
theorem ip_D (o : Aop) : PIp X o.py (r2 X.K T (augK o)) := by
  intro pins s σ H x y v u Q I rv ru h
  obtain ⟨ι, F, G, dx, dy, R, rx, ry, h⟩ := h
  cases o with
  | add =>
    cases dx <;> first | exact h.no | skip
    · cases dy <;> first | exact h.no | skip
      exact iop_add pins s σ H x y v u Q I rv ru ⟨_, _, rx, ry, h.now R rfl⟩
    · cases dy <;> first | exact h.no | skip
      obtain ⟨hl, h⟩ := h.ite
      refine iop_add_str pins s σ H x y v u Q I rv ru ⟨_, _, rx, ry, by rw [strLen, strLen]; exact hl, ?_⟩
      rw [toArr]
      exact h.now R rfl
  | sub =>
    cases dx <;> first | exact h.no | skip
    cases dy <;> first | exact h.no | skip
    exact iop_sub pins s σ H x y v u Q I rv ru ⟨_, _, rx, ry, h.now R rfl⟩
  | mul =>
    cases dx <;> first | exact h.no | skip
    cases dy <;> first | exact h.no | skip
    obtain ⟨hc, h⟩ := h.ite
    exact iop_mul pins s σ H x y v u Q I rv ru ⟨_, _, rx, ry, hc, h.now R rfl⟩
def augS (i : Nat) (o : Aop) (e : Fn) : FS := fun ς G => (ς[i]?).bind fun q => q.bind fun d0 => bnd (e ς G) fun d G1 => bnd (augK o d0 d G1) fun z G2 => some (.nx (ς.set i (some z)) G2)
theorem ls_aug {i : Nat} {y : Str} (o : Aop) {p' : Pos} (hN : X.N.Nodup) (hi : X.N[i]? = some y) (hx : Loc X.env.scope y) (he : PE X x (LE X.K T e)) (hf : X.fn y = true ∨ X.env.scope.names.lookup y = some .local) :
    PS X (.AugAssign (.Name y p') o.py x pos) (LS X.K T (augS i o e)) := (ps_aug hN hi hx he (ip_D (T := T) o) hf).imp fun D σ H ⟨ι, F, ς, G, R, S, h⟩ => by
  unfold augS at h
  cases e1 : ς[i]? with
  | none => rw [e1] at h; exact h.no
  | some q =>
  cases q with
  | none => rw [e1] at h; exact h.no
  | some d0 =>
  rw [e1] at h
  have h : LiftS X.K T ⟨ι, F, H⟩ (bnd (e ς G) fun d G1 => bnd (augK o d0 d G1) fun z G2 => some (.nx (ς.set i (some z)) G2)) D := h
  obtain ⟨v0, e2, r0⟩ := S.at_ i d0 e1
  obtain ⟨d, G1, e3, h⟩ := h.bnd
  refine ⟨v0, e2, ι, F, ς, G, R, S, d, G1, e3, fun w1 v x1 R1 r1 => ?_⟩
  obtain ⟨z, G2, e4, h⟩ := (h w1 x1).bnd
  exact ⟨w1.ι, w1.F, G1, d0, d, R1, RV.ext x1.toExt _ _ r0, r1, z, G2, e4, fun w2 zv x2 R2 r2 => (h w2 x2).nx Ex2.refl R2 ((S.ext (x1.toExt.trans x2.toExt)).set r2 i)⟩

/-! if, while, for -/
def ifS (c : FB) (f g : FS) : FS := fun ς G => bnd (c ς G) fun b G1 => if b = true then f ς G1 else g ς G1
theorem ls_if {ce : Expr} {a b : List Stmt} (hc : PT X ce (LT X.K T c)) (ha : PSs X a (LS X.K T f)) (hb : PSs X b (LS X.K T g)) : PS X (.If ce a b pos) (LS X.K T (ifS c f g)) := (ps_if hc ha hb).imp fun D σ H ⟨ι, F, ς, G, R, S, h⟩ => by
  obtain ⟨t, G1, e1, h⟩ := h.bnd
  refine ⟨ι, F, ς, G, R, S, t, G1, e1, fun w' x' R' => ?_⟩
  have h' := h w' x'
  cases t with
  | true => exact ⟨w'.ι, w'.F, ς, G1, R', S.ext x'.toExt, h'⟩
  | false => exact ⟨w'.ι, w'.F, ς, G1, R', S.ext x'.toExt, h'⟩
def loopW (c : FB) (f : FS) : Nat → FS
  | 0 => fun _ _ => none
  | n + 1 => fun ς G => bnd (c ς G) fun b G1 => if b = true then (f ς G1).bind fun o => match o with
      | .nx ς' G' => loopW c f n ς' G'
      | .ct ς' G' => loopW c f n ς' G'
      | .bk ς' G' => some (.nx ς' G')
      | .rt d G' => some (.rt d G')
    else some (.nx ς G1)
theorem ls_while {ce : Expr} (n : Nat) (hp : PassesOwn (model X.prog X.w) X.A X.env X.xe) (hc : PT X ce (LT X.K T c)) (hb : PSs X body (LS X.K T f)) : PS X (.While ce body [] pos) (LS X.K T (loopW c f n)) := by
  refine (ps_while hp hc hb).imp fun D σ H ⟨ι, F, ς, G, R, S, h⟩ => ?_
  refine ⟨fun m σ H => ∃ ι F ς G, Rel X.K T ⟨ι, F, H⟩ G ∧ RS X.K ⟨ι, F, H⟩ ς σ ∧ LiftS X.K T ⟨ι, F, H⟩ (loopW c f m ς G) D, ⟨n, ι, F, ς, G, R, S, h⟩, ?_⟩
  rintro m σ H ⟨ι, F, ς, G, R, S, h⟩
  cases m with
  | zero => exact h.no
  | succ m =>
    simp only [loopW] at h
    obtain ⟨t, G1, e1, h⟩ := h.bnd
    refine ⟨ι, F, ς, G, R, S, t, G1, e1, fun w' x' R' => ?_⟩
    have h' := h w' x'
    cases t with
    | false => exact h'.nx Ex2.refl R' (S.ext x'.toExt)
    | true =>
      simp only [if_true] at h' ⊢
      refine ⟨fun σ' H' => ∃ ι F ς G, Rel X.K T ⟨ι, F, H'⟩ G ∧ RS X.K ⟨ι, F, H'⟩ ς σ' ∧ LiftS X.K T ⟨ι, F, H'⟩ (loopW c f m ς G) D, fun σ' H' q => ⟨m, Nat.lt_succ_self _, q⟩, w'.ι, w'.F, ς, G1, R', S.ext x'.toExt, ?_⟩
      cases eo : f ς G1 with
      | none => rw [eo] at h'; exact h'.no
      | some o =>
        rw [eo] at h'
        refine ⟨o, rfl, ?_⟩
        cases o with
        | nx ς2 G2 => exact fun w2 σ2 x2 R2 S2 => ⟨w2.ι, w2.F, ς2, G2, R2, S2, LiftS.from x2 h'⟩
        | ct ς2 G2 => exact fun w2 σ2 x2 R2 S2 => ⟨w2.ι, w2.F, ς2, G2, R2, S2, LiftS.from x2 h'⟩
        | bk ς2 G2 => exact fun w2 σ2 x2 R2 S2 => h'.nx x2 R2 S2
        | rt d G2 => obtain ⟨_, e, q⟩ := h'; cases e; exact q
def loopF (t : Tg) (f : FS) : List D → FS
  | [] => fun ς G => some (.nx ς G)
  | d :: ds => fun ς G => (bindL t [d] ς).bind fun ς1 => (f ς1 G).bind fun o => match o with
      | .nx ς' G' => loopF t f ds ς' G'
      | .ct ς' G' => loopF t f ds ς' G'
      | .bk ς' G' => some (.nx ς' G')
      | .rt d G' => some (.rt d G')
def forS (t : Tg) (fi : Fn) (f : FS) : FS := fun ς G => bnd (fi ς G) fun xs G1 => match xs with | .tup ds => loopF t f ds ς G1 | _ => none
theorem ls_for {tg iter : Expr} {t : Tg} {fi : Fn} (hp : PassesOwn (model X.prog X.w) X.A X.env X.xe) (hc : X.calm = true) (hi : PI X tg iter (LI X.K T fi)) (hg : PG X tg (GT X.K T t)) (hb : PSs X body (LS X.K T f))
    (hs : ∀ x, foldedSetIterable iter X.env x = pure x) : PS X (.For tg iter body [] pos) (LS X.K T (forS t fi f)) := by
  refine (ps_for hp hc hi hg hb hs).imp fun D σ H ⟨ι, F, ς, G, R, S, h⟩ => ?_
  obtain ⟨xs, G1, e1, h⟩ := h.bnd
  have h0 := h ⟨ι, F, H⟩ Ex2.refl
  cases xs <;> first | exact h0.no | skip
  rename_i ds
  refine ⟨ι, F, ς, G, R, S, ds, G1, e1, fun w1 J x1 R1 jok => ?_⟩
  have hL : LiftS X.K T w1 (loopF t f ds ς G1) D := h w1 x1
  refine ⟨fun i m σ H' => ∃ (w' : Wd) (ς' : Env') (G' : Hs), w'.H = H' ∧ Ex2 X.K w1 w' ∧ Rel X.K T w' G' ∧ RS X.K w' ς' σ ∧ i ≤ ds.length ∧ m = ds.length - i ∧ LiftS X.K T w' (loopF t f (ds.drop i) ς' G') D,
    ⟨ds.length, w1, ς, G1, rfl, Ex2.refl, R1, S.ext x1.toExt, Nat.zero_le _, rfl, hL⟩, ?_⟩
  rintro i m σ' H' ⟨w', ς', G', rfl, x', R', S', hi', rfl, el⟩
  obtain ⟨jgo, jstop⟩ := jok w' G' x' R'
  by_cases hlt : i < ds.length
  · refine .inr ?_
    have ed : ds[i]? = some ds[i] := List.getElem?_eq_getElem hlt
    rw [List.drop_eq_getElem_cons hlt] at el
    simp only [loopF] at el
    cases eb : bindL t [ds[i]] ς' with
    | none => rw [eb] at el; exact el.no
    | some ς1 =>
    rw [eb] at el
    simp only [Option.bind_some] at el
    obtain ⟨go, yld⟩ := jgo i _ ed
    refine ⟨go, fun σ2 H' => ∃ (w' : Wd) (ς' : Env') (G' : Hs), w'.H = H' ∧ Ex2 X.K w1 w' ∧ Rel X.K T w' G' ∧ RS X.K w' ς' σ2 ∧ LiftS X.K T w' (loopF t f (ds.drop (i + 1)) ς' G') D,
      fun σ2 H' ⟨w5, ς5, G5, q1, q2, q3, q4, q5⟩ => ⟨ds.length - (i + 1), by omega, w5, ς5, G5, q1, q2, q3, q4, hlt, rfl, q5⟩, fun v H' hy => ?_⟩
    obtain ⟨w2, rfl, x2, R2, rd⟩ := yld v H' hy
    refine ⟨w2.ι, w2.F, ς', G', ds[i], ς1, R2, S'.ext x2.toExt, rd, eb, fun σ2 S3 _ => ?_⟩
    refine ⟨w2.ι, w2.F, ς1, G', R2, S3, ?_⟩
    cases eo : f ς1 G' with
    | none => rw [eo] at el; exact el.no
    | some o =>
      rw [eo] at el
      refine ⟨o, rfl, ?_⟩
      cases o with
      | nx ς3 G3 => exact fun w3 σ3 x3 R3 S4 => ⟨w3, ς3, G3, rfl, (x'.trans x2).trans x3, R3, S4, LiftS.from (x2.trans x3) el⟩
      | ct ς3 G3 => exact fun w3 σ3 x3 R3 S4 => ⟨w3, ς3, G3, rfl, (x'.trans x2).trans x3, R3, S4, LiftS.from (x2.trans x3) el⟩
      | bk ς3 G3 => exact fun w3 σ3 x3 R3 S4 => LiftS.nx el (x2.trans x3) R3 S4
      | rt d G3 => obtain ⟨_, e, q⟩ := el; cases e; exact fun w3 v x3 R3 r => q w3 v (x2.trans x3) R3 r
  · have hi2 : i = ds.length := by omega
    subst hi2
    refine .inl ⟨jstop, ?_⟩
    rw [List.drop_length] at el
    exact LiftS.nx el Ex2.refl R' S'
end
end Mp
set_option Elab.async false
set_option linter.all false
set_option autoImplicit false
set_option maxRecDepth 100000
set_option maxHeartbeats 1000000
/-! Mp: dicts that never change once they are made; sorted; more operations -/
namespace Mp
open PySem PySem.Spec L2
open PyProof.Rows hiding St

variable {K : PySem.W.Frag} {T : List Addr}

/-! a dict is locked as soon as it is made -/
def tLk (te : TE) : TE := fun σ H Q => te σ H fun v H1 => ∃ a us, v = .ref a ∧ H1 a = some (.dK us) ∧ ∀ od, Q v (upd H1 a (.frz od (.dK us)))
theorem pe_lk {X : Cx} {e : Expr} {te : TE} (h : PE X e te) : PE X e (tLk te) := by
  refine ⟨fun pins s σ H Q I hw => ?_⟩
  refine thn (h.run pins s σ H _ I hw) fun v s1 ⟨x, H1, I1, rx, a, us, ex, ha, q⟩ => ?_
  obtain ⟨od, I2⟩ := I1.lock ha trivial
  exact ⟨x, _, I2, rx, q od⟩
/-! a thing that is being made: no cell, not frozen yet -/
structure OutO (w : Wd) (a : Addr) (u : HO) : Prop where
  at_ : w.H a = some u
  ni : a ∉ w.ι
  nf : ¬ w.F a
  wr : Wr u
theorem OutO.ext {w w' : Wd} {a : Addr} {u : HO} (h : OutO w a u) (x : Ex2 K w w') : OutO w' a u := by
  refine ⟨x.stay a _ h.at_ (.inl h.ni) (fun ps z => by have := h.wr; rw [z] at this; exact this), fun z => ?_, fun z => ?_, h.wr⟩
  · rcases x.new a z with q | q
    · exact h.ni q
    · rw [h.at_] at q; cases q
  · rcases x.nf a z with q | q | q
    · exact h.nf q
    · exact h.ni q
    · rw [h.at_] at q; cases q
theorem OutO.start {w : Wd} {G : Hs} {a : Addr} (R : Rel K T w G) (h : w.H a = none) {u : HO} (hw : Wr u) : OutO ⟨w.ι, w.F, upd w.H a u⟩ a u :=
  ⟨upd_same, fun z => R.alv a z h, fun z => R.live a z h, hw⟩
theorem OutO.put {w : Wd} {a : Addr} {u u' : HO} (h : OutO w a u) (hw : Wr u') : OutO ⟨w.ι, w.F, upd w.H a u'⟩ a u' := ⟨upd_same, h.ni, h.nf, hw⟩
theorem OutO.wext {w : Wd} {a : Addr} {u o : HO} (h : OutO w a u) : Ext K w ⟨w.ι, w.F, upd w.H a o⟩ := Ext.write h.nf h.at_ h.wr
theorem Ex2.outO {w w' : Wd} {a : Addr} {u o : HO} (x : Ex2 K w w') (h : OutO w' a u) (hn : w.H a = none) : Ex2 K w ⟨w'.ι, w'.F, upd w'.H a o⟩ := by
  refine ⟨x.toExt.trans h.wext, x.new, x.fr, x.nf, fun b q e n t => ?_, fun b hb => ?_⟩
  · have nb : b ≠ a := fun z => by rw [z, hn] at e; cases e
    show upd w'.H a _ b = _
    rw [upd_ne nb]; exact x.stay b q e n t
  · show upd w'.H a _ b ≠ none
    by_cases hba : b = a
    · rw [hba, upd_same]; simp
    · rw [upd_ne hba]; exact x.occ b hb
theorem Rel.outO {w : Wd} {G : Hs} {a : Addr} {u o : HO} (R : Rel K T w G) (h : OutO w a u) : Rel K T ⟨w.ι, w.F, upd w.H a o⟩ G := by
  have x : Ext K w ⟨w.ι, w.F, upd w.H a o⟩ := h.wext
  refine ⟨R.len, R.nd, fun n c b e1 e2 => ?_, fun b hb => ?_, fun b hb => ?_, fun P hP => ?_⟩
  · have nb : b ≠ a := fun z => h.ni (z ▸ List.mem_of_getElem? e2)
    exact (R.cell n c b e1 e2).mono x (upd_ne nb) fun z => z
  · show upd w.H a _ b ≠ none
    by_cases hba : b = a
    · rw [hba, upd_same]; simp
    · rw [upd_ne hba]; exact R.live b hb
  · show upd w.H a _ b ≠ none
    by_cases hba : b = a
    · rw [hba, upd_same]; simp
    · rw [upd_ne hba]; exact R.alv b hb
  · obtain ⟨ps, q1, q2⟩ := R.tab P hP
    refine ⟨ps, ?_, q2⟩
    show upd w.H a _ P = _
    rw [upd_ne (fun z => by rw [z, h.at_] at q1; cases q1; exact h.wr)]; exact q1
/-! dicts as data -/
def dicOf (acc : List (Key × D)) : D := .dic (acc.map (·.1)) (acc.map (·.2))
theorem rks_dic {w : Wd} {acc : List (Key × D)} {us : List (Key × V)} (r : RKs K w acc us) : us = (acc.map (·.1)).zip (us.map (·.2)) ∧ RVs K w (acc.map (·.2)) (us.map (·.2)) := by
  unfold RKs at r
  induction r with
  | nil => exact ⟨rfl, rfl⟩
  | @cons p q ps qs h t ih =>
    obtain ⟨h1, h2⟩ := h
    refine ⟨?_, _, _, rfl, h2, ih.2⟩
    show q :: qs = (p.1, q.2) :: _
    rw [h1]
    exact congrArg _ ih.1
theorem rv_dicOf {w : Wd} {acc : List (Key × D)} {us : List (Key × V)} {a : Addr} {o : Obj} (r : RKs K w acc us) (h : w.H a = some (.frz o (.dK us))) : RV K w (dicOf acc) (.ref a) := by
  obtain ⟨e1, e2⟩ := rks_dic r
  exact ⟨a, o, us.map (·.2), rfl, by rw [← e1]; exact h, by simp, e2⟩
section
variable {X : Cx}
/-- {} -/
theorem le_dic0 {pos : Pos} : PE X (.Dict [] [] pos) (LE X.K T fun _ G => some (dicOf [], G)) := by
  refine (pe_lk pe_dnewK).imp fun σ H Q ⟨ι, F, ς, G, R, S, h⟩ => ?_
  intro p hp
  refine ⟨p, [], rfl, upd_same, fun od => ?_⟩
  have o1 : OutO ⟨ι, F, upd H p (.dK [])⟩ p (.dK []) := OutO.start (w := ⟨ι, F, H⟩) R hp trivial
  have x1 : Ex2 X.K ⟨ι, F, H⟩ ⟨ι, F, upd H p (.dK [])⟩ := Ex2.newTup hp
  have R1 : Rel X.K T ⟨ι, F, upd H p (.dK [])⟩ G := Rel.newTup (w := ⟨ι, F, H⟩) R hp
  exact h.to (w' := ⟨ι, F, upd (upd H p (.dK [])) p (.frz od (.dK []))⟩) (x1.outO o1 hp) (R1.outO o1) (rv_dicOf (K := X.K) (acc := []) (us := []) .nil upd_same)
/-- {k: v} -/
def dic1 (f g : Fn) : Fn := fun ς G => bnd (f ς G) fun k G1 => bnd (g ς G1) fun v G2 => (keyD k).bind fun key => some (dicOf [(key, v)], G2)
theorem le_dic1 {a b : Expr} {f g : Fn} {pos : Pos} (ha : PE X a (LE X.K T f)) (hb : PE X b (LE X.K T g)) : PE X (.Dict [some a] [b] pos) (LE X.K T (dic1 f g)) := by
  refine (pe_lk (pe_disp (pps_cons ha hb pps_nil) (by rfl) (by rfl) (by simp) (by simp))).imp fun σ H Q ⟨ι, F, ς, G, R, S, d, G', e, q⟩ => ?_
  intro p hp
  unfold dic1 at e
  obtain ⟨kd, G1, e1, e⟩ := bnd_eq e
  obtain ⟨vd, G2, e2, e⟩ := bnd_eq e
  obtain ⟨key, ek, e⟩ := Option.bind_eq_some_iff.mp e
  cases e
  have x0 : Ex2 X.K ⟨ι, F, H⟩ ⟨ι, F, upd H p (.dK [])⟩ := Ex2.newTup hp
  have R0 : Rel X.K T ⟨ι, F, upd H p (.dK [])⟩ G := Rel.newTup (w := ⟨ι, F, H⟩) R hp
  have o0 : OutO ⟨ι, F, upd H p (.dK [])⟩ p (.dK []) := OutO.start (w := ⟨ι, F, H⟩) R hp trivial
  refine ⟨ι, F, ς, G, R0, S.ext x0.toExt, kd, G1, e1, fun w1 kv x1 R1 r1 => ?_⟩
  refine ⟨w1.ι, w1.F, ς, G1, R1, S.ext (x0.trans x1).toExt, vd, _, e2, fun w2 vv x2 R2 r2 => ?_⟩
  have o2 : OutO w2 p (.dK []) := o0.ext (x1.trans x2)
  refine ⟨o2.at_, [(key, vv)], by rw [keyD_kV ek r1]; rfl, by simp, p, [(key, vv)], rfl, upd_same, fun od => ?_⟩
  have e3 : upd (upd w2.H p (.dK (mergeK [] [(key, vv)]))) p (.frz od (.dK [(key, vv)])) = upd w2.H p (.frz od (.dK [(key, vv)])) := by
    funext b
    by_cases hb : b = p
    · rw [hb, upd_same, upd_same]
    · rw [upd_ne hb, upd_ne hb, upd_ne hb]
  rw [e3]
  have x3 := ((x0.trans x1).trans x2).outO (o := .frz od (.dK [(key, vv)])) o2 hp
  exact q ⟨w2.ι, w2.F, upd w2.H p (.frz od (.dK [(key, vv)]))⟩ _ x3 (R2.outO o2) (rv_dicOf (acc := [(key, vd)]) (us := [(key, vv)]) (.cons ⟨rfl, RV.ext o2.wext _ _ r2⟩ .nil) upd_same)
/-- {k: v for t in it if c} -/
def loopD (c : FB) (k e : Fn) (t : Tg) (ς : Env') : List D → List (Key × D) → Hs → Option (List (Key × D) × Hs)
  | [], acc, G => some (acc, G)
  | d :: ds, acc, G => (bindL t [d] ς).bind fun ς1 => bnd (c ς1 G) fun b G1 =>
    if b = true then bnd (k ς1 G1) fun y G2 => bnd (e ς1 G2) fun x G3 => (keyD y).bind fun key => if acc.length < sizeLine then loopD c k e t ς ds (dput acc key x) G3 else none
    else loopD c k e t ς ds acc G1
def dcompD (t : Tg) (own : List Nat) (fi : Fn) (c : FB) (k e : Fn) (ς : Env') (G : Hs) : Rs :=
  argD fi (fun ds G1 => bnd (loopD c k e t (wipeE ς own) ds [] G1) fun acc G2 => some (dicOf acc, G2)) ς G
end
theorem dcomp_in {fi e k : Fn} {c : FB} {t : Tg} {vs : List Nat} (hix : ∀ i ∈ t.ix, i ∈ vs) {σ : L2.St} {H : Hp} {Q : VK} (h : LE K T (dcompD t vs fi c k e) σ H Q) :
    tLk (tDc (LI K T fi) (GT K T t) (LT K T c) (LE K T k) (LE K T e) vs) σ H Q := by
  obtain ⟨ι, F, ς, G, R, S, h⟩ := h
  have h : Lift K T ⟨ι, F, H⟩ (bnd (fi ς G) fun xs G1 => match xs with | .tup ds => bnd (loopD c k e t (wipeE ς vs) ds [] G1) (fun acc G2 => some (dicOf acc, G2)) | _ => none) Q := h
  obtain ⟨ds, G1, e1, h⟩ := LiftL.bnd h
  refine ⟨ι, F, ς, G, R, S, ds, G1, e1, fun w1 J x1 R1 jok Da hD => ?_⟩
  have hL := h w1 x1
  cases eL : loopD c k e t (wipeE ς vs) ds [] G1 with
  | none => rw [eL] at hL; exact hL.no
  | some pF =>
  obtain ⟨accF, GF⟩ := pF
  rw [eL] at hL
  have hL : Lift K T w1 (some (dicOf accF, GF)) Q := hL
  refine ⟨fun i mm H' => ∃ (w' : Wd) (acc : List (Key × D)) (G' : Hs) (us : List (Key × V)), w'.H = H' ∧ Ex2 K w1 w' ∧ Rel K T w' G' ∧ OutO w' Da (.dK us) ∧ RKs K w' acc us ∧ i ≤ ds.length ∧ mm = ds.length - i ∧ loopD c k e t (wipeE ς vs) (ds.drop i) acc G' = some (accF, GF),
    ⟨ds.length, ⟨w1.ι, w1.F, upd w1.H Da (.dK [])⟩, [], G1, [], rfl, Ex2.newTup hD, R1.newTup hD, OutO.start R1 hD trivial, .nil, Nat.zero_le _, rfl, eL⟩, ?_⟩
  rintro i mm H' ⟨w', acc, G', us, rfl, x', R', o', ra, hi', rfl, el⟩
  obtain ⟨jgo, jstop⟩ := jok w' G' x' R'
  have hlen : acc.length = us.length := Paired.length ra
  by_cases hlt : i < ds.length
  · refine .inr ?_
    have ed : ds[i]? = some ds[i] := List.getElem?_eq_getElem hlt
    rw [List.drop_eq_getElem_cons hlt] at el
    simp only [loopD] at el
    cases eb : bindL t [ds[i]] (wipeE ς vs) with
    | none => rw [eb] at el; cases el
    | some ς1 =>
    rw [eb] at el
    have el : bnd (c ς1 G') (fun b G1 => if b = true then bnd (k ς1 G1) fun y G2 => bnd (e ς1 G2) fun x G3 => (keyD y).bind fun key => if acc.length < sizeLine then loopD c k e t (wipeE ς vs) (ds.drop (i + 1)) (dput acc key x) G3 else none
      else loopD c k e t (wipeE ς vs) (ds.drop (i + 1)) acc G1) = some (accF, GF) := el
    obtain ⟨b, G2, ec, el⟩ := bnd_eq el
    obtain ⟨go, yld⟩ := jgo i _ ed
    refine ⟨go, fun H' => ∃ (w' : Wd) (acc : List (Key × D)) (G' : Hs) (us : List (Key × V)), w'.H = H' ∧ Ex2 K w1 w' ∧ Rel K T w' G' ∧ OutO w' Da (.dK us) ∧ RKs K w' acc us ∧ loopD c k e t (wipeE ς vs) (ds.drop (i + 1)) acc G' = some (accF, GF),
      fun H' ⟨w5, acc5, G5, us5, h1, h2, h3, h4, h5, h6⟩ => ⟨ds.length - (i + 1), by omega, w5, acc5, G5, us5, h1, h2, h3, h4, h5, hlt, rfl, h6⟩, fun v H' hy => ?_⟩
    obtain ⟨w2, rfl, x2, R2, rd⟩ := yld v H' hy
    have S2 : RS K w2 (wipeE ς vs) (L2.wipe σ vs) := ((((S.ext x1.toExt).ext x'.toExt).ext x2.toExt)).wipe vs
    refine ⟨w2.ι, w2.F, wipeE ς vs, G', ds[i], ς1, R2, S2, rd, eb, fun σ2 S3 sm => ⟨wipe_same sm hix, ?_⟩⟩
    refine ⟨w2.ι, w2.F, ς1, G', R2, S3, b, G2, ec, fun w3 x3 R3 => ?_⟩
    have x13 : Ex2 K w1 w3 := (x'.trans x2).trans x3
    have o3 : OutO w3 Da (.dK us) := o'.ext (x2.trans x3)
    have ra3 : RKs K w3 acc us := ra.ext (x2.trans x3).toExt
    cases b with
    | false =>
      simp only [Bool.false_eq_true, if_false] at el ⊢
      exact ⟨w3, acc, G2, us, rfl, x13, R3, o3, ra3, el⟩
    | true =>
      simp only [if_true] at el ⊢
      obtain ⟨y, G3, ey, el⟩ := bnd_eq el
      obtain ⟨z, G4, ez, el⟩ := bnd_eq el
      obtain ⟨key, ek, el⟩ := Option.bind_eq_some_iff.mp el
      refine ⟨w3.ι, w3.F, ς1, G2, R3, S3.ext x3.toExt, y, G3, ey, fun w4 yv x4 R4 ry => ?_⟩
      refine ⟨w4.ι, w4.F, ς1, G3, R4, (S3.ext x3.toExt).ext x4.toExt, z, G4, ez, fun w5 zv x5 R5 rz => ?_⟩
      have o5 : OutO w5 Da (.dK us) := o3.ext (x4.trans x5)
      split at el
      · rename_i hsz
        refine ⟨us, key, keyD_kV ek ry, o5.at_, by rw [← hlen]; exact hsz, ?_⟩
        refine ⟨⟨w5.ι, w5.F, upd w5.H Da (.dK (putK us key zv))⟩, dput acc key z, G4, putK us key zv, rfl, ((x13.trans x4).trans x5).outO o5 hD, R5.outO o5, o5.put trivial, ?_, el⟩
        exact ((ra3.ext (x4.trans x5).toExt).put key rz).ext o5.wext
      · cases el
  · have hi2 : i = ds.length := by omega
    subst hi2
    refine .inl ⟨jstop, ?_⟩
    rw [List.drop_length] at el
    have el : some (acc, G') = some (accF, GF) := el
    cases el
    refine ⟨Da, us, rfl, o'.at_, fun od => ?_⟩
    exact hL.to (w' := ⟨w'.ι, w'.F, upd w'.H Da (.frz od (.dK us))⟩) (x'.outO o' hD) (R'.outO o') (rv_dicOf (ra.ext o'.wext) upd_same)
section
variable {X : Cx}
theorem le_dcomp {kx vx tg iter : Expr} {ifs : List Expr} {scope : Scope} {own : List (Str × Nat)} {pos : Pos} {fi e k : Fn} {c : FB} {t : Tg} (hc : X.calm = true) (hN : X.N.Nodup) (hi : PI X tg iter (LI X.K T fi)) (ok : BlkOk X.N X.env.scope scope own)
    (hg : ∀ (s : Shared) (H : Hp) (C : Addr) (cl : List (Str × Addr)) (fp : List Addr), PG (X.blk s H scope (compEnvC scope cl C X.env) fp) tg (GT X.K T t)) (ht : ∀ (s : Shared) (H : Hp) (C : Addr) (cl : List (Str × Addr)) (fp : List Addr), PTs (X.blk s H scope (compEnvC scope cl C X.env) fp) ifs (LT X.K T c))
    (hk : ∀ (s : Shared) (H : Hp) (C : Addr) (cl : List (Str × Addr)) (fp : List Addr), PE (X.blk s H scope (compEnvC scope cl C X.env) fp) kx (LE X.K T k))
    (he : ∀ (s : Shared) (H : Hp) (C : Addr) (cl : List (Str × Addr)) (fp : List Addr), PE (X.blk s H scope (compEnvC scope cl C X.env) fp) vx (LE X.K T e)) (hs : ∀ x, foldedSetIterable iter X.env x = pure x) (hix : ∀ i ∈ t.ix, i ∈ own.map (·.2)) :
    PE X (.DictComp kx vx [⟨tg, iter, ifs, 0⟩] scope pos) (LE X.K T (dcompD t (own.map (·.2)) fi c k e)) :=
  (pe_lk (pe_dc hc hN hi ok hg ht hk he hs)).imp fun σ H Q h => dcomp_in hix h
end
end Mp
set_option Elab.async false
set_option linter.all false
set_option autoImplicit false
set_option maxRecDepth 100000
set_option maxHeartbeats 4000000
/-! Mp: sorted, sorted(d.items()), d.get, count, dict(..) that never changes, [..] * n -/
namespace Mp
open PySem PySem.Spec L2
open PyProof.Rows hiding St

variable {K : PySem.W.Frag} {T : List Addr}

/-! texts in order -/
def leS (a b : List Nat) : Bool := !ltCps b a
def sortStrs (ts : List (List Nat)) : List (List Nat) := ts.mergeSort leS
theorem leS_iff {a b : List Nat} : leS a b = true ↔ a ≤ b := by
  unfold leS
  rw [ltCps_eq]
  simp
theorem leS_trans (a b c : List Nat) (h1 : leS a b = true) (h2 : leS b c = true) : leS a c = true := by
  rw [leS_iff] at *
  exact List.le_trans h1 h2
theorem leS_total (a b : List Nat) : (leS a b || leS b a) = true := by
  rw [Bool.or_eq_true, leS_iff, leS_iff]
  exact List.le_total a b
theorem rising_pw : ∀ (r : List Str) (p : Str), risingS p r = true → (p :: r).Pairwise fun x y => leS x.cps.toList y.cps.toList = true
  | [], p, _ => by simp
  | x :: r, p, h => by
    simp only [risingS, Bool.and_eq_true] at h
    have ih := rising_pw r x h.2
    rw [List.pairwise_cons]
    refine ⟨fun y hy => ?_, ih⟩
    have hpx : leS p.cps.toList x.cps.toList = true := h.1
    rcases List.mem_cons.mp hy with rfl | hy
    · exact hpx
    · exact leS_trans _ _ _ hpx ((List.pairwise_cons.mp ih).1 y hy)
theorem sorted_pw {ys : List Str} (h : sortedS ys = true) : ys.Pairwise fun x y => leS x.cps.toList y.cps.toList = true := by
  cases ys with
  | nil => simp
  | cons x r => exact rising_pw r x h
theorem sorted_is {ys : List Str} {ts : List (List Nat)} (hp : ys.Perm (ts.map mkS)) (h : sortedS ys = true) : ys = (sortStrs ts).map mkS := by
  have h1 := sorted_pw h
  have h2 : ((sortStrs ts).map mkS).Pairwise fun x y => leS x.cps.toList y.cps.toList = true := by
    rw [List.pairwise_map]
    have := List.pairwise_mergeSort (le := leS) leS_trans leS_total ts
    refine this.imp fun h => ?_
    show leS ((⟨_⟩ : Str).cps.toList) ((⟨_⟩ : Str).cps.toList) = true
    simpa using h
  refine List.Perm.eq_of_pairwise (fun a b _ _ h1 h2 => ?_) h1 h2 (hp.trans (((List.mergeSort_perm ts leS).symm).map mkS))
  rw [leS_iff] at h1 h2
  have e := List.le_antisymm h1 h2
  exact Str.ext' (Array.toList_inj.mp e)
def sortInts (ns : List Int) : List Int := ns.mergeSort fun a b => decide (a ≤ b)
theorem sortInts_is {ms ns : List Int} (hp : ms.Perm ns) (h : ms.Pairwise (· ≤ ·)) : ms = sortInts ns := by
  have h2 : (sortInts ns).Pairwise (· ≤ ·) := by
    have := List.pairwise_mergeSort (le := fun a b : Int => decide (a ≤ b)) (fun a b c h1 h2 => by simp at h1 h2 ⊢; omega) (fun a b => by simp; omega) ns
    exact this.imp fun h => by simpa using h
  exact List.Perm.eq_of_pairwise (fun a b _ _ h1 h2 => Int.le_antisymm h1 h2) h h2 (hp.trans (List.mergeSort_perm ns _).symm)
def sortD (m : Bool) (d : D) (G : Hs) : Rs := (roOf G d).bind fun ds => match strsD ds with
  | some ts => if ts.length < 64 then newD m ((sortStrs ts).map .str) G else none
  | none => (intsD ds).bind fun ns => newD m ((sortInts ns).map .int) G
theorem strs_rvs {w : Wd} : ∀ ts : List (List Nat), RVs K w (ts.map D.str) ((ts.map mkS).map V.str)
  | [] => rfl
  | t :: ts => ⟨_, _, rfl, rfl, strs_rvs ts⟩
theorem ints_rvs' {w : Wd} : ∀ ts : List Int, RVs K w (ts.map D.int) (ts.map V.int)
  | [] => rfl
  | t :: ts => ⟨_, _, rfl, rfl, ints_rvs' ts⟩
section
variable {X : Cx}
theorem call_sortD (m : Bool) : CallR X (.builtin "sorted") (rn X.K T (one (sortD m))) := by
  intro pins s σ H xs us Q I rs h0
  obtain ⟨ι, F, G, d, v, rfl, R, r, h⟩ := rn_one h0
  obtain ⟨ds, e, h⟩ := h.ofBind
  obtain ⟨a, vs, rfl, h1, h2⟩ := roOf_at R r e
  cases es : strsD ds with
  | some ts =>
    simp only [es] at h
    obtain ⟨hl, h⟩ := h.ite
    rw [strsD_at h2 es] at h1
    refine cr_sortedS pins s σ H _ us Q I rs ⟨a, _, rfl, h1, by rw [List.length_map]; exact hl, fun ys p hp hs hn => ?_⟩
    rw [sorted_is hp hs]
    exact h.newM R (strs_rvs _) p hn
  | none =>
    simp only [es] at h
    obtain ⟨ns, e2, h⟩ := h.ofBind
    rw [intsD_at h2 e2] at h1
    refine cr_sortedI pins s σ H _ us Q I rs ⟨a, _, rfl, h1, fun ms p hp hs hn => ?_⟩
    rw [sortInts_is hp hs]
    exact h.newM R (ints_rvs' _) p hn
/-! count -/
def countM (o : D) (xs : List D) (G : Hs) : Rs := match o, xs with
  | .str a, [.str b] => some (.int (Txt.count ⟨a.toArray⟩ ⟨b.toArray⟩), G)
  | _, _ => none
theorem mt_countD : MtR X "str.count" (rm X.K T countM) := by
  intro pins s σ H x xs v us Q I rx rs h0
  obtain ⟨ι, F, G, d, ds, R, rd, rds, h⟩ := h0
  unfold countM at h
  split at h
  · obtain ⟨yv, rfl, ry⟩ := rds.one
    exact mt_count pins s σ H _ _ v us Q I rx rs ⟨_, _, rd, by rw [rv_str ry], h.now R rfl⟩
  · exact h.no
/-! d.get(k, x) -/
def getD2 (f g h3 : Fn) : Fn := fun ς G => bnd (f ς G) fun o G1 => bnd (g ς G1) fun k G2 => bnd (h3 ς G2) fun z G3 => match o with
  | .dic ks ds => (keyD k).bind fun key => some ((dlook (ks.zip ds) key).getD z, G3)
  | _ => none
theorem le_get2 {o e f : Expr} {apos cpos : Pos} {fo fe ff : Fn} (hu : X.A.units + 65 < cLine) (ho : PE X o (LE X.K T fo)) (he : PE X e (LE X.K T fe)) (hf : PE X f (LE X.K T ff)) (m : M2 X o "get" apos e f cpos) :
    PE X (.Call (.Attribute o "get" apos) [e, f] [] cpos) (LE X.K T (getD2 fo fe ff)) := by
  have hu1 : X.A.units + 1 < cLine := Nat.lt_of_le_of_lt (by omega) hu
  refine (pe_dget2 hu1 ho he hf m).imp fun σ H Q ⟨ι, F, ς, G, R, S, d, G', e, q⟩ => ?_
  unfold getD2 at e
  obtain ⟨od, G1, e1, e⟩ := bnd_eq e
  obtain ⟨kd, G2, e2, e⟩ := bnd_eq e
  obtain ⟨zd, G3, e3, e⟩ := bnd_eq e
  match od, e1, e with
  | .dic ks ds, e1, e =>
   obtain ⟨key, ek, e⟩ := Option.bind_eq_some_iff.mp e
   cases e
   refine ⟨ι, F, ς, G, R, S, _, G1, e1, fun w1 v1 x1 R1 r1 => ?_⟩
   obtain ⟨a, o, us, rfl, ha, hr⟩ := dic_at r1
   refine ⟨a, rfl, .inl ⟨us, .inr ⟨o, ha⟩⟩, ?_⟩
   refine ⟨w1.ι, w1.F, ς, G1, R1, S.ext x1.toExt, kd, G2, e2, fun w2 v2 x2 R2 r2 => ?_⟩
   refine ⟨w2.ι, w2.F, ς, G2, R2, S.ext (x1.trans x2).toExt, zd, _, e3, fun w3 v3 x3 R3 r3 => ?_⟩
   have ha3 := (x2.trans x3).toExt.dic a o _ ha
   have hr3 := hr.ext (x2.trans x3).toExt
   refine ⟨valV us key, by rw [keyD_kV ek r2]; exact .inl ⟨us, key, .inr ⟨o, ha3⟩, rfl, rfl⟩, ?_⟩
   refine q w3 _ ((x1.trans x2).trans x3) R3 ?_
   obtain ⟨l1, l2⟩ := dlook_at hr3 key
   cases el : dlook (ks.zip ds) key with
   | none => rw [l2 el]; exact r3
   | some d => obtain ⟨v, e4, r4⟩ := l1 d el; rw [e4]; exact r4
  | .int _, _, e | .str _, _, e | .non, _, e | .bl _, _, e | .tup _, _, e | .ref _, _, e | .lst _, _, e | .fz _, _, e | .row _, _, e => cases e
/-! dict(pairs) -/
def dictFD (d : D) (G : Hs) : Rs := (roOf G d).bind fun ds => (pairsD ds).bind fun ps => some (dicOf (dmerge [] ps), G)
def dictFD' (d : D) (G : Hs) : Rs := match d with
  | .tup ds => (pairsD ds).bind fun ps => some (dicOf (dmerge [] ps), G)
  | d => dictFD d G
end
end Mp
set_option Elab.async false
set_option linter.all false
set_option autoImplicit false
set_option maxRecDepth 100000
set_option maxHeartbeats 4000000
/-! Mp: sorted(d.items()) of a dict that never changes, ints to ints -/
namespace Mp
open PySem PySem.Spec L2 L2.DX
open PyProof.Rows hiding St

variable {K : PySem.W.Frag} {T : List Addr}

abbrev entI (e : Int × Int) : Key × V := (.inl e.1, .int e.2)
def kOf (h : Heap) (v : Value) : Int × Int := match v with
  | .ref a => match h.get? a with
    | some o => match o.data with
      | .seq its _ => match its.toList with
        | [.int x _, .int y _] => (x, y)
        | _ => (0, 0)
      | _ => (0, 0)
    | none => (0, 0)
  | _ => (0, 0)
theorem kOf_at {h : Heap} {a : Addr} {x y : Int} {t u : Tok} (e : h.get? a = some { cls := .type "tuple", data := .seq #[.int x t, .int y u] }) : kOf h (.ref a) = (x, y) := by
  simp only [kOf, e]
theorem pairs_at {P : Program} {w : World} {es : List DictEntry} {vs : List (Key × Value)} (h : PySem.Pairs (mixKind P w) es vs) : ∀ {j : Nat} {e : DictEntry}, es[j]? = some e → ∃ p, vs[j]? = some p ∧ keyIs p.1 e.key = true ∧ e.val = p.2 := by
  induction h with
  | nil => intro j e h; simp at h
  | cons h1 h2 _ ih =>
    intro j e h
    cases j with
    | zero => simp only [List.getElem?_cons_zero] at h; cases h; exact ⟨_, rfl, h1, h2⟩
    | succ j => simp only [List.getElem?_cons_succ] at h ⊢; exact ih h
section
variable {X : Cx}
def rItemsF : V → List V → Hp → VK → Prop := fun x xs H Q => ∃ (a : Addr) (o : Obj) (kvs : List (Key × V)), x = .ref a ∧ xs = [] ∧ H a = some (.frz o (.dK kvs)) ∧ ∀ p, H p = none → Q (.ref p) (upd H p (itemsO p a))
theorem mt_itemsF : MtR X "dict.items" rItemsF := by
  intro pins s σ H x xs v us Q I rx rxs h
  obtain ⟨a, o, kvs, rfl, rfl, ha, q⟩ := h
  cases rx
  cases rxs
  obtain ⟨hs, hgd, hx, es, ep, vs, hdt, hsz, kv, hm⟩ := I.frzK ha
  refine DT.callItems (es := es) (ep := ep) hs ⟨o, hgd, hx, hdt⟩ ?_
  have hf : H s.heap.objs.size = none := I.hok.fresh (Nat.le_refl _)
  exact ⟨.ref s.heap.objs.size, upd H s.heap.objs.size (itemsO s.heap.objs.size a), I.laid (t' := s.toks) (fun b u e => Heap.get?_push_of_some _ e) (Nat.le_refl _) (itemsO_ok (Heap.get?_push_size _ rfl)), rfl, q _ hf⟩
def rSortF : List V → Hp → VK → Prop := fun vs H Q => ∃ (p a : Addr) (o : Obj) (ps : List (Int × Int)), vs = [.ref p] ∧ H p = some (itemsO p a) ∧ H a = some (.frz o (.dK (ps.map entI))) ∧
  ∀ (H' : Hp) (l : Addr) (zs : List (Addr × Int × Int)), (∀ b o, H b = some o → H' b = some o) → (zs.map (·.2)).Perm ps → (zs.map (·.2)).Pairwise (fun e f => SrtO.lexB f e = false) → H l = none → H' l = some (.lst (zs.map fun z => V.ref z.1)) →
    (∀ z ∈ zs, H z.1 = none ∧ H' z.1 = some (.tup [.int z.2.1, .int z.2.2])) → Q (.ref l) H'
theorem cr_sortedF (hc : X.calm = true) : CallR X (.builtin "sorted") rSortF := by
  intro pins s σ H xs us Q I r h
  obtain ⟨p, a, o, ps, rfl, hp, ha, q⟩ := h
  obtain rfl := Vals.ref1 r
  have view : s.heap.IsItemsView p a := (show ObjOk X.prog X.w H s.heap p (itemsO p a) from I.hok p _ hp).1
  obtain ⟨hsm, hgd, hx, es, ep, vs, hdt, hsz, kv, hm⟩ := I.frzK ha
  obtain ⟨z0, hd0, hs0, -⟩ := (show ObjOk X.prog X.w H s.heap a (.frz o (.dK (ps.map entI))) from I.hok a _ ha)
  have hh : X.A.handled = none := I.ok.hd hc
  obtain ⟨o', es', ho', hx', hdt', hko, hpr, hnd⟩ := hm
  rw [hgd] at ho'
  cases ho'
  rw [hdt] at hdt'
  injection hdt' with e1 e2
  subst e1
  rw [List.length_map] at hsz
  have hz : ps.length ≤ sizeLine := by have z := hd0; simpa using z
  refine DT.sortedI (es := es) (ep := ep) hh view ⟨o, hgd, hx, hdt⟩ (by rw [hsz]; exact hz) fun h' tk as hk hlt hl hG => ?_
  have lak : as.length = ps.length := by omega
  have nd : as.Nodup := List.Pairwise.imp (fun h => Nat.ne_of_lt h) hG.rise
  -- the pairs that were made
  have pr : ∀ (j : Nat) (b : Addr), as[j]? = some b → ∃ (e : Int × Int) (t u : Tok), ps[j]? = some e ∧ h'.get? b = some { cls := .type "tuple", data := .seq #[.int e.1 t, .int e.2 u] } := by
    intro j b hj
    obtain ⟨en, he, hg⟩ := hG.pairs j b hj
    rw [← Array.getElem?_toList] at he
    obtain ⟨pv, epv, hkey, hval⟩ := pairs_at hpr he
    obtain ⟨e0, he0, r1, r2⟩ := pget kv epv
    rw [List.getElem?_map] at he0
    cases hkj : ps[j]? with
    | none => rw [hkj] at he0; cases he0
    | some e =>
      rw [hkj] at he0
      cases he0
      have rk := relV_key hkey
      rw [← r1] at rk
      obtain ⟨t, ek⟩ := rk
      rw [← hval] at r2
      obtain ⟨u, eu⟩ := r2
      exact ⟨e, t, u, rfl, by rw [hg, ek, eu]⟩
  -- the heap of the sort
  have hob : (h'.push { cls := .type "list", data := .seq (as.map Value.ref).toArray }).get? h'.objs.size = some (seqObj "list" (as.map Value.ref).toArray 0) := Heap.get?_push_size _ rfl
  have kb : ∀ b o, s.heap.get? b = some o → (h'.push { cls := .type "list", data := .seq (as.map Value.ref).toArray }).get? b = some o := fun b o e => Heap.get?_push_of_some _ (hk b o e)
  have ne0 : ∀ b o, h'.get? b = some o → b ≠ h'.objs.size := fun b o e => Nat.ne_of_lt (Heap.lt_size e)
  generalize hh2 : h'.push { cls := .type "list", data := .seq (as.map Value.ref).toArray } = h2 at hob kb ⊢
  have ka : ∀ b o, h'.get? b = some o → h2.get? b = some o := fun b o e => by rw [← hh2]; exact Heap.get?_push_of_some _ e
  have at_ : ∀ v ∈ as.map Value.ref, ∃ (j : Nat) (b : Addr) (e : Int × Int) (t u : Tok), v = .ref b ∧ as[j]? = some b ∧ ps[j]? = some e ∧ h'.get? b = some { cls := .type "tuple", data := .seq #[.int e.1 t, .int e.2 u] } := by
    intro v hv'
    obtain ⟨b, hb, rfl⟩ := List.mem_map.mp hv'
    obtain ⟨j, hj⟩ := List.mem_iff_getElem?.mp hb
    obtain ⟨e, t, u, he, hg⟩ := pr j b hj
    exact ⟨j, b, e, t, u, rfl, hj, he, hg⟩
  refine wpAny_call_entry PyProof.Rows.slot_list_sort ⟨_, hob, rfl⟩ PyProof.Rows.entry_list_sort
    (SrtO.list_sort_ord (s := { s with heap := h2, toks := tk }) (SrtO.swo_lex (kOf h')) hob (by rw [List.length_map, lak]; exact hz) (fun h2' => SrtO.pairs_sortableO (by omega) (fun v hv => ?_) fun o e => ?_) fun out o1 o2 => ⟨.none, rfl, ?_⟩) (PyProof.Rows.args_list_sort _)
  · obtain ⟨j, b, e, t, u, rfl, hj, he, hg⟩ := at_ v hv
    rw [kOf_at hg]
    exact ⟨b, _, t, u, 0, rfl, ka _ _ hg, rfl, rfl⟩
  · have e' : some o = some (seqObj "list" (as.map Value.ref).toArray 0) := e.symm.trans hob
    cases e'
    intro c
    exact absurd (Value.type.inj c) (by decide)
  · show EP X pins σ Q (.ref h'.objs.size) { s with heap := sortedHeap h2 h'.objs.size (as.map Value.ref) out.toArray, toks := tk }
    obtain ⟨zs, pz, ez⟩ := perm_lift (fun z : Addr × Int × Int => (Value.ref z.1)) o2.perm (as.zip ps) (by
      have := congrArg (List.map Value.ref) (List.map_fst_zip (l₁ := as) (l₂ := ps) (by omega))
      rw [List.map_map] at this
      exact this)
    have idx : ∀ z ∈ zs, ∃ j : Nat, as[j]? = some z.1 ∧ ps[j]? = some z.2 := by
      intro z' hz'
      obtain ⟨j, hj⟩ := List.mem_iff_getElem?.mp (pz.mem_iff.mp hz')
      exact ⟨j, List.getElem?_zip_eq_some.mp hj⟩
    have hout : out = zs.map fun z => Value.ref z.1 := ez.symm
    have hperm : (zs.map (·.2)).Perm ps := by
      have e := pz.map (·.2)
      have m2 : (as.zip ps).map (·.2) = ps := List.map_snd_zip (by rw [lak]; exact Nat.le_refl _)
      rw [m2] at e
      exact e
    have kz : ∀ z ∈ zs, kOf h' (.ref z.1) = z.2 := fun z hz' => by
      obtain ⟨j, j1, j2⟩ := idx z hz'
      obtain ⟨e, t, u, he, hg⟩ := pr j _ j1
      rw [kOf_at hg]
      exact (Option.some.inj (he.symm.trans j2))
    have hsort : (zs.map (·.2)).Pairwise (fun e f => SrtO.lexB f e = false) := by
      have o1' : (zs.map fun z => Value.ref z.1).Pairwise fun v u => SrtO.lexB (kOf h' u) (kOf h' v) = false := by rw [← hout]; exact o1
      rw [List.pairwise_map] at o1' ⊢
      refine List.Pairwise.imp_of_mem (fun {x y} hx hy h => ?_) o1'
      rw [kz x hx, kz y hy] at h
      exact h
    -- behind the sort
    have kF : ∀ b o, b ≠ h'.objs.size → h2.get? b = some o → (sortedHeap h2 h'.objs.size (as.map Value.ref) out.toArray).get? b = some o := fun b o hb e => (PyProof.Rows.sortedHeap_old hb (Heap.lt_size e)).trans e
    have kS : ∀ b o, s.heap.get? b = some o → (sortedHeap h2 h'.objs.size (as.map Value.ref) out.toArray).get? b = some o := fun b o e => kF b o (ne0 _ _ (hk b o e)) (kb b o e)
    obtain ⟨eF, heF⟩ := PyProof.Rows.sortedHeap_at (vs := as.map Value.ref) (out := out.toArray) hob
    have I1 : Inv X pins σ H { s with heap := sortedHeap h2 h'.objs.size (as.map Value.ref) out.toArray, toks := tk } := I.kept (t' := tk) kS
    have hn0 : H h'.objs.size = none := I.hok.fresh (Nat.le_of_lt hlt)
    have hlen : (zs.map fun z => V.ref z.1).length ≤ sizeLine := by
      have e := hperm.length_eq
      rw [List.length_map] at e
      rw [List.length_map, e]
      exact hz
    have rv : Vals (zs.map fun z => V.ref z.1) out := by
      rw [hout]
      exact vals_maps (fun z : Addr × Int × Int => V.ref z.1) (fun z => Value.ref z.1) zs fun _ _ => rfl
    have I2 : Inv X pins σ (upd H h'.objs.size (.lst (zs.map fun z => V.ref z.1))) { s with heap := sortedHeap h2 h'.objs.size (as.map Value.ref) out.toArray, toks := tk } :=
      I1.take (h' := sortedHeap h2 h'.objs.size (as.map Value.ref) out.toArray) (t' := tk) (fun b ob _ e => e) (I.fpOk (Nat.le_of_lt hlt) hn0) ⟨hlen, out, eF, rv, heF⟩
    have low : ∀ b ∈ as, s.heap.objs.size ≤ b ∧ H b = none := fun b hb => by
      have z := hG.above b hb
      exact ⟨Nat.le_of_lt z, I.hok.fresh (Nat.le_of_lt z)⟩
    obtain ⟨H2, I3, g, qt⟩ := takeT (P := fun b vs => ∃ (j : Nat) (e : Int × Int), as[j]? = some b ∧ ps[j]? = some e ∧ vs = [.int e.1, .int e.2]) I as _ I2 nd fun b hb => by
      obtain ⟨j, hj⟩ := List.mem_iff_getElem?.mp hb
      obtain ⟨e, t, u, he, hg⟩ := pr j b hj
      have nb := ne0 _ _ hg
      refine ⟨(low b hb).1, by rw [upd_ne nb]; exact (low b hb).2, _, ⟨j, e, hj, he, rfl⟩, fun H2 => ?_⟩
      exact ⟨by show 2 ≤ sizeLine; decide, [.int e.1 t, .int e.2 u], .cons ⟨_, rfl⟩ (.cons ⟨_, rfl⟩ .nil), _, kF _ _ nb (ka _ _ hg), rfl, 0, rfl⟩
    refine ⟨.ref h'.objs.size, H2, I3, rfl, q H2 h'.objs.size zs (fun b o e => g b o (by rw [upd_ne (ne_of_none e hn0)]; exact e)) hperm hsort hn0 (g _ _ upd_same) fun z hz' => ?_⟩
    obtain ⟨j, j1, j2⟩ := idx z hz'
    have hm : z.1 ∈ as := List.mem_of_getElem? j1
    obtain ⟨vs2, ⟨i, e, i1, i2, rfl⟩, e3⟩ := qt z.1 hm
    have ij : i = j := (List.getElem?_inj (List.getElem?_eq_some_iff.mp i1).1 nd).mp (i1.trans j1.symm)
    subst ij
    rw [i2] at j2
    cases j2
    exact ⟨(low _ hm).2, e3⟩
end
end Mp
set_option Elab.async false
set_option linter.all false
set_option autoImplicit false
set_option maxRecDepth 100000
set_option maxHeartbeats 4000000
/-! Mp: sorted(d.items()), dict(a tuple of pairs), both of dicts that never change -/
namespace Mp
open PySem PySem.Spec L2 L2.DX
open PyProof.Rows hiding St

variable {K : PySem.W.Frag} {T : List Addr}

/-! what only grows -/
theorem Ex2.grow {w : Wd} {H' : Hp} (k : ∀ b o, w.H b = some o → H' b = some o) : Ex2 K w ⟨w.ι, w.F, H'⟩ := by
  refine ⟨⟨fun _ _ e => e, fun a xs q => ?_, fun a xs q => ⟨q.1, k _ _ q.2⟩, fun a xs q => ?_, fun a o us q => k _ _ q⟩, fun _ h => .inl h, fun _ h => h, fun _ h => .inl h, fun a o e _ _ => k _ _ e, fun a ha => ?_⟩
  · rcases q with (q | ⟨o', q⟩) | q
    · exact .inl (.inl (k _ _ q))
    · exact .inl (.inr ⟨o', k _ _ q⟩)
    · exact .inr q
  · rcases q with ⟨o', q⟩ | q
    · exact .inl ⟨o', k _ _ q⟩
    · exact .inr q
  · cases e : w.H a with
    | none => exact absurd e ha
    | some u => show H' a ≠ none; rw [k _ _ e]; simp
theorem Rel.grow {w : Wd} {G : Hs} {H' : Hp} (R : Rel K T w G) (k : ∀ b o, w.H b = some o → H' b = some o) : Rel K T ⟨w.ι, w.F, H'⟩ G := by
  have x : Ext K w ⟨w.ι, w.F, H'⟩ := (Ex2.grow k).toExt
  have kk : ∀ a, w.H a ≠ none → H' a = w.H a := fun a ha => by
    cases e : w.H a with
    | none => exact absurd e ha
    | some u => exact k _ _ e
  refine ⟨R.len, R.nd, fun n c a e1 e2 => ?_, fun a ha => ?_, fun a ha => ?_, fun P hP => ?_⟩
  · exact (R.cell n c a e1 e2).mono x (kk a (R.alv a (List.mem_of_getElem? e2))) fun z => z
  · show H' a ≠ none
    rw [kk a (R.live a ha)]; exact R.live a ha
  · show H' a ≠ none
    rw [kk a (R.alv a ha)]; exact R.alv a ha
  · obtain ⟨ps, q1, q2⟩ := R.tab P hP
    exact ⟨ps, k _ _ q1, q2⟩
/-! the pairs of a dict, ints to ints -/
def lexle (a b : Int × Int) : Bool := !SrtO.lexB b a
def sortPairs (ps : List (Int × Int)) : List (Int × Int) := ps.mergeSort lexle
def pairI (e : Int × Int) : D := .tup [.int e.1, .int e.2]
def zipInts : List Key → List D → Option (List (Int × Int))
  | [], [] => some []
  | .inl k :: ks, .int v :: ds => (zipInts ks ds).map ((k, v) :: ·)
  | _, _ => none
def sitemsD (m : Bool) (d : D) (G : Hs) : Rs := match d with
  | .dic ks ds => (zipInts ks ds).bind fun ps => newD m ((sortPairs ps).map pairI) G
  | _ => none
theorem zipInts_at {w : Wd} : ∀ {ks : List Key} {ds : List D} {vs : List V} {ps : List (Int × Int)}, zipInts ks ds = some ps → RVs K w ds vs → ks.zip vs = ps.map entI
  | [], [], _, _, h, r => by cases h; cases r; rfl
  | .inl k :: ks, .int v :: ds, _, _, h, r => by
    obtain ⟨x, vs, rfl, h1, h2⟩ := r
    simp only [zipInts, Option.map_eq_some_iff] at h
    obtain ⟨ps, e, rfl⟩ := h
    cases h1
    show (Sum.inl k, V.int v) :: ks.zip vs = entI (k, v) :: ps.map entI
    rw [zipInts_at e h2]
  | [], _ :: _, _, _, h, _ => by cases h
  | .inl _ :: _, [], _, _, h, _ => by cases h
  | .inr _ :: _, [], _, _, h, _ => by cases h
  | .inr _ :: _, _ :: _, _, _, h, _ => by cases h
  | .inl _ :: _, .non :: _, _, _, h, _ | .inl _ :: _, .bl _ :: _, _, _, h, _ | .inl _ :: _, .str _ :: _, _, _, h, _ | .inl _ :: _, .tup _ :: _, _, _, h, _ | .inl _ :: _, .lst _ :: _, _, _, h, _
  | .inl _ :: _, .fz _ :: _, _, _, h, _ | .inl _ :: _, .row _ :: _, _, _, h, _ | .inl _ :: _, .dic _ _ :: _, _, _, h, _ | .inl _ :: _, .ref _ :: _, _, _, h, _ => by cases h
theorem lexle_trans (a b c : Int × Int) (h1 : lexle a b = true) (h2 : lexle b c = true) : lexle a c = true := by
  unfold lexle at *
  simp only [Bool.not_eq_true', SrtO.lexB_no] at *
  omega
theorem lexle_total (a b : Int × Int) : (lexle a b || lexle b a) = true := by
  unfold lexle
  cases h1 : SrtO.lexB b a with
  | false => rfl
  | true =>
    cases h2 : SrtO.lexB a b with
    | false => rfl
    | true =>
      rw [SrtO.lexB_iff] at h1 h2
      omega
theorem lexle_anti {a b : Int × Int} (h1 : SrtO.lexB b a = false) (h2 : SrtO.lexB a b = false) : a = b := by
  rw [SrtO.lexB_no] at h1 h2
  refine Prod.ext ?_ ?_ <;> omega
theorem sortPairs_is {qs ps : List (Int × Int)} (hp : qs.Perm ps) (h : qs.Pairwise fun e f => SrtO.lexB f e = false) : qs = sortPairs ps := by
  have h2 : (sortPairs ps).Pairwise fun e f => SrtO.lexB f e = false := by
    have := List.pairwise_mergeSort (le := lexle) lexle_trans lexle_total ps
    refine this.imp fun h => ?_
    unfold lexle at h
    simpa using h
  exact List.Perm.eq_of_pairwise (fun a b _ _ h1 h2 => lexle_anti h1 h2) h h2 (hp.trans (List.mergeSort_perm ps _).symm)
section
variable {X : Cx}
/-! d.items() of a dict that never changes -/
def tItemsF (to : TE) : TE := fun σ H Q => to σ H fun x H1 => (∃ (a : Addr) (o : Obj) (us : List (Key × V)), x = .ref a ∧ H1 a = some (.frz o (.dK us))) ∧ rItemsF x [] H1 Q
theorem pe_itemsF {o : Expr} {to : TE} {apos cpos : Pos} (ho : PE X o to) (hbase : attributeBase o "items" X.env (eval o X.env) = eval o X.env := by rfl) (hline : (apos.endLine == cpos.line) = true := by rfl) :
    PE X (.Call (.Attribute o "items" apos) [] [] cpos) (tItemsF to) := by
  refine ⟨fun pins s σ H Q I h => ?_⟩
  refine wpAny_Call_method0_late hbase hline (thn (ho.run pins s σ H _ I h) fun v s1 ⟨x, H1, I1, r1, ty, q1⟩ => ?_)
  obtain ⟨a, o, us, rfl, ha⟩ := ty
  cases r1
  obtain ⟨hs, hgd, hx, es, ep, vs, hdt, hsz, kv, hm⟩ := I1.frzK ha
  exact ⟨"dict", "dict.items", PySem.F.plainAttrs_dict, PySem.F.slot_dict_items, PySem.F.type_dict_items, ⟨o, hgd, hx.1⟩, fun b e => by cases e; exact ⟨o, hgd, hx.2.1⟩, Calls.callWith_builtin rfl (PySem.evalArgs_none (mt_itemsF pins s1 σ H1 (.ref a) [] (.ref a) [] Q I1 rfl .nil q1))⟩
/-- sorted(d.items()) -/
theorem le_sitems (m : Bool) (hc : X.calm = true) {o : Expr} {f : Fn} {p apos cpos pos : Pos} (hg : Gl X "sorted") (hm : X.mg "sorted" = none) (ho : PE X o (LE X.K T f)) (hb : plainBase o = true) (hline : (apos.endLine == cpos.line) = true) :
    PE X (.Call (.Name "sorted" p) [.Call (.Attribute o "items" apos) [] [] cpos] [] pos) (LE X.K T fun ς G => bnd (f ς G) (sitemsD m)) := by
  refine (pe_callB (cr_sortedF hc) hg hm (by decide +kernel) (pa_cons (pe_itemsF ho (base_ok hb) hline) pa_nil rfl) (by decide) (by decide) rfl (by rfl)).imp fun σ H Q ⟨ι, F, ς, G, R, S, h⟩ => ?_
  obtain ⟨d, G1, e1, h⟩ := h.bnd
  refine ⟨ι, F, ς, G, R, S, d, G1, e1, fun w1 v x1 R1 r1 => ?_⟩
  have h' := h w1 v x1 R1 r1
  unfold sitemsD at h'
  split at h'
  · rename_i ks ds
    obtain ⟨ps, ez, h'⟩ := h'.ofBind
    obtain ⟨a, o, vs, rfl, ha, hl, rs⟩ := r1
    rw [zipInts_at ez rs] at ha
    refine ⟨⟨a, o, _, rfl, ha⟩, a, o, _, rfl, rfl, ha, fun q hq => ?_⟩
    have hne : a ≠ q := ne_of_none ha hq
    refine ⟨q, a, o, ps, rfl, upd_same, by rw [upd_ne hne]; exact ha, fun H' l zs k hperm hsort hn hlst hz => ?_⟩
    -- the world ahead of the list
    have k0 : ∀ b u, w1.H b = some u → upd w1.H q (itemsO q a) b = some u := fun b u e => by rw [upd_ne (ne_of_none e hq)]; exact e
    have km : ∀ b u, w1.H b = some u → (fun b => if b = l then none else H' b) b = some u := fun b u e => by
      have e2 := k b u (k0 b u e)
      have nb : b ≠ l := ne_of_none (k0 b u e) hn
      simp only [if_neg nb]; exact e2
    have eH : upd (fun b => if b = l then none else H' b) l (.lst (zs.map fun z => V.ref z.1)) = H' := by
      funext b
      by_cases hb : b = l
      · rw [hb, upd_same, hlst]
      · rw [upd_ne hb]; simp only [if_neg hb]
    rw [← eH]
    have hs := sortPairs_is hperm hsort
    have x2 : Ex2 X.K w1 ⟨w1.ι, w1.F, fun b => if b = l then none else H' b⟩ := Ex2.grow km
    have R2 : Rel X.K T ⟨w1.ι, w1.F, fun b => if b = l then none else H' b⟩ G1 := R1.grow km
    refine Lift.newM (w := ⟨w1.ι, w1.F, fun b => if b = l then none else H' b⟩) (m := m) R2 (h'.from x2) ?_ l (by simp)
    rw [← hs, List.map_map]
    have hz' : ∀ z ∈ zs, (fun b => if b = l then none else H' b) z.1 = some (.tup [.int z.2.1, .int z.2.2]) := fun z hz0 => by
      obtain ⟨h1, h2⟩ := hz z hz0
      have nb : z.1 ≠ l := fun e => by rw [e, hlst] at h2; cases h2
      simp only [if_neg nb]; exact h2
    clear hs hperm hsort hlst eH hz
    induction zs with
    | nil => rfl
    | cons z zs ih =>
      refine ⟨V.ref z.1, zs.map fun z => V.ref z.1, rfl, ?_, ih fun y hy => hz' y (List.mem_cons_of_mem _ hy)⟩
      exact ⟨z.1, [.int z.2.1, .int z.2.2], rfl, .inl (.inl (hz' z List.mem_cons_self)), _, _, rfl, rfl, _, _, rfl, rfl, rfl⟩
  · exact h'.no
/-! dict(a tuple of pairs) -/
def rDictPT (K : PySem.W.Frag) : List V → Hp → VK → Prop := fun xs H Q => ∃ (a : Addr) (o : Obj) (ps : List Addr) (kvs : List (Key × V)), xs = [.ref a] ∧ H a = some (.frz o (.tup (ps.map V.ref))) ∧ o.dict = none ∧ Paired (fun p kv => SqT K H p [kV kv.1, kv.2]) ps kvs ∧
    ∀ p, H p = none → Q (.ref p) (upd H p (.dK (mergeK [] kvs)))
theorem call_dictPT (hcalm : X.calm = true) : CallR X (.type "dict") (rDictPT X.K) := by
  intro pins s σ H xs us Q I r q
  obtain ⟨a, o, ps, kvs, ex, hq, hdn, hp, q⟩ := q
  subst ex
  obtain ⟨u, eu, rx⟩ := vals1 r
  subst eu
  cases rx
  obtain ⟨ho0, hz, its, rv, o', ho, hc, n, hdat⟩ := (show ObjOk X.prog X.w H s.heap a (.frz o (.tup (ps.map V.ref))) from I.hok a _ hq)
  rw [ho0] at ho
  cases ho
  have ei := refs_at rv
  subst ei
  rw [List.length_map] at hz
  obtain ⟨prs, rel, hl, hpr⟩ := pairs_of I hp
  -- the pairs, as values
  let Ts : Nat → Addr := fun j => ps.getD j 0
  let us : List (Value × Value) := (List.range ps.length).map fun j => ((DT.seqAt0 s.heap (Ts j)).getD .none, ((prs[j]?).map (·.2)).getD .none)
  have hus : ∀ j, j < ps.length → ∃ (q : Key × Value) (u : Value), prs[j]? = some q ∧ us[j]? = some (u, q.2) ∧ (ps.map Value.ref).toArray[j]? = some (.ref (Ts j)) ∧ IsTup s.heap (Ts j) #[u, q.2] ∧ keyIs q.1 u = true := by
    intro j hj
    have e1 : prs[j]? = some (prs[j]'(by omega)) := List.getElem?_eq_getElem (by omega)
    obtain ⟨b, u, e2, e3, e4⟩ := hpr j _ e1
    have e5 : Ts j = b := by show ps.getD j 0 = b; rw [List.getD_eq_getElem?_getD, e2]; rfl
    refine ⟨_, u, e1, ?_, by rw [e5]; simp [e2], by rw [e5]; exact e3, e4⟩
    show ((List.range ps.length).map _)[j]? = _
    rw [List.getElem?_map, List.getElem?_range hj, Option.map_some, e5, DT.seqAt0_of e3, e1]
    rfl
  have hlen : us.length = ps.length := by show ((List.range ps.length).map _).length = _; simp
  have lt_of : ∀ j x, us[j]? = some x → j < ps.length := fun j x e => by rw [← hlen]; exact (List.getElem?_eq_some_iff.mp e).1
  refine PySem.call_dict_pairs (knd := mixKind X.prog X.w) (kvs := prs) (PairArg.tuple a (ps.map Value.ref).toArray Ts us) (I.ok.hd hcalm)
    ⟨⟨o, n, ho0, hc, hdn, hdat⟩, by simp [hlen], fun j k v e => ?_⟩ ⟨by rw [hlen]; exact hl, fun j k v e => ?_⟩ (by rw [hlen]; exact hz) fun h' tk hd' k => ?_
  · obtain ⟨q', u, e1, e2, e3, e4, e5⟩ := hus j (lt_of j _ e)
    rw [e] at e2
    cases e2
    exact ⟨e3, .inl e4⟩
  · obtain ⟨q', u, e1, e2, e3, e4, e5⟩ := hus j (lt_of j _ e)
    rw [show us[j]? = some (k, v) from e] at e2
    cases e2
    exact ⟨q'.1, e1, e5⟩
  · have hm : (s.heap.objs.size == sysModules) = false := beq_eq_false_iff_ne.mpr (Nat.ne_of_gt I.big)
    have hlen : (mergeK [] kvs).length ≤ sizeLine := by
      refine Nat.le_trans (length_mergeK kvs []) ?_
      rw [List.length_nil, Nat.zero_add, rel.length, hl]
      exact hz
    exact ⟨.ref s.heap.objs.size, upd H s.heap.objs.size (.dK (mergeK [] kvs)), I.laid (t' := tk) (fun b o e => k b o (by simp) e) (Nat.le_refl _) (show ObjOk X.prog X.w _ _ _ (.dK (mergeK [] kvs)) from ⟨hlen, hm, merged [] prs, KV.merge rel .nil, hd'⟩), rfl, q _ (I.hok.fresh (Nat.le_refl _))⟩
def dictRowD (d : D) (G : Hs) : Rs := match d with
  | .row ds => (pairsD ds).bind fun ps => some (dicOf (dmerge [] ps), G)
  | _ => none
theorem le_dictRow {x : Expr} {f : Fn} {p pos : Pos} (hc : X.calm = true) (hg : Gl X "dict") (hm : X.mg "dict" = none) (hx : PE X x (LE X.K T f)) (hs : isStar x = false) :
    PE X (.Call (.Name "dict" p) [x] [] pos) (LE X.K T fun ς G => bnd (f ς G) dictRowD) := by
  refine (pe_lk (pe_callTy (call_dictPT hc) hg hm (by decide +kernel) (pa_cons hx pa_nil (star_1 hs)) (by decide) (by decide) (star_1 hs) (by rfl))).imp fun σ H Q ⟨ι, F, ς, G, R, S, h⟩ => ?_
  obtain ⟨d, G1, e1, h⟩ := h.bnd
  refine ⟨ι, F, ς, G, R, S, d, G1, e1, fun w1 v x1 R1 r1 => ?_⟩
  have h' := h w1 v x1 R1 r1
  unfold dictRowD at h'
  split at h'
  · rename_i ds
    obtain ⟨ps, ep, h'⟩ := h'.ofBind
    obtain ⟨a, o, vs, rfl, ha, hd, rs⟩ := r1
    obtain ⟨as, us, rfl, h3, h4⟩ := pairsD_at rs ep
    refine ⟨a, o, as, us, rfl, ha, hd, h3, fun q hq => ⟨q, _, rfl, upd_same, fun od => ?_⟩⟩
    have o1 : OutO ⟨w1.ι, w1.F, upd w1.H q (.dK (mergeK [] us))⟩ q (.dK (mergeK [] us)) := OutO.start R1 hq trivial
    have x2 : Ex2 X.K w1 ⟨w1.ι, w1.F, upd w1.H q (.dK (mergeK [] us))⟩ := Ex2.newTup hq
    have R2 : Rel X.K T ⟨w1.ι, w1.F, upd w1.H q (.dK (mergeK [] us))⟩ G1 := R1.newTup hq
    have rm : RKs X.K w1 (dmerge [] ps) (mergeK [] us) := h4.merge (kvs := []) (us := []) .nil
    exact h'.to (w' := ⟨w1.ι, w1.F, upd (upd w1.H q (.dK (mergeK [] us))) q (.frz od (.dK (mergeK [] us)))⟩) (x2.outO o1 hq) (R2.outO o1) (rv_dicOf ((rm.ext x2.toExt).ext o1.wext) upd_same)
  · exact h'.no
/-! tuple(sorted(d.items())): a row -/
def rSortRow : List V → Hp → VK → Prop := fun vs H Q => ∃ (a : Addr) (ys : List V), vs = [.ref a] ∧ H a = some (.lst ys) ∧ ∀ l o, H l = none → o.dict = none → Q (.ref l) (upd H l (.frz o (.tup ys)))
theorem call_row : CallR X (.type "tuple") rSortRow := by
  intro pins s σ H xs us Q I r h
  obtain ⟨p, ys, rfl, hq, q⟩ := h
  obtain ⟨u, rfl, rx⟩ := vals1 r
  cases rx
  obtain ⟨its, r', pl, hz⟩ := I.list (.inl (.inl hq))
  have hlen := r'.length
  refine PySem.call_tuple_list pl.isList (fun h' kp => ?_) (by simp only [List.size_toArray] <;> omega)
  have I1 : Inv X pins σ H { s with heap := h' } := I.kept (t' := s.toks) kp
  have I2 : Inv X pins σ (upd H h'.objs.size (.frz { cls := .type "tuple", data := .seq its.toArray } (.tup ys))) { s with heap := h'.push { cls := .type "tuple", data := .seq its.toArray } } :=
    I1.laid (t' := s.toks) (fun b o e => Heap.get?_push_of_some _ e) (Nat.le_refl _) (show ObjOk X.prog X.w _ _ _ (.frz _ (.tup ys)) from ⟨Heap.get?_push_size _ rfl, hz, its, r', IsTup.new _ _⟩)
  exact ⟨.ref h'.objs.size, _, I2, rfl, q _ _ (I1.hok.fresh (Nat.le_refl _)) rfl⟩
def rowD (d : D) (G : Hs) : Rs := match d with
  | .dic ks ds => (zipInts ks ds).bind fun ps => some (.row ((sortPairs ps).map pairI), G)
  | _ => none
theorem pairs_rvs {w : Wd} : ∀ {zs : List (Addr × Int × Int)}, (∀ z ∈ zs, w.H z.1 = some (.tup [.int z.2.1, .int z.2.2])) → RVs K w (zs.map fun z => pairI z.2) (zs.map fun z => V.ref z.1)
  | [], _ => rfl
  | z :: zs, h => ⟨V.ref z.1, _, rfl, ⟨z.1, [.int z.2.1, .int z.2.2], rfl, .inl (.inl (h z List.mem_cons_self)), _, _, rfl, rfl, _, _, rfl, rfl, rfl⟩, pairs_rvs fun y hy => h y (List.mem_cons_of_mem _ hy)⟩
theorem le_row (hc : X.calm = true) {o : Expr} {f : Fn} {p p2 apos cpos pos2 pos : Pos} (hg : Gl X "tuple") (hm : X.mg "tuple" = none) (hg2 : Gl X "sorted") (hm2 : X.mg "sorted" = none) (ho : PE X o (LE X.K T f)) (hb : plainBase o = true) (hline : (apos.endLine == cpos.line) = true) :
    PE X (.Call (.Name "tuple" p) [.Call (.Name "sorted" p2) [.Call (.Attribute o "items" apos) [] [] cpos] [] pos2] [] pos) (LE X.K T fun ς G => bnd (f ς G) rowD) := by
  refine (pe_callTy call_row hg hm (by decide +kernel) (pa_cons (pe_callB (cr_sortedF hc) hg2 hm2 (by decide +kernel) (pa_cons (pe_itemsF ho (base_ok hb) hline) pa_nil rfl) (by decide) (by decide) rfl (by rfl)) pa_nil rfl) (by decide) (by decide) rfl (by rfl)).imp fun σ H Q ⟨ι, F, ς, G, R, S, h⟩ => ?_
  obtain ⟨d, G1, e1, h⟩ := h.bnd
  refine ⟨ι, F, ς, G, R, S, d, G1, e1, fun w1 v x1 R1 r1 => ?_⟩
  have h' := h w1 v x1 R1 r1
  unfold rowD at h'
  split at h'
  · rename_i ks ds
    obtain ⟨ps, ez, h'⟩ := h'.ofBind
    obtain ⟨a, o, vs, rfl, ha, hl, rs⟩ := r1
    rw [zipInts_at ez rs] at ha
    refine ⟨⟨a, o, _, rfl, ha⟩, a, o, _, rfl, rfl, ha, fun q hq => ?_⟩
    have hne : a ≠ q := ne_of_none ha hq
    refine ⟨q, a, o, ps, rfl, upd_same, by rw [upd_ne hne]; exact ha, fun H' l zs k hperm hsort hn hlst hz => ?_⟩
    have k0 : ∀ b u, w1.H b = some u → upd w1.H q (itemsO q a) b = some u := fun b u e => by rw [upd_ne (ne_of_none e hq)]; exact e
    have hs := sortPairs_is hperm hsort
    refine ⟨l, _, rfl, hlst, fun l2 ob hn2 hob => ?_⟩
    have x2 : Ex2 X.K w1 ⟨w1.ι, w1.F, H'⟩ := Ex2.grow fun b u e => k b u (k0 b u e)
    have R2 : Rel X.K T ⟨w1.ι, w1.F, H'⟩ G1 := R1.grow fun b u e => k b u (k0 b u e)
    have x3 : Ex2 X.K ⟨w1.ι, w1.F, H'⟩ ⟨w1.ι, w1.F, upd H' l2 (.frz ob (.tup (zs.map fun z => V.ref z.1)))⟩ := Ex2.newTup hn2
    refine h'.to (w' := ⟨w1.ι, w1.F, upd H' l2 (.frz ob (.tup (zs.map fun z => V.ref z.1)))⟩) (x2.trans x3) (Rel.newTup (w := ⟨w1.ι, w1.F, H'⟩) R2 hn2) ?_
    refine ⟨l2, ob, _, rfl, upd_same, hob, RVs.ext x3.toExt _ _ ?_⟩
    rw [← hs, List.map_map]
    exact pairs_rvs fun z hz0 => (hz z hz0).2
  · exact h'.no
end
end Mp
set_option Elab.async false
set_option linter.all false
set_option autoImplicit false
set_option maxRecDepth 100000
set_option maxHeartbeats 1000000
/-! Mp, part 11: what a statement asks of its shape -/
namespace Mp
open PySem PySem.Spec L2
open PyProof.Rows hiding St

def isComp : Expr → Bool
  | .ListComp .. => true
  | .SetComp .. => true
  | .DictComp .. => true
  | _ => false
theorem swaps_no {x : Expr} {t : Option Expr} {line : Nat} {env : Env} (h : isComp x = false) : swapsWith x t line env = pure false := by
  cases x <;> first | rfl | (cases h)
def swapC (names : List (Str × NameKind)) (scope : Scope) (y : Str) (line vline : Nat) : Bool := names.lookup y == some .local && line == vline && !(scope.names.any fun (n, k) => n == y && (k == .local || k == .cell))
theorem swaps_lc {elt : Expr} {gs : List Comprehension} {scope : Scope} {pos py : Pos} {y : Str} {line : Nat} {env : Env} {names : List (Str × NameKind)} (hk : env.scope.kind = .function) (hn : env.scope.names = names) :
    swapsWith (.ListComp elt gs scope pos) (some (.Name y py)) line env = pure (swapC names scope y py.line pos.line) := by
  have hb : env.blockKind = .function := by unfold Env.blockKind; rw [hk]; rfl
  unfold swapsWith
  simp only [hb, Env.kindOf, hn, swapC]
  rfl
theorem folded_no {it : Expr} {env : Env} (h : (match it with | .Set .. => true | _ => false) = false) (x : Value) : foldedSetIterable it env x = pure x := by
  cases it <;> first | rfl | (cases h)
theorem genf_no {it : Expr} {env : Env} (h : (match it with | .Set .. => true | .List .. => true | _ => false) = false) (x : Value) : genFold it env x = pure x := by
  cases it <;> first | rfl | (cases h)
theorem swapped_no {tg x : Expr} {env : Env} (h : (match x with | .Tuple .. => true | _ => false) = false) : swappedStores [tg] x env = pure none := by
  cases tg <;> cases x <;> first | rfl | (cases h)
theorem nodup2 {y z : Str} (h : y ≠ z) : [y, z].eraseDups = [y, z] := by simp [List.eraseDups_cons, h, Ne.symm h]
theorem nodup3 {y z u : Str} (h : y ≠ z) (h2 : y ≠ u) (h3 : z ≠ u) : [y, z, u].eraseDups = [y, z, u] := by simp [List.eraseDups_cons, h, Ne.symm h, h2, Ne.symm h2, h3, Ne.symm h3]
theorem swapped_2 {y z : Str} {py pz pt pt2 : Pos} {kt k2 : Nat} {a b : Expr} {env : Env} (hk : env.scope.kind = .function) (hy : env.scope.names.lookup y = some .local) (hz : env.scope.names.lookup z = some .local)
    (hl : py.line = pz.line) (hyz : y ≠ z) (ha : isStar a = false) (hb : isStar b = false) (h1 : [a, b].all (foldedForSure 8) = false) (h2 : [a, b].all (constantsAlone 8) = false) :
    swappedStores [.Tuple [.Name y py, .Name z pz] kt pt] (.Tuple [a, b] k2 pt2) env = pure (some [y, z]) := by
  have hbk : env.blockKind = .function := by unfold Env.blockKind; rw [hk]; rfl
  have e1 : (env.kindOf y == some NameKind.local) = true := by unfold Env.kindOf; rw [hy]; rfl
  have e2 : (env.kindOf z == some NameKind.local) = true := by unfold Env.kindOf; rw [hz]; rfl
  have l1 : (py.line == py.line) = true := by simp
  have l2 : (pz.line == py.line) = true := by simp [hl]
  unfold swappedStores
  simp only [hbk, h1, h2]
  rw [if_neg (by simp), if_neg (fun h => by
    simp only [List.any_cons, List.any_nil, Bool.or_false, Bool.or_eq_true] at h
    rcases h with h | h
    · cases a <;> first | (cases ha; done) | (cases h)
    · cases b <;> first | (cases hb; done) | (cases h))]
  simp only [List.head?_cons, Option.map_some, Option.getD_some, List.filterMap_cons, List.filterMap_nil, Expr.pos, e1, e2, l1, l2, Bool.and_self, if_true, nodup2 hyz]
  rfl
theorem swapped_3 {y z u : Str} {py pz pu pt pt2 : Pos} {kt k2 : Nat} {a b c : Expr} {env : Env} (hk : env.scope.kind = .function) (hy : env.scope.names.lookup y = some .local) (hz : env.scope.names.lookup z = some .local) (hu : env.scope.names.lookup u = some .local)
    (hl : py.line = pz.line) (hl2 : py.line = pu.line) (hyz : y ≠ z) (hyu : y ≠ u) (hzu : z ≠ u) (ha : isStar a = false) (hb : isStar b = false) (hc : isStar c = false) (h1 : [a, b, c].all (foldedForSure 8) = false) (h2 : [a, b, c].all (constantsAlone 8) = false) :
    swappedStores [.Tuple [.Name y py, .Name z pz, .Name u pu] kt pt] (.Tuple [a, b, c] k2 pt2) env = pure (some [y, z, u]) := by
  have hbk : env.blockKind = .function := by unfold Env.blockKind; rw [hk]; rfl
  have e1 : (env.kindOf y == some NameKind.local) = true := by unfold Env.kindOf; rw [hy]; rfl
  have e2 : (env.kindOf z == some NameKind.local) = true := by unfold Env.kindOf; rw [hz]; rfl
  have e3 : (env.kindOf u == some NameKind.local) = true := by unfold Env.kindOf; rw [hu]; rfl
  have l1 : (py.line == py.line) = true := by simp
  have l2 : (pz.line == py.line) = true := by simp [hl]
  have l3 : (pu.line == py.line) = true := by simp [hl2]
  unfold swappedStores
  simp only [hbk, h1, h2]
  rw [if_neg (by simp), if_neg (fun h => by
    simp only [List.any_cons, List.any_nil, Bool.or_false, Bool.or_eq_true] at h
    rcases h with h | h | h
    · cases a <;> first | (cases ha; done) | (cases h)
    · cases b <;> first | (cases hb; done) | (cases h)
    · cases c <;> first | (cases hc; done) | (cases h))]
  simp only [List.head?_cons, Option.map_some, Option.getD_some, List.filterMap_cons, List.filterMap_nil, Expr.pos, e1, e2, e3, l1, l2, l3, Bool.and_self, if_true, nodup3 hyz hyu hzu]
  rfl
/-- a tuple display, its stores from the left: constants all, or a target that is no plain local -/
def localT (names : List (Str × NameKind)) : Expr → Bool
  | .Name id _ => names.lookup id == some .local
  | _ => false
theorem swapped_left {ts vs : List Expr} {pt pt2 : Pos} {kt k2 : Nat} {env : Env} {names : List (Str × NameKind)} (hn : env.scope.names = names) (h : ts.any (fun t => !localT names t) = true) :
    swappedStores [.Tuple ts kt pt] (.Tuple vs k2 pt2) env = pure none := by
  unfold swappedStores
  have key : ∀ (F : Expr → Option Str) (hF : ∀ e, localT names e = false → F e = none) (l : List Expr), (l.filterMap F).length ≤ l.length ∧ (l.any (fun t => !localT names t) = true → (l.filterMap F).length < l.length) := by
    intro F hF l
    induction l with
    | nil => exact ⟨Nat.le_refl _, fun h => by simp at h⟩
    | cons e r ih =>
      rw [List.filterMap_cons]
      cases he : F e with
      | none => exact ⟨by simp only [List.length_cons]; omega, fun _ => by simp only [List.length_cons]; omega⟩
      | some s =>
        refine ⟨by simp only [List.length_cons]; omega, fun h => ?_⟩
        simp only [List.any_cons, Bool.or_eq_true] at h
        rcases h with h | h
        · rw [hF e (by simpa using h)] at he; cases he
        · have := ih.2 h
          simp only [List.length_cons]; omega
  simp only
  split
  · rfl
  split
  · rfl
  split
  · rfl
  · rename_i _ _ h3
    exfalso
    apply h3
    rw [Bool.or_eq_true]
    left
    rw [bne_iff_ne]
    refine Nat.ne_of_lt ((key _ (fun e he => ?_) ts).2 h)
    cases e <;> first | rfl | skip
    have he : ((names.lookup _ == some NameKind.local)) = false := he
    simp only [Env.kindOf, hn, he, Bool.false_and, Bool.false_eq_true, if_false]
theorem swapped_const {ts vs : List Expr} {pt pt2 : Pos} {kt k2 : Nat} {env : Env} (h : vs.all (foldedForSure 8) = true) : swappedStores [.Tuple ts kt pt] (.Tuple vs k2 pt2) env = pure none := by
  unfold swappedStores
  simp only [h, if_true]
  split
  · rfl
  split
  · rfl
  split
  · rfl
  · rfl
end Mp
set_option Elab.async false
set_option linter.all false
set_option autoImplicit false
set_option maxRecDepth 100000
set_option maxHeartbeats 1000000
/-! Mp: xs[i], y = e; x = {..} -/
namespace Mp
open PySem PySem.Spec L2
open PyProof.Rows hiding St
theorem swaps_dc {kx elt : Expr} {gs : List Comprehension} {scope : Scope} {pos py : Pos} {y : Str} {line : Nat} {env : Env} {names : List (Str × NameKind)} (hk : env.scope.kind = .function) (hn : env.scope.names = names) :
    swapsWith (.DictComp kx elt gs scope pos) (some (.Name y py)) line env = pure (swapC names scope y py.line pos.line) := by
  have hb : env.blockKind = .function := by unfold Env.blockKind; rw [hk]; rfl
  unfold swapsWith
  simp only [hb, Env.kindOf, hn, swapC]
  rfl

variable {T : List Addr}
section
variable {X : Cx} {pos : Pos}
def setIx2S (o i : Fn) (j : Nat) (e : Fn) : FS := fun ς G => bnd (e ς G) fun d G1 => match d with
  | .tup [a, b] => bnd (o ς G1) fun x G2 => bnd (i ς G2) fun y G3 => (setK x y a G3).bind fun G4 => some (.nx (ς.set j (some b)) G4)
  | _ => none
theorem ls_setIx2 {o i x : Expr} {h1 h2 e : Fn} {p' pz pt : Pos} {kt : Nat} {j : Nat} {z : Str} (hc : X.calm = true) (hu : X.A.units + 65 < cLine) (hN : X.N.Nodup) (hj : X.N[j]? = some z) (hz : Loc X.env.scope z) (hf : X.fn z = true ∨ X.env.scope.names.lookup z = some .local)
    (ho : PE X o (LE X.K T h1)) (hi : PE X i (LE X.K T h2)) (he : PE X x (LE X.K T e)) (hsl : ∀ v, assign (.Subscript o i p') X.env v = (do
      let ov ← holding [v] (eval o X.env)
      let iv ← holding [v, ov] (eval i X.env)
      standAt p'
      holding [v, ov, iv] (setItem ov iv v)
      release [v, ov, iv] [])) (hs : swapsWithSole [.Tuple [.Subscript o i p', .Name z pz] kt pt] x pos.line X.env = pure false) (hw : swappedStores [.Tuple [.Subscript o i p', .Name z pz] kt pt] x X.env = pure none) :
    PS X (.Assign [.Tuple [.Subscript o i p', .Name z pz] kt pt] x pos) (LS X.K T (setIx2S h1 h2 j e)) :=
  (ps_asg he (pg_tup hc (pgs_cons (pg_sub ho hi (set_D (T := T) hu) hsl) (pgs_cons (pg_name hN hj hz hf) pgs_nil))) hs hw (by rfl)).imp fun D σ H ⟨ι, F, ς, G, R, S, h⟩ => by
  obtain ⟨d, G1, e1, h⟩ := h.bnd
  refine ⟨ι, F, ς, G, R, S, d, G1, e1, fun w1 v x1 R1 r1 => ?_⟩
  have h' := h w1 x1
  split at h'
  · rename_i da db
    obtain ⟨p, vs, rfl, hq, rs⟩ := r1
    obtain ⟨va, vb, rfl, ra, rb⟩ := RVs.two rs
    refine ⟨p, [va, vb], rfl, hq, rfl, va, [vb], rfl, ?_⟩
    obtain ⟨dx, G2, e2, h'⟩ := h'.bnd
    refine ⟨w1.ι, w1.F, ς, G1, R1, S.ext x1.toExt, dx, G2, e2, fun w2 xv x2 R2 r2 => ?_⟩
    obtain ⟨dy, G3, e3, h'⟩ := (h' w2 x2).bnd
    refine ⟨w2.ι, w2.F, ς, G2, R2, (S.ext x1.toExt).ext x2.toExt, dy, G3, e3, fun w3 yv x3 R3 r3 => ?_⟩
    have h2 := h' w3 x3
    cases es : setK dx dy da G3 with
    | none => rw [es] at h2; exact h2.no
    | some G4 =>
      rw [es] at h2
      refine ⟨w3.ι, w3.F, G3, dx, dy, da, G4, R3, RV.ext x3.toExt _ _ r2, r3, RV.ext (x2.toExt.trans x3.toExt) _ _ ra, es, fun w4 x4 R4 => ?_⟩
      refine ⟨vb, [], rfl, rfl, ?_⟩
      exact h2.nx x4 R4 (((((S.ext x1.toExt).ext x2.toExt).ext x3.toExt).ext x4.toExt).set (RV.ext ((x2.toExt.trans x3.toExt).trans x4.toExt) _ _ rb) j)
  · exact h'.no
end
end Mp
set_option Elab.async false
set_option linter.all false
set_option autoImplicit false
set_option maxRecDepth 100000
set_option maxHeartbeats 1000000
/-! Mp, part 12: mini expressions and what they mean -/
namespace Mp
open PySem PySem.Spec L2 GxR
open PyProof.Rows hiding St

inductive Blt where
  | len | abs | min2 | max2 | minL | maxL | int | sum | list (m : Bool) | tuple | dict | sorted (m : Bool)
  deriving DecidableEq
def Blt.k : Blt → List D → Hs → Rs
  | .len => one lenD | .abs => one absD | .min2 => two min2D | .max2 => two max2D | .minL => one Mp.minL | .maxL => one Mp.maxL | .int => one intD | .sum => one sumD
  | .list m => one (listD m) | .tuple => one tupD | .dict => one dictD | .sorted m => one (sortD m)
def Blt.nm : Blt → Str
  | .len => "len" | .abs => "abs" | .min2 => "min" | .max2 => "max" | .minL => "min" | .maxL => "max" | .int => "int" | .sum => "sum"
  | .list _ => "list" | .tuple => "tuple" | .dict => "dict" | .sorted _ => "sorted"
inductive Mth where
  | append | extend | pop | index | join | count
  deriving DecidableEq
def Mth.ty : Mth → MTy
  | .join => .str
  | .count => .str
  | _ => .list
def Mth.nm : Mth → Str
  | .append => "append" | .extend => "extend" | .pop => "pop" | .index => "index" | .join => "join" | .count => "count"
def Mth.k : Mth → D → List D → Hs → Rs
  | .append => appendM | .extend => extendM | .pop => popM | .index => indexM | .join => joinM | .count => countM

inductive E where
  | bad | k (d : D) | v (i : Nat) | frz (i : Nat)
  | bin (o : Bop) (a b : E) | catM (a b : E) | neg (a : E)
  | cmp (o : Cop) (a b : E) | chain (o o' : Cop) (a b c : E)
  | and (a b : E) | or (a b : E) | not (a : E) | ite (c a b : E)
  | nil | cons (a b : E) | tup (a : E) | lst (m : Bool) (a : E)
  | idx (a b : E) | sl (m : Bool) (a lo hi : E) | rev (m : Bool) (a : E)
  | isi (t : Ty) (a : E) | blt (f : Blt) (a : E)
  | mth (f : Mth) (o a : E) | mth0 (f : Mth) (o : E)
  | call (f n : Nat) (a : E) | call0 (f : Nat)
  | lrg (m : Bool) (n : Nat) (a : E) | lrev (m : Bool) (a : E)
  | comp (m : Bool) (t : Tg) (own : List Nat) (it c e : E)
  | gen (sb : Bool) (t : Tg) (own : List Nat) (it e : E)
  | iseq (a : E) | irng (n : Nat) (a : E) | izip (a : E) | ienum (a : E)
  | yes
  | dic0 | dic1 (a b : E) | dcomp (t : Tg) (own : List Nat) (it c k e : E) | dget (o a b : E) | row (a : E) | drow (a : E) | repM (a b : E)
def frzK (d : D) (G : Hs) : Rs := match d with
  | .ref n => match G[n]? with
    | some (.lst ds) => some (.lst ds, G.set n .gone)
    | _ => none
  | _ => none
def frzD (i : Nat) : Fn := fun ς G => (ς[i]?).bind fun o => o.bind fun d => frzK d G
def isNil : E → Bool
  | .nil => true
  | _ => false
def dfl (f : Fn) : FB := fun ς G => bnd (f ς G) truD
def wi (f : Fn) : Fn × FB := (f, dfl f)
section
variable (cl : Nat → List D → Hs → Rs)
/-- an expression's value, its test -/
def ev : E → Fn × FB
  | .bad => wi fun _ _ => none
  | .k d => wi fun _ G => some (d, G)
  | .v i => wi fun ς G => (ς[i]?).bind fun o => o.bind fun d => some (d, G)
  | .frz i => wi (frzD i)
  | .bin o a b => let f := (ev a).1; let g := (ev b).1; wi fun ς G => bnd (f ς G) fun x G1 => bnd (g ς G1) fun y G2 => binD o x y G2
  | .catM a b => let f := (ev a).1; let g := (ev b).1; wi fun ς G => bnd (f ς G) fun x G1 => bnd (g ς G1) fun y G2 => Mp.catM x y G2
  | .neg a => let f := (ev a).1; wi fun ς G => bnd (f ς G) negD
  | .cmp o a b => let f := (ev a).1; let g := (ev b).1; (fun ς G => bnd (f ς G) fun x G1 => bnd (g ς G1) fun y G2 => cmpD o x y G2, fun ς G => blB (bnd (f ς G) fun x G1 => bnd (g ς G1) fun y G2 => cmpD o x y G2))
  | .chain o o' a b c => let f := (ev a).1; let g := (ev b).1; let h := (ev c).1; (chainD f g h o o', fun ς G => blB (chainD f g h o o' ς G))
  | .and a b => let A := ev a; let B := ev b; (andD A.1 B.1, fun ς G => bnd (A.2 ς G) fun b G1 => if b then B.2 ς G1 else some (false, G1))
  | .or a b => let A := ev a; let B := ev b; (orD A.1 B.1, fun ς G => bnd (A.2 ς G) fun b G1 => if b then some (true, G1) else B.2 ς G1)
  | .not a => let A := ev a; (notD A.1, fun ς G => bnd (A.2 ς G) fun b G1 => some (!b, G1))
  | .ite c a b => let p := (ev c).2; let f := (ev a).1; let g := (ev b).1; (fun ς G => bnd (p ς G) fun t G1 => if t then f ς G1 else g ς G1, fun _ _ => none)
  | .nil => wi fun _ G => some (.tup [], G)
  | .cons a b => wi (consD (ev a).1 (ev b).1)
  | .tup a => wi (argD (ev a).1 tupK)
  | .lst m a => wi (argD (ev a).1 (lstK m))
  | .idx a b => let f := (ev a).1; let g := (ev b).1; wi fun ς G => bnd (f ς G) fun x G1 => bnd (g ς G1) fun y G2 => idxD x y G2
  | .sl m a lo hi => wi (slF m (ev a).1 (if isNil lo then none else some (ev lo).1) (if isNil hi then none else some (ev hi).1))
  | .rev m a => let f := (ev a).1; wi fun ς G => bnd (f ς G) (revD m)
  | .isi t a => let f := (ev a).1; wi fun ς G => bnd (f ς G) (isiD t)
  | .blt b a => wi (argD (ev a).1 b.k)
  | .mth b o a => wi (mthD b.ty (ev o).1 (ev a).1 b.k)
  | .mth0 b o => let f := (ev o).1; wi fun ς G => bnd (f ς G) fun o G1 => if hasTy b.ty o G1 = true then b.k o [] G1 else none
  | .call f n a => wi (argD (ev a).1 fun ds G => if ds.length = n then cl f ds G else none)
  | .call0 f => wi fun _ G => cl f [] G
  | .lrg m n a => wi (argD (ev a).1 fun ds G => if ds.length = n then lrgK m ds G else none)
  | .lrev m a => let f := (ev a).1; wi fun ς G => bnd (f ς G) (lrevK m)
  | .comp m t own it c e => wi (compD m t own (ev it).1 (ev c).2 (ev e).1)
  | .gen sb t own it e => wi (genD sb t own (ev it).1 (ev e).1)
  | .iseq a => let f := (ev a).1; wi fun ς G => bnd (f ς G) seqK
  | .irng n a => wi (argD (ev a).1 (arity n rngK))
  | .izip a => wi (argD (ev a).1 zipK)
  | .ienum a => wi (argD (ev a).1 enumK)
  | .yes => (fun _ _ => none, fun _ G => some (true, G))
  | .dic0 => wi fun _ G => some (dicOf [], G)
  | .dic1 a b => wi (dic1 (ev a).1 (ev b).1)
  | .dcomp t own it c k e => wi (dcompD t own (ev it).1 (ev c).2 (ev k).1 (ev e).1)
  | .dget o a b => wi (getD2 (ev o).1 (ev a).1 (ev b).1)
  | .row a => let f := (ev a).1; wi fun ς G => bnd (f ς G) rowD
  | .drow a => let f := (ev a).1; wi fun ς G => bnd (f ς G) dictRowD
  | .repM a b => let f := (ev a).1; let g := (ev b).1; wi fun ς G => bnd (f ς G) fun x G1 => bnd (g ς G1) fun y G2 => Mp.repM x y G2
end

/-! ### contexts -/
structure CC where
  N : List Str
  names : List (Str × NameKind)
  cells : List Str
  consts : List (Str × D)
  funs : List (Str × Nat × Nat)
  muts : List Nat
  retM : Bool
  tab : Bool
def usedB : List Str := ["isinstance", "len", "abs", "min", "max", "int", "sum", "list", "tuple", "dict", "range", "reversed", "all", "any", "zip", "enumerate", "bool", "str", "sorted"]
structure XOk (X : Cx) (T : List Addr) (cl : Nat → List D → Hs → Rs) (k r : Nat) (cc : CC) : Prop where
  N : X.N = cc.N
  nd : X.N.Nodup
  names : X.env.scope.names = cc.names
  kind : X.env.scope.kind = .function
  calm : X.calm = true
  room : Room r X.A
  le : k ≤ r
  cells : ∀ x ∈ cc.cells, X.fn x = true
  blt : ∀ x ∈ usedB, X.mg x = none
  consts : ∀ p ∈ cc.consts, ∃ u v, X.mg p.1 = some u ∧ RelV v u ∧ CV p.2 v
  funs : ∀ p ∈ cc.funs, Own X T k p.1 p.2.2 (cl p.2.1)
  tab : cc.tab = true → k + 2 ≤ r ∧ ∃ c P, TabB X.base X.mg c P ∧ X.env.code = .ref c ∧ P ∈ T

variable {X : Cx} {T : List Addr} {cl : Nat → List D → Hs → Rs} {k r : Nat} {cc : CC}
theorem XOk.hu (ok : XOk X T cl k r cc) : X.A.units + 65 < cLine := by have := ok.room.un; omega
theorem XOk.look (ok : XOk X T cl k r cc) (x : Str) : X.env.scope.names.lookup x = cc.names.lookup x := by rw [ok.names]
theorem XOk.gl (ok : XOk X T cl k r cc) {x : Str} (h : cc.names.lookup x = some .globalImplicit) : Gl X x := by
  show X.env.scope.names.lookup x = _
  rw [ok.look]; exact h

/-- what is promised of an expression -/
structure Good (X : Cx) (T : List Addr) (cl : Nat → List D → Hs → Rs) (x : Expr) (e : E) : Prop where
  pe : PE X x (LE X.K T (ev cl e).1)
  pt : PT X x (LT X.K T (ev cl e).2)
theorem pe_no {x : Expr} {f : Fn} (h : ∀ ς G, f ς G = none) : PE X x (LE X.K T f) := ⟨fun pins s σ H Q I ⟨ι, F, ς, G, R, S, q⟩ => by rw [h] at q; exact q.no⟩
theorem pt_no {x : Expr} {f : FB} (h : ∀ ς G, f ς G = none) : PT X x (LT X.K T f) := ⟨fun pins s σ H Q I ⟨ι, F, ς, G, R, S, b, G', e, q⟩ => by rw [h] at e; cases e⟩
theorem pa_no {x : List Expr} {f : Fn} (h : ∀ ς G, f ς G = none) : PA X x (LA X.K T f) := ⟨fun pos pins s σ H Q I ⟨ι, F, ς, G, R, S, b, G', e, q⟩ => by rw [h] at e; cases e⟩
theorem pi_no {tg x : Expr} {f : Fn} (h : ∀ ς G, f ς G = none) : PI X tg x (LI X.K T f) := ⟨fun pins s σ H Q I ⟨ι, F, ς, G, R, S, b, G', e, q⟩ => by rw [h] at e; cases e⟩
theorem good_bad {x : Expr} : Good X T cl x .bad := ⟨pe_no fun _ _ => rfl, pt_no fun _ _ => rfl⟩
/-- no test of its own -/
def plainT : Expr → Bool
  | .UnaryOp .Not _ _ => false
  | .BoolOp .. => false
  | .IfExp .. => false
  | .Compare .. => false
  | _ => true
theorem plain_ok {x : Expr} {env : Env} (h : plainT x = true) (whole : Sem Value) : isTrue x env whole = (do let v ← whole; standAt x.pos; holding [v] (truthy v)) := by
  cases x <;> first | rfl | (cases h; done) | skip
  rename_i op _ _
  cases op <;> first | rfl | (cases h)
theorem good_wi {x : Expr} {e : E} {f : Fn} (h : PE X x (LE X.K T f)) (hp : plainT x = true) (he : ev cl e = wi f) : Good X T cl x e := by
  refine ⟨by rw [he]; exact h, by rw [he]; exact lt_val h (plain_ok hp)⟩
theorem le_frz {i : Nat} {x : Str} {pos : Pos} (hN : X.N[i]? = some x) (hv : Vis X.env.scope x) (hd : (x == ("__debug__" : Str)) = false) (hcd : (x == ("__classdict__" : Str)) = false) : PE X (.Name x pos) (LE X.K T (frzD i)) := by
  refine (pe_var hN hv hd hcd).imp fun σ H Q ⟨ι, F, ς, G, R, S, h⟩ => ?_
  obtain ⟨o, e1, h⟩ := h.ofBind
  obtain ⟨d, e2, h⟩ := h.ofBind
  subst e2
  obtain ⟨v, e3, r⟩ := S.at_ i d e1
  refine ⟨v, e3, ?_⟩
  have h' : Lift X.K T ⟨ι, F, H⟩ (frzK d G) Q := h
  unfold frzK at h'
  clear h
  split at h'
  · split at h'
    · rename_i ds eg
      obtain ⟨a, vs, rfl, ea, nf, h1, h2⟩ := cell_at R r eg
      exact h'.to (Ex2.freeze (List.mem_of_getElem? ea)) (R.freeze ea) ⟨a, vs, rfl, ⟨.inr rfl, h1⟩, h2.ext Ext.freeze⟩
    · exact h'.no
  · exact h'.no
end Mp
set_option Elab.async false
set_option linter.all false
set_option autoImplicit false
set_option maxRecDepth 100000
set_option maxHeartbeats 1000000
/-! Mp, part 13: texts read as mini expressions -/
namespace Mp
open PySem PySem.Spec L2 GxR
open PyProof.Rows hiding St

def ixOf (N : List Str) (x : Str) : Option Nat := N.findIdx? fun z => decide (z = x)
theorem ixOf_get {N : List Str} {x : Str} {i : Nat} (h : ixOf N x = some i) : N[i]? = some x := by
  obtain ⟨hi, hp, _⟩ := List.findIdx?_eq_some_iff_getElem.mp h
  rw [List.getElem?_eq_getElem hi]
  exact congrArg some (of_decide_eq_true hp)
def okNm (x : Str) : Bool := !(x == ("__debug__" : Str)) && !(x == ("__classdict__" : Str)) && !decide (x = "__name__")
theorem okNm_at {x : Str} (h : okNm x = true) : (x == ("__debug__" : Str)) = false ∧ (x == ("__classdict__" : Str)) = false ∧ x ≠ "__name__" := by
  unfold okNm at h
  simp only [Bool.and_eq_true, Bool.not_eq_true', decide_eq_false_iff_not] at h
  exact ⟨h.1.1, h.1.2, h.2⟩
def visK : Option NameKind → Bool
  | some .local => true
  | some .cell => true
  | some .free => true
  | _ => false
theorem visK_at {sc : Scope} {x : Str} (h : visK (sc.names.lookup x) = true) : Vis sc x := by
  unfold Vis
  revert h
  cases sc.names.lookup x with
  | none => intro h; cases h
  | some k => cases k <;> intro h <;> first | (cases h; done) | simp
def cName (cc : CC) (y : Str) : E :=
  if okNm y then
    if visK (cc.names.lookup y) then (match ixOf cc.N y with | some i => .v i | none => .bad)
    else if cc.names.lookup y = some .globalImplicit then (match cc.consts.lookup y with | some d => .k d | none => .bad)
    else .bad
  else .bad
def cConst : Const → E
  | .int i => .k (.int i)
  | .bool b => .k (.bl b)
  | .none => .k .non
  | .str s => .k (.str s.cps.toList)
  | _ => .bad
def bopOf : Operator → Option Bop
  | .Add => some .add | .Sub => some .sub | .Mult => some .mul | .FloorDiv => some .fdiv | .Mod => some .mod | .Pow => some .pow
  | _ => none
theorem bopOf_py {op : Operator} {o : Bop} (h : bopOf op = some o) : o.py = op := by
  cases op <;> simp only [bopOf] at h <;> first | (cases h; rfl) | (cases h)
def copOf : CmpOp → Option Cop
  | .Eq => some .eq | .NotEq => some .ne | .Lt => some .lt | .LtE => some .le | .Gt => some .gt | .GtE => some .ge | .In => some .in_ | .NotIn => some .nin | .Is => some .is_ | .IsNot => some .isn
theorem copOf_py {op : CmpOp} {o : Cop} (h : copOf op = some o) : o.py = op := by
  cases op <;> simp only [copOf] at h <;> first | (cases h; rfl) | (cases h)
def plainIxB : Expr → Bool
  | .Slice .. => false
  | _ => true
theorem plainIx_ok {b : Expr} (h : plainIxB b = true) : PlainIx b := by
  intro o i
  cases b <;> first | rfl | (cases h)
def noStar (es : List Expr) : Bool := es.all fun e => !isStar e

abbrev Rec := CC → Bool → Expr → E
def cArgs (f : Expr → E) : List Expr → E
  | [] => .nil
  | a :: as => if isStar a then .bad else .cons (f a) (cArgs f as)
def cAnd (f : Expr → E) : List Expr → E
  | [] => .bad
  | [a] => f a
  | a :: as => .and (f a) (cAnd f as)
def cOr (f : Expr → E) : List Expr → E
  | [] => .bad
  | [a] => f a
  | a :: as => .or (f a) (cOr f as)
def cOpt (f : Expr → E) : Option Expr → Option E
  | none => some .nil
  | some e => if isNil (f e) then none else some (f e)
/-! targets -/
def cTgs (f : Expr → Option Tg) : List Expr → Option Tg
  | [] => some .nil
  | e :: es => if isStar e then none else (f e).bind fun a => (cTgs f es).map fun b => .cons a b
def cTg (cc : CC) : Nat → Expr → Option Tg
  | 0, _ => none
  | n + 1, x => match x with
    | .Name y _ => if cc.names.lookup y = some .local ∨ (cc.names.lookup y = some .cell ∧ y ∈ cc.cells) then (ixOf cc.N y).map .nm else none
    | .Tuple es _ _ => (cTgs (cTg cc n) es).map .tp
    | _ => none
/-! blocks -/
def ownOf (N : List Str) (names : List (Str × NameKind)) : List (Str × Nat) := names.filterMap fun p => if p.2 = .local ∨ p.2 = .cell then (ixOf N p.1).map fun i => (p.1, i) else none
def blkB (N : List Str) (names : List (Str × NameKind)) (scope : Scope) : Bool :=
  decide (scope.kind = .function) && scope.names.all (fun y => decide (scope.names.lookup y.1 = some y.2)) &&
  scope.names.all (fun y => decide (y.2 = .free → names.lookup y.1 = some .cell ∨ names.lookup y.1 = some .free)) &&
  scope.names.all (fun y => decide (y.2 = .local ∨ y.2 = .cell → y.1 ∈ (ownOf N scope.names).map (·.1) ∨ y.1 ∉ N))
theorem ownOf_ix {N : List Str} {names : List (Str × NameKind)} : ∀ p ∈ ownOf N names, N[p.2]? = some p.1 := by
  intro p hp
  obtain ⟨q, _, hq⟩ := List.mem_filterMap.mp hp
  split at hq
  · cases e : ixOf N q.1 with
    | none => rw [e] at hq; cases hq
    | some i => rw [e] at hq; cases hq; exact ixOf_get e
  · cases hq
theorem blkB_ok {N : List Str} {sc scope : Scope} (h : blkB N sc.names scope = true) : BlkOk N sc scope (ownOf N scope.names) := by
  unfold blkB at h
  simp only [Bool.and_eq_true, decide_eq_true_eq, List.all_eq_true] at h
  exact ⟨h.1.1.1, h.1.1.2, ownOf_ix, h.1.2, h.2⟩
def relN (names outer : List (Str × NameKind)) : List (Str × NameKind) := names.map fun (n, k) => if (k == .free && outer.lookup n == some .cell) then (n, .cell) else (n, k)
def cellsOf (names : List (Str × NameKind)) : List Str := (names.filter fun p => decide (names.lookup p.1 = some .cell)).map (·.1)
def ccComp (cc : CC) (scope : Scope) : CC := { cc with names := relN scope.names cc.names, cells := cellsOf scope.names, muts := [] }
def ccGen (cc : CC) (scope : Scope) : CC := { cc with names := scope.names, cells := [], muts := [], tab := false }
/-! iterables -/
def notSet : Expr → Bool
  | .Set .. => false
  | _ => true
def notSL : Expr → Bool
  | .Set .. => false
  | .List .. => false
  | _ => true
def isTupE : Expr → Bool
  | .Tuple .. => true
  | _ => false
def cIter (rec : Rec) (cc : CC) (tg x : Expr) : E := match x with
  | .Call (.Name f _) as [] _ =>
    if cc.names.lookup f = some .globalImplicit ∧ noStar as = true then
      if f = "range" then (match as with | [_] => .irng 1 (cArgs (rec cc false) as) | [_, _] => .irng 2 (cArgs (rec cc false) as) | [_, _, _] => .irng 3 (cArgs (rec cc false) as) | _ => .bad)
      else if f = "zip" then (match as with | [_, _] => if isTupE tg then .izip (cArgs (rec cc false) as) else .bad | _ => .bad)
      else if f = "enumerate" then (match as with | [_] => if isTupE tg then .ienum (cArgs (rec cc false) as) else .bad | _ => .bad)
      else .iseq (rec cc false x)
    else .iseq (rec cc false x)
  | x => .iseq (rec cc false x)
def cIfs (f : Expr → E) : List Expr → E
  | [] => .yes
  | [c] => f c
  | _ => .bad
def cComp (rec : Rec) (cc : CC) (m : Bool) (elt tg it : Expr) (ifs : List Expr) (scope : Scope) : E :=
  match cTg (ccComp cc scope) 4 tg with
  | none => .bad
  | some t => if blkB cc.N cc.names scope = true ∧ notSet it = true ∧ (∀ i ∈ t.ix, i ∈ (ownOf cc.N scope.names).map (·.2)) then
      .comp m t ((ownOf cc.N scope.names).map (·.2)) (cIter rec cc tg it) (cIfs (rec (ccComp cc scope) false) ifs) (rec (ccComp cc scope) false elt)
    else .bad
def cGen (rec : Rec) (cc : CC) (sb : Bool) (elt tg it : Expr) (scope : Scope) : E :=
  match cTg (ccGen cc scope) 4 tg with
  | none => .bad
  | some t => if cc.tab = true ∧ blkB cc.N cc.names scope = true ∧ notSL it = true ∧ (∀ i ∈ t.ix, i ∈ (ownOf cc.N scope.names).map (·.2)) ∧ scope.isCoroutine = false ∧ (∀ y ∈ scope.names, y.2 ≠ .cell) ∧ scope.names.lookup (".0" : Str) = some .local then
      .gen sb t ((ownOf cc.N scope.names).map (·.2)) (cIter rec cc tg it) (rec (ccGen cc scope) false elt)
    else .bad
/-! calls -/
def tyOf (x : Str) : Option Ty := if x = "tuple" then some .tuple else if x = "list" then some .list else if x = "int" then some .int else if x = "bool" then some .bool else if x = "str" then some .str else if x = "dict" then some .dict else none
theorem tyOf_nm {x : Str} {t : Ty} (h : tyOf x = some t) : x = Str.ofString t.nm := by
  unfold tyOf at h
  repeat' split at h
  all_goals first | (cases h; assumption) | (cases h)
def bltOf (x : Str) (n : Nat) (m : Bool) : Option Blt :=
  if x = "len" then some .len else if x = "abs" then some .abs else if x = "min" then (if n = 1 then some .minL else some .min2) else if x = "max" then (if n = 1 then some .maxL else some .max2)
  else if x = "int" then some .int else if x = "sum" then some .sum else if x = "list" then some (.list m) else if x = "tuple" then some .tuple else if x = "dict" then some .dict else if x = "sorted" then some (.sorted m) else none
theorem bltOf_nm {x : Str} {n : Nat} {m : Bool} {b : Blt} (h : bltOf x n m = some b) : x = b.nm := by
  unfold bltOf at h
  repeat' split at h
  all_goals first | (cases h; assumption) | (cases h)
def mthOf (x : Str) : Option Mth := if x = "append" then some .append else if x = "extend" then some .extend else if x = "pop" then some .pop else if x = "index" then some .index else if x = "join" then some .join else if x = "count" then some .count else none
theorem mthOf_nm {x : Str} {b : Mth} (h : mthOf x = some b) : x = b.nm := by
  unfold mthOf at h
  repeat' split at h
  all_goals first | (cases h; assumption) | (cases h)
def cCallG (rec : Rec) (cc : CC) (m : Bool) (f : Str) (as : List Expr) : E :=
  match bltOf f as.length m with
  | some b => (match as with | [] => .bad | _ :: _ => .blt b (cArgs (rec cc false) as))
  | none => match cc.funs.lookup f with
    | some (j, n) => (match as with | [] => if n = 0 then .call0 j else .bad | _ :: _ => .call j n (cArgs (rec cc false) as))
    | none => .bad
def cCallN (rec : Rec) (cc : CC) (m : Bool) (f : Str) (as : List Expr) : E := match as with
  | [.Call (.Name g p1) bs [] p2] => if f = "list" ∧ cc.names.lookup g = some .globalImplicit ∧ noStar bs = true then
      if g = "range" then (match bs with | [_] => .lrg m 1 (cArgs (rec cc false) bs) | [_, _] => .lrg m 2 (cArgs (rec cc false) bs) | [_, _, _] => .lrg m 3 (cArgs (rec cc false) bs) | _ => .bad)
      else if g = "reversed" then (match bs with | [b] => .lrev m (rec cc false b) | _ => .bad)
      else cCallG rec cc m f [.Call (.Name g p1) bs [] p2]
    else cCallG rec cc m f [.Call (.Name g p1) bs [] p2]
  | [.GeneratorExp elt [⟨tg, it, [], 0⟩] scope _] => if f = "all" then cGen rec cc false elt tg it scope else if f = "any" then cGen rec cc true elt tg it scope else .bad
  | [a, .Name t p1] => if f = "isinstance" then (match tyOf t with | some c => if cc.names.lookup t = some .globalImplicit ∧ isStar a = false then .isi c (rec cc false a) else .bad | none => .bad) else cCallG rec cc m f [a, .Name t p1]
  | as => cCallG rec cc m f as
def cMeth (rec : Rec) (cc : CC) (o : Expr) (name : Str) (apos : Pos) (as : List Expr) (pos : Pos) : E :=
  match mthOf name with
  | none => .bad
  | some b => if plainBase o = true ∧ (apos.endLine == pos.line) = true ∧ noStar as = true ∧ as.length < 30 then
      (match as with | [] => .mth0 b (rec cc false o) | _ :: _ => .mth b (rec cc false o) (cArgs (rec cc false) as))
    else .bad
def cSub (rec : Rec) (cc : CC) (m : Bool) (a b : Expr) : E := match b with
  | .Slice none none (some (.UnaryOp .USub (.Constant (.int 1) _ _) _)) _ => .rev m (rec cc false a)
  | .Slice lo hi none _ => (match cOpt (rec cc false) lo, cOpt (rec cc false) hi with | some l, some h => .sl m (rec cc false a) l h | _, _ => .bad)
  | b => if plainIxB b = true then .idx (rec cc false a) (rec cc false b) else .bad
def cRow (rec : Rec) (cc : CC) (f : Str) : List Expr → Option E
  | [.Call (.Name g _) [.Call (.Attribute o nm apos) [] [] cpos] [] _] => if f = "tuple" ∧ g = "sorted" ∧ nm = "items" ∧ cc.names.lookup g = some .globalImplicit ∧ plainBase o = true ∧ (apos.endLine == cpos.line) = true then some (.row (rec cc false o)) else none
  | _ => none
def cCallX (rec : Rec) (cc : CC) (m : Bool) (f : Str) (as : List Expr) : E := match cRow rec cc f as with
  | some e => e
  | none => if f = "dict" ∧ m = false then (match as with | [x] => .drow (rec cc false x) | _ => .bad) else cCallN rec cc m f as
def cMethX (rec : Rec) (cc : CC) (o : Expr) (name : Str) (apos : Pos) (as : List Expr) (pos : Pos) : E := match as with
  | [a, b] => if name = "get" then (if plainBase o = true ∧ (apos.endLine == pos.line) = true ∧ noStar [a, b] = true then .dget (rec cc false o) (rec cc false a) (rec cc false b) else .bad) else cMeth rec cc o name apos [a, b] pos
  | as => cMeth rec cc o name apos as pos
def cDComp (rec : Rec) (cc : CC) (kx elt tg it : Expr) (ifs : List Expr) (scope : Scope) : E :=
  match cTg (ccComp cc scope) 4 tg with
  | none => .bad
  | some t => if blkB cc.N cc.names scope = true ∧ notSet it = true ∧ (∀ i ∈ t.ix, i ∈ (ownOf cc.N scope.names).map (·.2)) then
      .dcomp t ((ownOf cc.N scope.names).map (·.2)) (cIter rec cc tg it) (cIfs (rec (ccComp cc scope) false) ifs) (rec (ccComp cc scope) false kx) (rec (ccComp cc scope) false elt)
    else .bad
def cStep (rec : Rec) (cc : CC) (m : Bool) : Expr → E
  | .Name y _ => cName cc y
  | .Constant c _ _ => cConst c
  | .BinOp a op b _ => (match bopOf op with | some o => (if m = true ∧ op = .Add then .catM (rec cc false a) (rec cc false b) else if m = true ∧ op = .Mult then .repM (rec cc false a) (rec cc false b) else .bin o (rec cc false a) (rec cc false b)) | none => .bad)
  | .UnaryOp .USub a _ => .neg (rec cc false a)
  | .UnaryOp .Not a _ => .not (rec cc false a)
  | .Compare a [op] [b] _ => (match copOf op with | some o => if behindInMarks op b = true then .bad else .cmp o (rec cc false a) (rec cc false b) | none => .bad)
  | .Compare a [op, op'] [b, c] _ => (match copOf op, copOf op' with | some o, some o' => if lastMarks [op, op'] [b, c] = true then .bad else .chain o o' (rec cc false a) (rec cc false b) (rec cc false c) | _, _ => .bad)
  | .BoolOp .And es _ => cAnd (rec cc false) es
  | .BoolOp .Or es _ => cOr (rec cc false) es
  | .IfExp c a b _ => .ite (rec cc false c) (rec cc m a) (rec cc m b)
  | .Tuple es _ _ => .tup (cArgs (rec cc false) es)
  | .List es _ => .lst m (cArgs (rec cc false) es)
  | .Subscript a b _ => cSub rec cc m a b
  | .Call (.Name f _) as [] _ => if cc.names.lookup f = some .globalImplicit ∧ okNm f = true ∧ noStar as = true then cCallX rec cc m f as else .bad
  | .Call (.Attribute o name apos) as [] pos => cMethX rec cc o name apos as pos
  | .ListComp elt [⟨tg, it, ifs, 0⟩] scope _ => cComp rec cc m elt tg it ifs scope
  | .Dict [] [] _ => .dic0
  | .Dict [some a] [b] _ => .dic1 (rec cc false a) (rec cc false b)
  | .DictComp kx elt [⟨tg, it, ifs, 0⟩] scope _ => cDComp rec cc kx elt tg it ifs scope
  | _ => .bad
def cE : Nat → Rec
  | 0 => fun _ _ _ => .bad
  | n + 1 => cStep (cE n)
end Mp
set_option Elab.async false
set_option linter.all false
set_option autoImplicit false
set_option maxRecDepth 100000
set_option maxHeartbeats 1000000
/-! Mp, part 14: what is read is what runs (expressions) -/
namespace Mp
open PySem PySem.Spec L2 GxR GxM
open PyProof.Rows hiding St

variable {T : List Addr} {cl : Nat → List D → Hs → Rs}
def RecOk (T : List Addr) (cl : Nat → List D → Hs → Rs) (rec : Rec) : Prop := ∀ (X : Cx) (k r : Nat) (cc : CC), XOk X T cl k r cc → ∀ m x, Good X T cl x (rec cc m x)

section
variable {X : Cx} {k r : Nat} {cc : CC} {rec : Rec}
theorem XOk.vis (ok : XOk X T cl k r cc) {x : Str} (h : visK (cc.names.lookup x) = true) : Vis X.env.scope x := visK_at (by rw [ok.look]; exact h)
theorem name_ok (ok : XOk X T cl k r cc) {y : Str} {p : Pos} : Good X T cl (.Name y p) (cName cc y) := by
  unfold cName
  split
  · rename_i h1
    obtain ⟨n1, n2, n3⟩ := okNm_at h1
    split
    · rename_i h2
      split
      · rename_i i hi
        exact good_wi (le_v (by rw [ok.N]; exact ixOf_get hi) (ok.vis h2) n1 n2) rfl rfl
      · exact good_bad
    · split
      · rename_i h3
        split
        · rename_i d hd
          obtain ⟨u, v, e1, e2, e3⟩ := ok.consts _ (PySem.mem_of_lookup hd)
          exact good_wi (le_c (pe_glob (ok.gl h3) e1 e2 n1) e3) rfl rfl
        · exact good_bad
      · exact good_bad
  · exact good_bad
theorem const_ok {c : Const} {j : Nat} {p : Pos} : Good X T cl (.Constant c j p) (cConst c) := by
  cases c <;> first
    | exact good_wi (le_c pe_int (.int _)) rfl rfl
    | exact good_wi (le_c pe_bl (.bl _)) rfl rfl
    | exact good_wi (le_c pe_non .non) rfl rfl
    | skip
  all_goals first
    | exact good_bad
    | exact good_wi (le_c pe_str (by rename_i s; have := CV.str s.cps.toList; simpa using this)) rfl rfl
theorem args_ok (f : Expr → E) (hf : ∀ x, Good X T cl x (f x)) : ∀ es : List Expr, PA X es (LA X.K T (ev cl (cArgs f es)).1)
  | [] => la_nil
  | a :: as => by
    unfold cArgs
    split
    · exact pa_no fun _ _ => rfl
    · rename_i h
      exact la_cons (hf a).pe (args_ok f hf as) (star_1 (by simpa using h))
/-- a stronger reading of fewer results -/
theorem le_sub {x : Expr} {f f' : Fn} (h : PE X x (LE X.K T f)) (m : ∀ ς G v, f' ς G = some v → f ς G = some v) : PE X x (LE X.K T f') :=
  h.imp fun σ H Q ⟨ι, F, ς, G, R, S, d, G', e, q⟩ => ⟨ι, F, ς, G, R, S, d, G', m _ _ _ e, q⟩
theorem and_ok (f : Expr → E) (hf : ∀ x, Good X T cl x (f x)) {p : Pos} : ∀ es : List Expr, PE X (.BoolOp .And es p) (LE X.K T (ev cl (cAnd f es)).1) ∧ PW X (.BoolOp .And es p) (LT X.K T (ev cl (cAnd f es)).2)
  | [] => ⟨pe_no fun _ _ => rfl, ⟨fun _ pins s σ H Q I ⟨ι, F, ς, G, R, S, b, G', e, q⟩ => by cases e⟩⟩
  | [a] => ⟨pe_one (hf a).pe, pw_and1 (hf a).pt⟩
  | a :: b :: as => by
    obtain ⟨h1, h2⟩ := and_ok f hf (p := p) (b :: as)
    exact ⟨le_and (hf a).pe h1, lw_and (hf a).pt h2⟩
theorem or_ok (f : Expr → E) (hf : ∀ x, Good X T cl x (f x)) {p : Pos} : ∀ es : List Expr, PE X (.BoolOp .Or es p) (LE X.K T (ev cl (cOr f es)).1) ∧ PW X (.BoolOp .Or es p) (LT X.K T (ev cl (cOr f es)).2)
  | [] => ⟨pe_no fun _ _ => rfl, ⟨fun _ pins s σ H Q I ⟨ι, F, ς, G, R, S, b, G', e, q⟩ => by cases e⟩⟩
  | [a] => ⟨pe_one (hf a).pe, pw_or1 (hf a).pt⟩
  | a :: b :: as => by
    obtain ⟨h1, h2⟩ := or_ok f hf (p := p) (b :: as)
    exact ⟨le_or (hf a).pe h1, lw_or (hf a).pt h2⟩
theorem opt_ok (f : Expr → E) (hf : ∀ x, Good X T cl x (f x)) {o : Option Expr} {e : E} (h : cOpt f o = some e) : PO X o (LO X.K T (if isNil e then none else some (ev cl e).1)) := by
  cases o with
  | none => cases h; exact lo_none
  | some x =>
    simp only [cOpt] at h
    split at h
    · cases h
    · rename_i hn
      cases h
      rw [if_neg hn]
      exact lo_some (hf x).pe
theorem sub_ok (f : Expr → E) (hf : ∀ x, Good X T cl x (f x)) (ok : XOk X T cl k r cc) {rec : Rec} (hr : f = rec cc false) {m : Bool} {a b : Expr} {p : Pos} : Good X T cl (.Subscript a b p) (cSub rec cc m a b) := by
  subst hr
  unfold cSub
  split
  · exact good_wi (le_rev m (hf a).pe) rfl rfl
  · split
    · rename_i l h el eh
      exact good_wi (le_sl m (hf a).pe (opt_ok _ hf el) (opt_ok _ hf eh)) rfl rfl
    · exact good_bad
  · split
    · rename_i hp
      exact good_wi (le_ix ok.hu (hf a).pe (hf b).pe (plainIx_ok hp)) rfl rfl
    · exact good_bad
/-! targets -/
theorem tgs_ok {f : Expr → Option Tg} (hf : ∀ x t, f x = some t → PG X x (GT X.K T t)) : ∀ {es : List Expr} {t : Tg}, cTgs f es = some t → PGs X es (GTs X.K T t) ∧ t.isL = true ∧ t.len = es.length ∧ es.all (fun e => !isStar e) = true
  | [], t, h => by cases h; exact ⟨gts_nil, rfl, rfl, rfl⟩
  | e :: es, t, h => by
    simp only [cTgs] at h
    split at h
    · cases h
    · rename_i hs
      have hs : isStar e = false := by simpa using hs
      cases ea : f e with
      | none => rw [ea] at h; cases h
      | some a =>
        rw [ea] at h
        simp only [Option.bind_some, Option.map_eq_some_iff] at h
        obtain ⟨b, eb, rfl⟩ := h
        obtain ⟨h1, h2, h3, h4⟩ := tgs_ok hf eb
        exact ⟨gts_cons (hf e a ea) h1 hs, h2, congrArg (· + 1) h3, by simp only [List.all_cons, hs, h4]; rfl⟩
structure TOk (X : Cx) (cc : CC) : Prop where
  N : X.N = cc.N
  nd : X.N.Nodup
  names : X.env.scope.names = cc.names
  calm : X.calm = true
  cells : ∀ x ∈ cc.cells, X.fn x = true
theorem XOk.tok (ok : XOk X T cl k r cc) : TOk X cc := ⟨ok.N, ok.nd, ok.names, ok.calm, ok.cells⟩
theorem tg_ok (ok : TOk X cc) : ∀ (n : Nat) {x : Expr} {t : Tg}, cTg cc n x = some t → PG X x (GT X.K T t)
  | 0, _, _, h => by cases h
  | n + 1, x, t, h => by
    unfold cTg at h
    split at h
    · split at h
      · rename_i y _ hy
        cases e : ixOf cc.N y with
        | none => rw [e] at h; cases h
        | some i =>
          rw [e] at h; cases h
          refine gt_nm ok.nd (by rw [ok.N]; exact ixOf_get e) ?_ ?_
          · unfold L2.Loc
            rw [ok.names]
            exact hy.imp id fun q => q.1
          · rw [ok.names]
            exact hy.elim .inr fun q => .inl (ok.cells _ q.2)
      · cases h
    · rename_i es _ _
      cases e : cTgs (cTg cc n) es with
      | none => rw [e] at h; cases h
      | some l =>
        rw [e] at h; cases h
        obtain ⟨h1, h2, h3, h4⟩ := tgs_ok (fun x t hx => tg_ok ok n hx) e
        exact gt_tup ok.calm h1 h2 h3 h4
    · cases h
/-! iterables -/
theorem iter_ok (hr : RecOk T cl rec) (ok : XOk X T cl k r cc) {tg x : Expr} : PI X tg x (LI X.K T (ev cl (cIter rec cc tg x)).1) := by
  have hf : ∀ x, Good X T cl x (rec cc false x) := fun x => hr X k r cc ok false x
  have seq : PI X tg x (LI X.K T (ev cl (.iseq (rec cc false x))).1) := li_seq (hf x).pe
  unfold cIter
  split
  · rename_i f p as pos
    split
    · rename_i hg
      obtain ⟨hg, hs⟩ := hg
      split
      · rename_i e
        subst e
        split
        · rename_i a
          have hs1 : isStar a = false := by simpa [noStar] using hs
          exact li_rng1 (ok.gl hg) (ok.blt _ (by decide)) (args_ok _ hf _) hs1
        · rename_i a b
          have hs1 : isStar a = false ∧ isStar b = false := by simpa [noStar] using hs
          exact li_rng2 (ok.gl hg) (ok.blt _ (by decide)) (args_ok _ hf _) hs1.1 hs1.2
        · exact li_rng3 (ok.gl hg) (ok.blt _ (by decide)) (args_ok _ hf _) hs
        · exact pi_no fun _ _ => rfl
      · split
        · rename_i e
          subst e
          split
          · rename_i a b
            have hs1 : isStar a = false ∧ isStar b = false := by simpa [noStar] using hs
            split
            · rename_i ht
              cases tg <;> first | (cases ht; done) | exact li_zip (ok.gl hg) (ok.blt _ (by decide)) (args_ok _ hf _) hs1.1 hs1.2
            · exact pi_no fun _ _ => rfl
          · exact pi_no fun _ _ => rfl
        · split
          · rename_i e
            subst e
            split
            · rename_i a
              have hs1 : isStar a = false := by simpa [noStar] using hs
              split
              · rename_i ht
                cases tg <;> first | (cases ht; done) | exact li_enum (ok.gl hg) (ok.blt _ (by decide)) (args_ok _ hf _) hs1
              · exact pi_no fun _ _ => rfl
            · exact pi_no fun _ _ => rfl
          · exact seq
    · exact seq
  · exact seq
theorem notSet_ok {x : Expr} {env : Env} (h : notSet x = true) (v : Value) : foldedSetIterable x env v = pure v := by
  cases x <;> first | rfl | (cases h)
theorem notSL_ok {x : Expr} {env : Env} (h : notSL x = true) (v : Value) : genFold x env v = pure v := by
  cases x <;> first | rfl | (cases h)
/-! blocks -/
theorem lookup_cell {names : List (Str × NameKind)} {x : Str} (h : x ∈ cellsOf names) : names.lookup x = some .cell := by
  unfold cellsOf at h
  obtain ⟨p, hp, rfl⟩ := List.mem_map.mp h
  exact of_decide_eq_true (List.mem_filter.mp hp).2
theorem xok_comp (ok : XOk X T cl k r cc) {scope : Scope} (hb : blkB cc.N cc.names scope = true) (s : Shared) (H : Hp) (C : Addr) (cs : List (Str × Addr)) (fp : List Addr) :
    XOk (X.blk s H scope (compEnvC scope cs C X.env) fp) T cl k r (ccComp cc scope) where
  N := ok.N
  nd := ok.nd
  names := by
    show (relabel scope X.env).names = relN scope.names cc.names
    unfold relabel relN
    simp only [ok.kind, Env.kindOf, ok.names]
    congr 1
    funext ⟨n, q⟩
    simp
  kind := by
    have := (blkB_ok (sc := X.env.scope) (N := cc.N) (scope := scope) (by rw [ok.names]; exact hb)).kind
    exact this
  calm := ok.calm
  room := ok.room
  le := ok.le
  cells := fun x hx => by
    show (scope.names.lookup x == some .cell) = true
    rw [lookup_cell hx]; rfl
  blt := ok.blt
  consts := ok.consts
  funs := fun p hp => ⟨(ok.funs p hp).ex⟩
  tab := ok.tab
theorem xok_gen (ok : XOk X T cl k r cc) {scope : Scope} (hb : blkB cc.N cc.names scope = true) (A : Around) (s : Shared) (H : Hp) (cs : List (Str × Addr)) (C : Addr) (code : Value) (fp : List Addr) (hr : Room k A) :
    XOk (gcx X A s H (genEnv scope cs C code builtinsNs X.env) fp) T cl k k (ccGen cc scope) where
  N := ok.N
  nd := ok.nd
  names := rfl
  kind := (blkB_ok (sc := X.env.scope) (N := cc.N) (scope := scope) (by rw [ok.names]; exact hb)).kind
  calm := ok.calm
  room := hr
  le := Nat.le_refl _
  cells := fun x hx => by cases hx
  blt := ok.blt
  consts := ok.consts
  funs := fun p hp => ⟨(ok.funs p hp).ex⟩
  tab := fun h => by cases h
theorem ifs_ok (f : Expr → E) (hf : ∀ x, Good X T cl x (f x)) (ifs : List Expr) : PTs X ifs (LT X.K T (ev cl (cIfs f ifs)).2) := by
  unfold cIfs
  split
  · exact lts_nil
  · exact pts_one (hf _).pt
  · exact ⟨fun pins s σ H Q I ⟨ι, F, ς, G, R, S, b, G', e, q⟩ => by cases e⟩
/-- what cComp found -/
theorem comp_at {m : Bool} {elt tg it : Expr} {ifs : List Expr} {scope : Scope} : cComp rec cc m elt tg it ifs scope = .bad ∨ ∃ t, cTg (ccComp cc scope) 4 tg = some t ∧ blkB cc.N cc.names scope = true ∧ notSet it = true ∧ (∀ i ∈ t.ix, i ∈ (ownOf cc.N scope.names).map (·.2)) ∧
    cComp rec cc m elt tg it ifs scope = .comp m t ((ownOf cc.N scope.names).map (·.2)) (cIter rec cc tg it) (cIfs (rec (ccComp cc scope) false) ifs) (rec (ccComp cc scope) false elt) := by
  unfold cComp
  split
  · exact .inl rfl
  · rename_i t ht
    split
    · rename_i h
      exact .inr ⟨t, ht, h.1, h.2.1, h.2.2, rfl⟩
    · exact .inl rfl
theorem comp_ok (hr : RecOk T cl rec) (ok : XOk X T cl k r cc) {m : Bool} {elt tg it : Expr} {ifs : List Expr} {scope : Scope} {p : Pos} : Good X T cl (.ListComp elt [⟨tg, it, ifs, 0⟩] scope p) (cComp rec cc m elt tg it ifs scope) := by
  rcases comp_at (rec := rec) (cc := cc) (m := m) (elt := elt) (tg := tg) (it := it) (ifs := ifs) (scope := scope) with h | ⟨t, ht, hb, hs, hix, e⟩
  · rw [h]; exact good_bad
  · rw [e]
    have blk : BlkOk X.N X.env.scope scope (ownOf cc.N scope.names) := by rw [ok.N]; exact blkB_ok (by rw [ok.names]; exact hb)
    exact good_wi (le_comp m ok.calm ok.nd (iter_ok hr ok) blk (fun s H C cs fp => tg_ok (xok_comp ok hb s H C cs fp).tok 4 ht) (fun s H C cs fp => ifs_ok _ (fun x => hr _ k r _ (xok_comp ok hb s H C cs fp) false x) ifs)
      (fun s H C cs fp => (hr _ k r _ (xok_comp ok hb s H C cs fp) false elt).pe) (notSet_ok hs) hix) rfl rfl
theorem dcomp_at {kx elt tg it : Expr} {ifs : List Expr} {scope : Scope} : cDComp rec cc kx elt tg it ifs scope = .bad ∨ ∃ t, cTg (ccComp cc scope) 4 tg = some t ∧ blkB cc.N cc.names scope = true ∧ notSet it = true ∧ (∀ i ∈ t.ix, i ∈ (ownOf cc.N scope.names).map (·.2)) ∧
    cDComp rec cc kx elt tg it ifs scope = .dcomp t ((ownOf cc.N scope.names).map (·.2)) (cIter rec cc tg it) (cIfs (rec (ccComp cc scope) false) ifs) (rec (ccComp cc scope) false kx) (rec (ccComp cc scope) false elt) := by
  unfold cDComp
  split
  · exact .inl rfl
  · rename_i t ht
    split
    · rename_i h
      exact .inr ⟨t, ht, h.1, h.2.1, h.2.2, rfl⟩
    · exact .inl rfl
theorem dcomp_ok (hr : RecOk T cl rec) (ok : XOk X T cl k r cc) {kx elt tg it : Expr} {ifs : List Expr} {scope : Scope} {p : Pos} : Good X T cl (.DictComp kx elt [⟨tg, it, ifs, 0⟩] scope p) (cDComp rec cc kx elt tg it ifs scope) := by
  rcases dcomp_at (rec := rec) (cc := cc) (kx := kx) (elt := elt) (tg := tg) (it := it) (ifs := ifs) (scope := scope) with h | ⟨t, ht, hb, hs, hix, e⟩
  · rw [h]; exact good_bad
  · rw [e]
    have blk : BlkOk X.N X.env.scope scope (ownOf cc.N scope.names) := by rw [ok.N]; exact blkB_ok (by rw [ok.names]; exact hb)
    exact good_wi (le_dcomp ok.calm ok.nd (iter_ok hr ok) blk (fun s H C cs fp => tg_ok (xok_comp ok hb s H C cs fp).tok 4 ht) (fun s H C cs fp => ifs_ok _ (fun x => hr _ k r _ (xok_comp ok hb s H C cs fp) false x) ifs)
      (fun s H C cs fp => (hr _ k r _ (xok_comp ok hb s H C cs fp) false kx).pe) (fun s H C cs fp => (hr _ k r _ (xok_comp ok hb s H C cs fp) false elt).pe) (notSet_ok hs) hix) rfl rfl
theorem gen_ok (hr : RecOk T cl rec) (ok : XOk X T cl k r cc) {sb : Bool} {elt tg it : Expr} {scope : Scope} {p pos gp : Pos} {f : Str} (hg : cc.names.lookup f = some .globalImplicit) (hf : f = "all" ∧ sb = false ∨ f = "any" ∧ sb = true) :
    Good X T cl (.Call (.Name f p) [.GeneratorExp elt [⟨tg, it, [], 0⟩] scope gp] [] pos) (cGen rec cc sb elt tg it scope) := by
  unfold cGen
  split
  · exact good_bad
  · rename_i t ht
    split
    · rename_i h
      obtain ⟨htab, hb, hs, hix, hco, hcell, hdot⟩ := h
      obtain ⟨hk, c, P, TB, hcode, hP⟩ := ok.tab htab
      have blk : BlkOk X.N X.env.scope scope (ownOf cc.N scope.names) := by rw [ok.N]; exact blkB_ok (by rw [ok.names]; exact hb)
      have gs : GxS scope := ⟨hco, hcell, hdot⟩
      have hroom : Room (k + 2) X.A := ok.room.mono hk
      have hi : PI X tg it (LI X.K T (ev cl (cIter rec cc tg it)).1) := iter_ok hr ok
      -- the target in the generator's frame needs no room
      have hpg : ∀ (A : Around) (s : Shared) (H : Hp) (cs : List (Str × Addr)) (C : Addr) (code : Value) (fp : List Addr), PG (gcx X A s H (genEnv scope cs C code builtinsNs X.env) fp) tg (GT X.K T t) := by
        intro A s H cs C code fp
        exact tg_ok (X := gcx X A s H (genEnv scope cs C code builtinsNs X.env) fp) (cc := ccGen cc scope) ⟨ok.N, ok.nd, rfl, ok.calm, fun x hx => by cases hx⟩ 4 ht
      have hpe : ∀ (A : Around) (s : Shared) (H : Hp) (cs : List (Str × Addr)) (C : Addr) (code : Value) (fp : List Addr), Room k A → PE (gcx X A s H (genEnv scope cs C code builtinsNs X.env) fp) elt (LE X.K T (ev cl (rec (ccGen cc scope) false elt)).1) :=
        fun A s H cs C code fp hA => (hr _ k k _ (xok_gen ok hb A s H cs C code fp hA) false elt).pe
      rcases hf with ⟨rfl, rfl⟩ | ⟨rfl, rfl⟩
      · exact good_wi ((pe_all hroom (ok.gl hg) (ok.blt _ (by decide)) (by decide +kernel) TB hcode ok.nd ok.calm hi blk gs hpg hpe (notSL_ok hs)).imp fun σ H Q h => gen_in (X := X) hP hix h) rfl rfl
      · exact good_wi ((pe_any hroom (ok.gl hg) (ok.blt _ (by decide)) (by decide +kernel) TB hcode ok.nd ok.calm hi blk gs hpg hpe (notSL_ok hs)).imp fun σ H Q h => gen_in (X := X) hP hix h) rfl rfl
    · exact good_bad
end
end Mp
set_option Elab.async false
set_option linter.all false
set_option autoImplicit false
set_option maxRecDepth 100000
set_option maxHeartbeats 1000000
/-! Mp, part 15: what is read is what runs (calls; the whole of it) -/
namespace Mp
open PySem PySem.Spec L2 GxR GxM
open PyProof.Rows hiding St

variable {T : List Addr} {cl : Nat → List D → Hs → Rs}
section
variable {X : Cx} {k r : Nat} {cc : CC} {rec : Rec}
theorem blt_ok (ok : XOk X T cl k r cc) (b : Blt) {e : Expr} {es : List Expr} {f : Fn} {p pos : Pos} (hg : cc.names.lookup b.nm = some .globalImplicit) (ha : PA X (e :: es) (LA X.K T f)) (hs : noStar (e :: es) = true) :
    PE X (.Call (.Name b.nm p) (e :: es) [] pos) (LE X.K T (argD f b.k)) := by
  cases b with
  | len => exact le_callB call_lenD (ok.gl hg) (ok.blt _ (by decide)) (by decide +kernel) ha hs (by decide) (by decide)
  | abs => exact le_callB call_absD (ok.gl hg) (ok.blt _ (by decide)) (by decide +kernel) ha hs (by decide) (by decide)
  | min2 => exact le_callB (call_min2D ok.calm) (ok.gl hg) (ok.blt _ (by decide)) (by decide +kernel) ha hs (by decide) (by decide)
  | max2 => exact le_callB (call_max2D ok.calm) (ok.gl hg) (ok.blt _ (by decide)) (by decide +kernel) ha hs (by decide) (by decide)
  | minL => exact le_callB (call_minL ok.calm) (ok.gl hg) (ok.blt _ (by decide)) (by decide +kernel) ha hs (by decide) (by decide)
  | maxL => exact le_callB (call_maxL ok.calm) (ok.gl hg) (ok.blt _ (by decide)) (by decide +kernel) ha hs (by decide) (by decide)
  | int => exact le_callTy call_intD (ok.gl hg) (ok.blt _ (by decide)) (by decide +kernel) ha hs (by decide) (by decide)
  | sum => exact le_callB (call_sumD ok.calm) (ok.gl hg) (ok.blt _ (by decide)) (by decide +kernel) ha hs (by decide) (by decide)
  | list m => exact le_callTy (x := "list") (call_listD m ok.calm) (ok.gl hg) (ok.blt _ (by decide)) (by decide +kernel) ha hs (by decide) (by decide)
  | tuple => exact le_callTy call_tupD (ok.gl hg) (ok.blt _ (by decide)) (by decide +kernel) ha hs (by decide) (by decide)
  | sorted m => exact le_callB (x := "sorted") (call_sortD m) (ok.gl hg) (ok.blt _ (by decide)) (by decide +kernel) ha hs (by decide) (by decide)
  | dict => exact le_callTy (call_dictD ok.calm) (ok.gl hg) (ok.blt _ (by decide)) (by decide +kernel) ha hs (by decide) (by decide)
theorem callG_ok (hr : RecOk T cl rec) (ok : XOk X T cl k r cc) {m : Bool} {f : Str} {as : List Expr} {p pos : Pos} (hg : cc.names.lookup f = some .globalImplicit) (hn : okNm f = true) (hs : noStar as = true) :
    Good X T cl (.Call (.Name f p) as [] pos) (cCallG rec cc m f as) := by
  have hf : ∀ x, Good X T cl x (rec cc false x) := fun x => hr X k r cc ok false x
  obtain ⟨n1, n2, n3⟩ := okNm_at hn
  unfold cCallG
  split
  · rename_i b hb
    have e := bltOf_nm hb
    subst e
    split
    · exact good_bad
    · exact good_wi (blt_ok ok b hg (args_ok _ hf _) hs) rfl rfl
  · split
    · rename_i j n hj
      have ow := ok.funs _ (PySem.mem_of_lookup hj)
      have hroom : Room k X.A := ok.room.mono ok.le
      split
      · split
        · rename_i h0
          subst h0
          exact good_wi (le_call0 ow hroom (ok.gl hg) n1) rfl rfl
        · exact good_bad
      · exact good_wi (le_call ow hroom (ok.gl hg) (args_ok _ hf _) hs n1) rfl rfl
    · exact good_bad
theorem bnd_sub {f : Fn} {k k' : List D → Hs → Rs} {ς : Env'} {G : Hs} {v : D × Hs} (m : ∀ ds G1 v, f ς G = some (.tup ds, G1) → k' ds G1 = some v → k ds G1 = some v) (h : argD f k' ς G = some v) : argD f k ς G = some v := by
  obtain ⟨ds, G1, e1, e2⟩ := argE h
  unfold argD bnd
  rw [e1]
  exact m ds G1 v e1 e2
theorem callN_ok (hr : RecOk T cl rec) (ok : XOk X T cl k r cc) {m : Bool} {f : Str} {as : List Expr} {p pos : Pos} (hg : cc.names.lookup f = some .globalImplicit) (hn : okNm f = true) (hs : noStar as = true) :
    Good X T cl (.Call (.Name f p) as [] pos) (cCallN rec cc m f as) := by
  have hf : ∀ x, Good X T cl x (rec cc false x) := fun x => hr X k r cc ok false x
  obtain ⟨n1, n2, n3⟩ := okNm_at hn
  unfold cCallN
  split
  · rename_i g p1 bs p2
    split
    · rename_i h
      obtain ⟨rfl, hg2, hs2⟩ := h
      split
      · rename_i e
        subst e
        split
        · rename_i a
          have hs1 : isStar a = false := by simpa [noStar] using hs2
          refine good_wi (le_sub (le_lrg1 m ok.calm (ok.gl hg) (ok.blt _ (by decide)) (ok.gl hg2) (ok.blt _ (by decide)) (hf a).pe hs1) fun ς G v h => ?_) rfl rfl
          have e1 : (ev cl (cArgs (rec cc false) [a])).1 = consD (ev cl (rec cc false a)).1 fun _ G => some (.tup [], G) := by
            simp only [cArgs, hs1, Bool.false_eq_true, if_false]; rfl
          rw [e1] at h
          refine bnd_sub (fun ds G1 v _ h => ?_) h
          split at h
          · exact h
          · cases h
        · rename_i a b
          have hs1 : isStar a = false ∧ isStar b = false := by simpa [noStar] using hs2
          refine good_wi (le_sub (le_lrg2 m ok.calm (ok.gl hg) (ok.blt _ (by decide)) (ok.gl hg2) (ok.blt _ (by decide)) (hf a).pe (hf b).pe hs1.1 hs1.2) fun ς G v h => ?_) rfl rfl
          have e1 : (ev cl (cArgs (rec cc false) [a, b])).1 = consD (ev cl (rec cc false a)).1 (consD (ev cl (rec cc false b)).1 fun _ G => some (.tup [], G)) := by
            simp only [cArgs, hs1.1, hs1.2, Bool.false_eq_true, if_false]; rfl
          rw [e1] at h
          refine bnd_sub (fun ds G1 v _ h => ?_) h
          split at h
          · exact h
          · cases h
        · exact good_wi (le_lrg3 m ok.calm (ok.gl hg) (ok.blt _ (by decide)) (ok.gl hg2) (ok.blt _ (by decide)) (args_ok _ hf _) hs2) rfl rfl
        · exact good_bad
      · split
        · rename_i e
          subst e
          split
          · rename_i b
            have hs1 : isStar b = false := by simpa [noStar] using hs2
            exact good_wi (le_lrev m ok.calm (ok.gl hg) (ok.blt _ (by decide)) (ok.gl hg2) (ok.blt _ (by decide)) (hf b).pe hs1) rfl rfl
          · exact good_bad
        · exact callG_ok hr ok hg hn hs
    · exact callG_ok hr ok hg hn hs
  · split
    · rename_i e
      exact gen_ok hr ok hg (.inl ⟨e, rfl⟩)
    · split
      · rename_i e
        exact gen_ok hr ok hg (.inr ⟨e, rfl⟩)
      · exact good_bad
  · split
    · rename_i e
      subst e
      split
      · rename_i c hc
        have e2 := tyOf_nm hc
        subst e2
        split
        · rename_i h
          refine good_wi (le_isi c (ok.gl hg) (ok.blt _ (by decide)) (by decide +kernel) (ok.gl h.1) (ok.blt _ ?_) ?_ (hf _).pe h.2 ?_ ?_) rfl rfl <;> cases c <;> first | decide | decide +kernel
        · exact good_bad
      · exact good_bad
    · exact callG_ok hr ok hg hn hs
  · exact callG_ok hr ok hg hn hs
theorem meth_ok (hr : RecOk T cl rec) (ok : XOk X T cl k r cc) {o : Expr} {name : Str} {apos pos : Pos} {as : List Expr} : Good X T cl (.Call (.Attribute o name apos) as [] pos) (cMeth rec cc o name apos as pos) := by
  have hf : ∀ x, Good X T cl x (rec cc false x) := fun x => hr X k r cc ok false x
  unfold cMeth
  split
  · exact good_bad
  · rename_i b hb
    have e := mthOf_nm hb
    subst e
    split
    · rename_i h
      obtain ⟨h1, h2, h3, h4⟩ := h
      split
      · cases b with
        | append => exact good_wi (le_mth0 (t := .list) PySem.F.plainAttrs_list PySem.F.slot_list_append PySem.F.type_list_append mt_appendD (hf o).pe h1 h2) rfl rfl
        | extend => exact good_wi (le_mth0 (t := .list) PySem.F.plainAttrs_list PySem.F.slot_list_extend PySem.F.type_list_extend mt_extendD (hf o).pe h1 h2) rfl rfl
        | pop => exact good_wi (le_mth0 (t := .list) PySem.F.plainAttrs_list PySem.F.slot_list_pop PySem.F.type_list_pop mt_popD (hf o).pe h1 h2) rfl rfl
        | index => exact good_wi (le_mth0 (t := .list) PySem.F.plainAttrs_list PySem.F.slot_list_index PySem.F.type_list_index (mt_indexM ok.hu) (hf o).pe h1 h2) rfl rfl
        | join => exact good_wi (le_mth0 (t := .str) PySem.F.plainAttrs_str PySem.F.slot_str_join PySem.F.type_str_join mt_joinD (hf o).pe h1 h2) rfl rfl
        | count => exact good_wi (le_mth0 (t := .str) PySem.F.plainAttrs_str PySem.F.slot_str_count PySem.F.type_str_count mt_countD (hf o).pe h1 h2) rfl rfl
      · cases b with
        | append => exact good_wi (le_mth (t := .list) PySem.F.plainAttrs_list PySem.F.slot_list_append PySem.F.type_list_append mt_appendD (hf o).pe (args_ok _ hf _) h1 h3 h4 h2) rfl rfl
        | extend => exact good_wi (le_mth (t := .list) PySem.F.plainAttrs_list PySem.F.slot_list_extend PySem.F.type_list_extend mt_extendD (hf o).pe (args_ok _ hf _) h1 h3 h4 h2) rfl rfl
        | pop => exact good_wi (le_mth (t := .list) PySem.F.plainAttrs_list PySem.F.slot_list_pop PySem.F.type_list_pop mt_popD (hf o).pe (args_ok _ hf _) h1 h3 h4 h2) rfl rfl
        | index => exact good_wi (le_mth (t := .list) PySem.F.plainAttrs_list PySem.F.slot_list_index PySem.F.type_list_index (mt_indexM ok.hu) (hf o).pe (args_ok _ hf _) h1 h3 h4 h2) rfl rfl
        | join => exact good_wi (le_mth (t := .str) PySem.F.plainAttrs_str PySem.F.slot_str_join PySem.F.type_str_join mt_joinD (hf o).pe (args_ok _ hf _) h1 h3 h4 h2) rfl rfl
        | count => exact good_wi (le_mth (t := .str) PySem.F.plainAttrs_str PySem.F.slot_str_count PySem.F.type_str_count mt_countD (hf o).pe (args_ok _ hf _) h1 h3 h4 h2) rfl rfl
    · exact good_bad
theorem row_ok (hr : RecOk T cl rec) (ok : XOk X T cl k r cc) {f : Str} {as : List Expr} {p pos : Pos} {e : E} (hg : cc.names.lookup f = some .globalImplicit) (h : cRow rec cc f as = some e) : Good X T cl (.Call (.Name f p) as [] pos) e := by
  have hf : ∀ x, Good X T cl x (rec cc false x) := fun x => hr X k r cc ok false x
  unfold cRow at h
  split at h
  · split at h
    · rename_i hc
      obtain ⟨rfl, rfl, rfl, h4, h5, h6⟩ := hc
      cases h
      exact good_wi (le_row ok.calm (ok.gl hg) (ok.blt _ (by decide)) (ok.gl h4) (ok.blt _ (by decide)) (hf _).pe h5 h6) rfl rfl
    · cases h
  · cases h
theorem callX_ok (hr : RecOk T cl rec) (ok : XOk X T cl k r cc) {m : Bool} {f : Str} {as : List Expr} {p pos : Pos} (hg : cc.names.lookup f = some .globalImplicit) (hn : okNm f = true) (hs : noStar as = true) :
    Good X T cl (.Call (.Name f p) as [] pos) (cCallX rec cc m f as) := by
  have hf : ∀ x, Good X T cl x (rec cc false x) := fun x => hr X k r cc ok false x
  unfold cCallX
  split
  · rename_i e he
    exact row_ok hr ok hg he
  · split
    · rename_i h
      obtain ⟨rfl, h2⟩ := h
      split
      · exact good_wi (le_dictRow ok.calm (ok.gl hg) (ok.blt _ (by decide)) (hf _).pe (by simpa [noStar] using hs)) rfl rfl
      · exact good_bad
    · exact callN_ok hr ok hg hn hs
theorem methX_ok (hr : RecOk T cl rec) (ok : XOk X T cl k r cc) {o : Expr} {name : Str} {apos pos : Pos} {as : List Expr} : Good X T cl (.Call (.Attribute o name apos) as [] pos) (cMethX rec cc o name apos as pos) := by
  have hf : ∀ x, Good X T cl x (rec cc false x) := fun x => hr X k r cc ok false x
  unfold cMethX
  split
  · rename_i a b
    split
    · rename_i e
      subst e
      split
      · rename_i h
        obtain ⟨h1, h2, h3⟩ := h
        have hs1 : isStar a = false ∧ isStar b = false := by simpa [noStar] using h3
        refine good_wi (le_get2 ok.hu (hf o).pe (hf a).pe (hf b).pe ⟨base_ok h1, ?_, h2, ?_⟩) rfl rfl
        · rw [star_all h3]; rfl
        · rw [star_1 hs1.1, star_1 hs1.2]; rfl
      · exact good_bad
    · exact meth_ok hr ok
  · exact meth_ok hr ok
theorem step_ok (hr : RecOk T cl rec) : RecOk T cl (cStep rec) := by
  intro X k r cc ok m x
  have hf : ∀ m x, Good X T cl x (rec cc m x) := fun m x => hr X k r cc ok m x
  unfold cStep
  split
  · exact name_ok ok
  · exact const_ok
  · split
    · rename_i o ho
      have e := bopOf_py ho
      subst e
      split
      · rename_i h
        rw [h.2]
        exact good_wi (le_catM (hf _ _).pe (hf _ _).pe) rfl rfl
      split
      · rename_i h
        rw [h.2]
        exact good_wi (le_repM (hf _ _).pe (hf _ _).pe) rfl rfl
      · exact good_wi (le_bin o (hf _ _).pe (hf _ _).pe) rfl rfl
    · exact good_bad
  · exact good_wi (le_neg (hf _ _).pe) rfl rfl
  · exact ⟨le_not (hf _ _).pe, lt_not (hf _ _).pt⟩
  · split
    · rename_i o ho
      have e := copOf_py ho
      subst e
      split
      · exact good_bad
      · rename_i h
        exact ⟨le_cmp ok.hu o (hf _ _).pe (hf _ _).pe (by simpa using h), lt_cmp ok.hu o (hf _ _).pe (hf _ _).pe (by simpa using h)⟩
    · exact good_bad
  · split
    · rename_i o o' ho ho'
      have e := copOf_py ho
      have e' := copOf_py ho'
      subst e e'
      split
      · exact good_bad
      · rename_i h
        exact ⟨le_chain ok.hu o o' (hf _ _).pe (hf _ _).pe (hf _ _).pe (by simpa using h), lt_chain ok.hu o o' (hf _ _).pe (hf _ _).pe (hf _ _).pe (by simpa using h)⟩
    · exact good_bad
  · obtain ⟨h1, h2⟩ := and_ok (T := T) (cl := cl) (rec cc false) (fun x => hf false x) (X := X) _
    exact ⟨h1, h2.pt⟩
  · obtain ⟨h1, h2⟩ := or_ok (T := T) (cl := cl) (rec cc false) (fun x => hf false x) (X := X) _
    exact ⟨h1, h2.pt⟩
  · exact ⟨le_ite (hf _ _).pt (hf _ _).pe (hf _ _).pe, pt_no fun _ _ => rfl⟩
  · exact good_wi (le_tup (args_ok _ (fun x => hf false x) _)) rfl rfl
  · exact good_wi (le_lst m (args_ok _ (fun x => hf false x) _)) rfl rfl
  · exact sub_ok _ (fun x => hf false x) ok rfl
  · split
    · rename_i h
      exact callX_ok hr ok h.1 h.2.1 h.2.2
    · exact good_bad
  · exact methX_ok hr ok
  · exact comp_ok hr ok
  · exact good_wi le_dic0 rfl rfl
  · exact good_wi (le_dic1 (hf _ _).pe (hf _ _).pe) rfl rfl
  · exact dcomp_ok hr ok
  · exact good_bad
theorem cE_ok : ∀ n, RecOk T cl (cE n)
  | 0 => fun _ _ _ _ _ _ _ => good_bad
  | n + 1 => step_ok (cE_ok n)
end
end Mp
set_option Elab.async false
set_option linter.all false
set_option autoImplicit false
set_option maxRecDepth 100000
set_option maxHeartbeats 1000000
/-! Mp, part 16: statements, read and run -/
namespace Mp
open PySem PySem.Spec L2 GxR GxM
open PyProof.Rows hiding St

inductive S where
  | bad | skip | seq (a b : S) | set (i : Nat) (e : E) | tgt (t : Tg) (e : E) | par2 (i j : Nat) (e : E) | par3 (i j l : Nat) (e : E)
  | setIx (o i e : E) | setIx2 (o i : E) (j : Nat) (e : E) | aug (i : Nat) (o : Aop) (e : E) | drop (e : E) | ret (e : E) | retN | brk | cont
  | ife (c : E) (a b : S) | whl (n : Nat) (c : E) (b : S) | for_ (t : Tg) (it : E) (b : S)
section
variable (cl : Nat → List D → Hs → Rs)
def evS : S → FS
  | .bad => fun _ _ => none
  | .skip => skipS
  | .seq a b => seqS (evS a) (evS b)
  | .set i e => setS i (ev cl e).1
  | .tgt t e => tgtS t (ev cl e).1
  | .par2 i j e => par2S i j (ev cl e).1
  | .par3 i j l e => par3S i j l (ev cl e).1
  | .setIx o i e => setIxS (ev cl o).1 (ev cl i).1 (ev cl e).1
  | .setIx2 o i j e => setIx2S (ev cl o).1 (ev cl i).1 j (ev cl e).1
  | .aug i o e => augS i o (ev cl e).1
  | .drop e => dropS (ev cl e).1
  | .ret e => retS (ev cl e).1
  | .retN => fun _ G => some (.rt .non G)
  | .brk => fun ς G => some (.bk ς G)
  | .cont => fun ς G => some (.ct ς G)
  | .ife c a b => ifS (ev cl c).2 (evS a) (evS b)
  | .whl n c b => loopW (ev cl c).2 (evS b) n
  | .for_ t it b => forS t (ev cl it).1 (evS b)
end
def stoB (cc : CC) (y : Str) : Bool := decide (cc.names.lookup y = some .local ∨ (cc.names.lookup y = some .cell ∧ y ∈ cc.cells))
def aopOf : Operator → Option Aop
  | .Add => some .add | .Sub => some .sub | .Mult => some .mul
  | _ => none
theorem aopOf_py {op : Operator} {o : Aop} (h : aopOf op = some o) : o.py = op := by
  cases op <;> simp only [aopOf] at h <;> first | (cases h; rfl) | (cases h)
def fE : Nat := 30
def isLC : Expr → Bool
  | .ListComp .. => true
  | _ => false
def isMut (cc : CC) (y : Str) : Bool := match ixOf cc.N y with | some i => cc.muts.contains i | none => false
/-- name = e -/
def cSet (cc : CC) (y : Str) (py : Pos) (e : Expr) (pos : Pos) : S :=
  match ixOf cc.N y with
  | none => .bad
  | some i => if stoB cc y = true then
      (match e with
        | .ListComp elt [⟨tg, it, ifs, 0⟩] scope p =>
          if swapC cc.names scope y py.line p.line = true then (if cc.names.lookup y = some .local then .set i (cComp (cE fE) cc (isMut cc y) elt tg it ifs scope) else .bad)
          else .set i (cComp (cE fE) cc (isMut cc y) elt tg it ifs scope)
        | .DictComp kx elt [⟨tg, it, ifs, 0⟩] scope p => if swapC cc.names scope y py.line p.line = true then .bad else .set i (cDComp (cE fE) cc kx elt tg it ifs scope)
        | e => if isComp e = true then .bad else .set i (cE fE cc (isMut cc y) e))
    else .bad
/-- a, b = x, y: the stores from the right -/
def cPar (cc : CC) (ts vs : List Expr) : Option S := match ts, vs with
  | [.Name y py, .Name z pz], [a, b] =>
    (match ixOf cc.N y, ixOf cc.N z with
      | some i, some j => if cc.names.lookup y = some .local ∧ cc.names.lookup z = some .local ∧ py.line = pz.line ∧ y ≠ z ∧ i ≠ j ∧ isStar a = false ∧ isStar b = false ∧ [a, b].all (foldedForSure 8) = false ∧ [a, b].all (constantsAlone 8) = false then
          some (.par2 i j (.cons (cE fE cc (isMut cc y) a) (.cons (cE fE cc (isMut cc z) b) .nil))) else none
      | _, _ => none)
  | [.Name y py, .Name z pz, .Name u pu], [a, b, c] =>
    (match ixOf cc.N y, ixOf cc.N z, ixOf cc.N u with
      | some i, some j, some l => if cc.names.lookup y = some .local ∧ cc.names.lookup z = some .local ∧ cc.names.lookup u = some .local ∧ py.line = pz.line ∧ py.line = pu.line ∧ y ≠ z ∧ y ≠ u ∧ z ≠ u ∧ i ≠ j ∧ i ≠ l ∧ j ≠ l ∧ isStar a = false ∧ isStar b = false ∧ isStar c = false ∧
            [a, b, c].all (foldedForSure 8) = false ∧ [a, b, c].all (constantsAlone 8) = false then
          some (.par3 i j l (.cons (cE fE cc (isMut cc y) a) (.cons (cE fE cc (isMut cc z) b) (.cons (cE fE cc (isMut cc u) c) .nil)))) else none
      | _, _, _ => none)
  | _, _ => none
def isTup (x : Expr) : Bool := match x with | .Tuple .. => true | _ => false
/-- by its targets: is the thing for a slot that is written -/
def tupM (cc : CC) (f : Bool → Expr → E) : List Expr → List Expr → E
  | .Name y _ :: ts, v :: vs => if isStar v = true then .bad else .cons (f (isMut cc y) v) (tupM cc f ts vs)
  | _ :: ts, v :: vs => if isStar v = true then .bad else .cons (f false v) (tupM cc f ts vs)
  | _, [] => .nil
  | [], v :: vs => if isStar v = true then .bad else .cons (f false v) (tupM cc f [] vs)
def cTupO (cc : CC) (ts : List Expr) (k : Nat) (p : Pos) (e : Expr) : S :=
  match e with
  | .Tuple vs _ _ => match cPar cc ts vs with
    | some s => s
    | none => if vs.all (foldedForSure 8) = true ∨ ts.any (fun t => !localT cc.names t) = true then
        (match cTg cc 4 (.Tuple ts k p) with | some t => .tgt t (.tup (tupM cc (cE fE cc) ts vs)) | none => .bad) else .bad
  | e => if isComp e = true then .bad else match cTg cc 4 (.Tuple ts k p) with | some t => .tgt t (cE fE cc false e) | none => .bad
def cTup (cc : CC) (ts : List Expr) (k : Nat) (p : Pos) (e : Expr) : S :=
  match ts with
  | [.Subscript o i _, .Name z _] => (match ixOf cc.N z with
    | some j => if stoB cc z = true ∧ isComp e = false ∧ plainIxB i = true then .setIx2 (cE fE cc false o) (cE fE cc false i) j (cE fE cc false e) else .bad
    | none => .bad)
  | ts => cTupO cc ts k p e
def cS (cc : CC) : Nat → Stmt → S
  | 0, _ => .bad
  | n + 1, st => match st with
    | .Pass _ => .skip
    | .Break _ => .brk
    | .Continue _ => .cont
    | .Expr (.Constant (.str _) _ _) _ => .skip
    | .Expr e _ => if isComp e = true then .bad else .drop (cE fE cc false e)
    | .Return none _ => .retN
    | .Return (some e) _ => (match e with
        | .Name y p => if isMut cc y = true ∧ cc.retM = false ∧ okNm y = true ∧ visK (cc.names.lookup y) = true then (match ixOf cc.N y with | some i => .ret (.frz i) | none => .bad) else .ret (cE fE cc cc.retM (.Name y p))
        | e => .ret (cE fE cc cc.retM e))
    | .Assign [.Name y py] e pos => cSet cc y py e pos
    | .Assign [.Tuple ts k p] e _ => cTup cc ts k p e
    | .Assign [.Subscript o i _] e _ => if isComp e = true ∨ plainIxB i = false then .bad else .setIx (cE fE cc false o) (cE fE cc false i) (cE fE cc false e)
    | .AugAssign (.Name y _) op e _ => (match aopOf op, ixOf cc.N y with | some o, some i => if stoB cc y = true then .aug i o (cE fE cc false e) else .bad | _, _ => .bad)
    | .If c a b _ => .ife (cE fE cc false c) (a.foldr (fun s r => .seq (cS cc n s) r) .skip) (b.foldr (fun s r => .seq (cS cc n s) r) .skip)
    | .While c a [] _ => .whl 100000 (cE fE cc false c) (a.foldr (fun s r => .seq (cS cc n s) r) .skip)
    | .For tg it a [] _ => (match cTg cc 4 tg with | some t => if notSet it = true then .for_ t (cIter (cE fE) cc tg it) (a.foldr (fun s r => .seq (cS cc n s) r) .skip) else .bad | none => .bad)
    | _ => .bad
def cB (cc : CC) (n : Nat) (l : List Stmt) : S := l.foldr (fun s r => .seq (cS cc n s) r) .skip

variable {T : List Addr} {cl : Nat → List D → Hs → Rs} {X : Cx} {k r : Nat} {cc : CC}
theorem stoB_at (ok : XOk X T cl k r cc) {y : Str} (h : stoB cc y = true) : L2.Loc X.env.scope y ∧ (X.fn y = true ∨ X.env.scope.names.lookup y = some .local) := by
  have h := of_decide_eq_true h
  unfold L2.Loc
  rw [ok.look]
  exact ⟨h.imp id fun q => q.1, h.elim .inr fun q => .inl (ok.cells _ q.2)⟩
theorem set_ok (ok : XOk X T cl k r cc) {y : Str} {py : Pos} {e : Expr} {pos : Pos} : PS X (.Assign [.Name y py] e pos) (LS X.K T (evS cl (cSet cc y py e pos))) := by
  have hr := cE_ok (T := T) (cl := cl) fE
  have hf : ∀ m x, Good X T cl x (cE fE cc m x) := fun m x => hr X k r cc ok m x
  unfold cSet
  split
  · exact ls_bad
  · rename_i i hi
    have hN : X.N[i]? = some y := by rw [ok.N]; exact ixOf_get hi
    split
    · rename_i hs
      obtain ⟨l1, l2⟩ := stoB_at ok hs
      split
      · rename_i elt tg it ifs scope p
        have hsw := swaps_lc (elt := elt) (gs := [⟨tg, it, ifs, 0⟩]) (scope := scope) (pos := p) (py := py) (y := y) (line := pos.line) (env := X.env) (names := cc.names) ok.kind ok.names
        split
        · rename_i hc
          rw [hc] at hsw
          split
          · rename_i hl
            rcases comp_at (rec := cE fE) (cc := cc) (m := isMut cc y) (elt := elt) (tg := tg) (it := it) (ifs := ifs) (scope := scope) with h | ⟨t, ht, hb, hs', hix, h⟩
            · rw [h]; exact ls_bad.imp fun D σ H ⟨ι, F, ς, G, R, S, q⟩ => ⟨ι, F, ς, G, R, S, q⟩
            · rw [h]
              have blk : BlkOk X.N X.env.scope scope (ownOf cc.N scope.names) := by rw [ok.N]; exact blkB_ok (by rw [ok.names]; exact hb)
              exact ls_setLc (isMut cc y) ok.calm ok.nd hN (by rw [ok.look]; exact hl) hsw (iter_ok hr ok) blk (fun s H C cs fp => tg_ok (xok_comp ok hb s H C cs fp).tok 4 ht) (fun s H C cs fp => ifs_ok _ (fun x => hr _ k r _ (xok_comp ok hb s H C cs fp) false x) ifs)
                (fun s H C cs fp => (hr _ k r _ (xok_comp ok hb s H C cs fp) false elt).pe) (notSet_ok hs') hix
          · exact ls_bad
        · rename_i hc
          rw [show swapC cc.names scope y py.line p.line = false by simpa using hc] at hsw
          exact ls_set ok.nd hN l1 (comp_ok hr ok).pe hsw l2
      · rename_i kx elt tg it ifs scope p
        have hsw := swaps_dc (kx := kx) (elt := elt) (gs := [⟨tg, it, ifs, 0⟩]) (scope := scope) (pos := p) (py := py) (y := y) (line := pos.line) (env := X.env) (names := cc.names) ok.kind ok.names
        split
        · exact ls_bad
        · rename_i hc
          rw [show swapC cc.names scope y py.line p.line = false by simpa using hc] at hsw
          exact ls_set ok.nd hN l1 (dcomp_ok hr ok).pe hsw l2
      · split
        · exact ls_bad
        · rename_i hc
          exact ls_set ok.nd hN l1 (hf _ _).pe (swaps_no (by simpa using hc)) l2
    · exact ls_bad
theorem tupM_ok (ok : XOk X T cl k r cc) {f : Bool → Expr → E} (hf : ∀ m x, Good X T cl x (f m x)) : ∀ (ts vs : List Expr), PA X vs (LA X.K T (ev cl (tupM cc f ts vs)).1)
  | ts, [] => by
    have : tupM cc f ts [] = .nil := by cases ts with | nil => rfl | cons t r => cases t <;> rfl
    rw [this]; exact la_nil
  | [], v :: vs => by
    unfold tupM
    split
    · exact pa_no fun _ _ => rfl
    · rename_i h
      exact la_cons (hf _ v).pe (tupM_ok ok hf [] vs) (star_1 (by simpa using h))
  | t :: ts, v :: vs => by
    have ih := tupM_ok ok hf ts vs
    unfold tupM
    split
    · rename_i h0 h1
      split
      · exact pa_no fun _ _ => rfl
      · rename_i h
        cases h0; cases h1
        exact la_cons (hf _ v).pe ih (star_1 (by simpa using h))
    · rename_i h0 h1
      split
      · exact pa_no fun _ _ => rfl
      · rename_i h
        cases h0; cases h1
        exact la_cons (hf _ v).pe ih (star_1 (by simpa using h))
    · rename_i h1; cases h1
    · rename_i h0 h1; cases h0
theorem sole_no {t x : Expr} {line : Nat} {env : Env} (h : isComp x = false) : swapsWithSole [t] x line env = pure false := swaps_no h
theorem par_ok (ok : XOk X T cl k r cc) {ts vs : List Expr} {s : S} {kt k2 : Nat} {pt pt2 pos : Pos} (h : cPar cc ts vs = some s) : PS X (.Assign [.Tuple ts kt pt] (.Tuple vs k2 pt2) pos) (LS X.K T (evS cl s)) := by
  have hf : ∀ m x, Good X T cl x (cE fE cc m x) := fun m x => cE_ok fE X k r cc ok m x
  unfold cPar at h
  split at h
  · split at h
    · rename_i i j hi hj
      split at h
      · rename_i hc
        cases h
        obtain ⟨c1, c2, c3, c4, c5, c6, c7, c8, c9⟩ := hc
        exact ls_par2 ok.calm ok.nd (by rw [ok.N]; exact ixOf_get hi) (by rw [ok.N]; exact ixOf_get hj) c5 (by rw [ok.look]; exact c1) (by rw [ok.look]; exact c2)
          (la_cons (hf _ _).pe (la_cons (hf _ _).pe la_nil (star_1 c7)) (star_1 c6)) (swapped_2 ok.kind (by rw [ok.names]; exact c1) (by rw [ok.names]; exact c2) c3 c4 c6 c7 c8 c9)
      · cases h
    · cases h
  · split at h
    · rename_i i j l hi hj hl
      split at h
      · rename_i hc
        cases h
        obtain ⟨c1, c2, c3, c4, c5, c6, c7, c8, c9, c10, c11, c12, c13, c14, c15, c16⟩ := hc
        exact ls_par3 ok.calm ok.nd (by rw [ok.N]; exact ixOf_get hi) (by rw [ok.N]; exact ixOf_get hj) (by rw [ok.N]; exact ixOf_get hl) c9 c10 c11 (by rw [ok.look]; exact c1) (by rw [ok.look]; exact c2) (by rw [ok.look]; exact c3)
          (la_cons (hf _ _).pe (la_cons (hf _ _).pe (la_cons (hf _ _).pe la_nil (star_1 c14)) (star_1 c13)) (star_1 c12)) (swapped_3 ok.kind (by rw [ok.names]; exact c1) (by rw [ok.names]; exact c2) (by rw [ok.names]; exact c3) c4 c5 c6 c7 c8 c12 c13 c14 c15 c16)
      · cases h
    · cases h
  · cases h
theorem tupO_ok (ok : XOk X T cl k r cc) {ts : List Expr} {kt : Nat} {p pos : Pos} {e : Expr} : PS X (.Assign [.Tuple ts kt p] e pos) (LS X.K T (evS cl (cTupO cc ts kt p e))) := by
  have hf : ∀ m x, Good X T cl x (cE fE cc m x) := fun m x => cE_ok fE X k r cc ok m x
  unfold cTupO
  split
  · split
    · rename_i s hs
      exact par_ok ok hs
    · split
      · rename_i hc
        split
        · rename_i t ht
          refine ls_tgt (le_tup (tupM_ok ok hf _ _)) (tg_ok ok.tok 4 ht) (sole_no rfl) ?_ rfl
          rcases hc with hc | hc
          · exact swapped_const hc
          · exact swapped_left ok.names hc
        · exact ls_bad
      · exact ls_bad
  · rename_i hne
    split
    · exact ls_bad
    · rename_i hc
      have hc : isComp e = false := by simpa using hc
      split
      · rename_i t ht
        refine ls_tgt (hf _ _).pe (tg_ok ok.tok 4 ht) (sole_no hc) (swapped_no ?_) rfl
        cases e <;> first | rfl | exact absurd rfl (hne _ _ _)
      · exact ls_bad
theorem tup_ok (ok : XOk X T cl k r cc) {ts : List Expr} {kt : Nat} {p pos : Pos} {e : Expr} : PS X (.Assign [.Tuple ts kt p] e pos) (LS X.K T (evS cl (cTup cc ts kt p e))) := by
  have hf : ∀ m x, Good X T cl x (cE fE cc m x) := fun m x => cE_ok fE X k r cc ok m x
  unfold cTup
  split
  · rename_i oE iE p1 z p2
    split
    · rename_i j hj
      split
      · rename_i h
        obtain ⟨h1, h2, h3⟩ := h
        obtain ⟨l1, l2⟩ := stoB_at ok h1
        refine ls_setIx2 ok.calm ok.hu ok.nd (by rw [ok.N]; exact ixOf_get hj) l1 l2 (hf _ _).pe (hf _ _).pe (hf _ _).pe (fun v => ?_) (sole_no h2) ?_
        · cases iE <;> first | rfl | (cases h3)
        · by_cases ht : isTup e = true
          · cases e <;> first | (cases ht; done) | skip
            exact swapped_left ok.names (by simp [localT])
          · refine swapped_no ?_
            cases e <;> first | rfl | exact absurd rfl ht
      · exact ls_bad
    · exact ls_bad
  · exact tupO_ok ok
theorem blk_ok {f : Stmt → S} (hf : ∀ st, PS X st (LS X.K T (evS cl (f st)))) : ∀ l : List Stmt, PSs X l (LS X.K T (evS cl (l.foldr (fun s r => .seq (f s) r) .skip)))
  | [] => ls_nil
  | s :: l => ls_cons (hf s) (blk_ok hf l)
theorem cS_ok (ok : XOk X T cl k r cc) (hp : PassesOwn (model X.prog X.w) X.A X.env X.xe) : ∀ (n : Nat) (st : Stmt), PS X st (LS X.K T (evS cl (cS cc n st)))
  | 0, _ => ls_bad
  | n + 1, st => by
    have hr := cE_ok (T := T) (cl := cl) fE
    have hf : ∀ m x, Good X T cl x (cE fE cc m x) := fun m x => hr X k r cc ok m x
    have hb : ∀ l : List Stmt, PSs X l (LS X.K T (evS cl (l.foldr (fun s r => .seq (cS cc n s) r) .skip))) := blk_ok fun st => cS_ok ok hp n st
    unfold cS
    split
    · exact ls_pass
    · exact ls_break
    · exact ls_cont
    · exact ls_doc
    · split
      · exact ls_bad
      · rename_i h
        exact ls_expr (hf _ _).pe (swaps_no (by simpa using h))
    · exact ls_retN
    · split
      · split
        · rename_i h
          obtain ⟨h1, h2, h3, h4⟩ := h
          obtain ⟨n1, n2, n3⟩ := okNm_at h3
          split
          · rename_i i hi
            exact ls_ret (le_frz (by rw [ok.N]; exact ixOf_get hi) (ok.vis h4) n1 n2)
          · exact ls_bad
        · exact ls_ret (hf _ _).pe
      · exact ls_ret (hf _ _).pe
    · exact set_ok ok
    · exact tup_ok ok
    · split
      · exact ls_bad
      · rename_i h
        rw [not_or] at h
        have hc := h.1
        have hi := h.2
        rename_i oE iE _ eE _
        have hi : plainIxB iE = true := by simpa using hi
        refine ls_setIx ok.hu (hf _ _).pe (hf _ _).pe (hf _ _).pe (fun v => ?_) (sole_no (by simpa using hc))
        cases iE <;> first | rfl | (cases hi)
    · split
      · rename_i o i ho hi
        have e := aopOf_py ho
        subst e
        split
        · rename_i hs
          obtain ⟨l1, l2⟩ := stoB_at ok hs
          exact ls_aug o ok.nd (by rw [ok.N]; exact ixOf_get hi) l1 (hf _ _).pe l2
        · exact ls_bad
      · exact ls_bad
    · exact ls_if (hf _ _).pt (hb _) (hb _)
    · exact ls_while _ hp (hf _ _).pt (hb _)
    · split
      · rename_i t ht
        split
        · rename_i hs
          exact ls_for hp ok.calm (iter_ok hr ok) (tg_ok ok.tok 4 ht) (hb _) (notSet_ok hs)
        · exact ls_bad
      · exact ls_bad
    · exact ls_bad
theorem cB_ok (ok : XOk X T cl k r cc) (hp : PassesOwn (model X.prog X.w) X.A X.env X.xe) (n : Nat) (l : List Stmt) : PSs X l (LS X.K T (evS cl (cB cc n l))) := blk_ok (fun st => cS_ok ok hp n st) l
end Mp
set_option Elab.async false
set_option linter.all false
set_option autoImplicit false
set_option maxRecDepth 100000
set_option maxHeartbeats 1000000
/-! Mp, part 17: defs and their calls -/
namespace Mp
open PySem PySem.Spec L2 GxR GxM
open PyProof.Rows hiding St

/-- a def: its name, its text, its slots (the parameters first), how many parameters, the slots whose lists are written, does it hand out such a list, has it generator expressions -/
structure Def where
  name : Str
  st : Stmt
  N : List Str
  np : Nat
  muts : List Nat := []
  retM : Bool := false
  tab : Bool := false
def Def.ps (d : Def) : List Str := d.N.take d.np
def funsOf (ds : List Def) : List (Str × Nat × Nat) := ds.zipIdx.map fun q => (q.1.name, q.2, q.1.np)
def ccOf (consts : List (Str × D)) (ds : List Def) (d : Def) : CC :=
  { N := d.N, names := (defScope d.st).names, cells := cellsOf (defScope d.st).names, consts := consts, funs := funsOf ds, muts := d.muts, retM := d.retM, tab := d.tab }
abbrev Tb := Nat → Option (Nat × Nat × S)
def tbOf (consts : List (Str × D)) (ds : List Def) : Tb := fun j => (ds[j]?).map fun d => (d.np, d.N.length, cB (ccOf consts ds d) 20 (defBody d.st))
def outD : Res → Rs
  | .rt d G => some (d, G)
  | .nx _ G => some (.non, G)
  | _ => none
def callF (tb : Tb) : Nat → Nat → List D → Hs → Rs
  | 0, _, _, _ => none
  | n + 1, f, ds, G => (tb f).bind fun q => if ds.length = q.1 then (evS (callF tb n) q.2.2 (ds.map some ++ List.replicate (q.2.1 - q.1) none) G).bind outD else none

/-- what is known of a def's text -/
structure DefOk (d : Def) : Prop where
  sc : FnScope d.N d.ps (defScope d.st)
  np : d.np ≤ d.N.length
  bind : ∀ (kV doc pm : Value) (an : Option Addr) (cdv ct : Value) (us : List Value), us.length = d.ps.length →
    bindArgs (PySem.W.fnOf d.name d.name (defArgs d.st) (defBody d.st) (defScope d.st) .none kV doc pm an cdv ct) ⟨us, []⟩ = pure (d.ps.zip us)
structure PF (K : PySem.W.Frag) (mg : Str → Option Value) (base : Heap) (T : List Addr) (consts : List (Str × D)) (ds : List Def) (fa : Def → Addr) (fdF : Def → FuncData) : Prop where
  fn : ∀ d ∈ ds, FunD K d.name d.name (defArgs d.st) (defBody d.st) (defScope d.st) [] [] (fa d) (fdF d) ∧ mg d.name = some (.ref (fa d)) ∧ (d.tab = true → ∃ c P, (fdF d).code = .ref c ∧ P ∈ T ∧ TabB base mg c P)
  blt : ∀ x ∈ usedB, mg x = none
  consts : ∀ p ∈ consts, ∃ u v, mg p.1 = some u ∧ RelV v u ∧ CV p.2 v

variable {P : Program} {w : World} {K : PySem.W.Frag} {mg : Str → Option Value} {base : Heap} {T : List Addr} {consts : List (Str × D)} {ds : List Def}
theorem rs_start {w' : Wd} : ∀ {as : List D} {vs : List V}, RVs K w' as vs → ∀ n, RS K w' (as.map some ++ List.replicate n none) (vs.map some ++ List.replicate n none) := by
  intro as vs r n
  refine ⟨by simp [r.len], fun i d e => ?_⟩
  by_cases hi : i < as.length
  · rw [List.getElem?_append_left (by simpa using hi), List.getElem?_map] at e
    cases ea : as[i]? with
    | none => rw [ea] at e; cases e
    | some a =>
      rw [ea] at e
      have e : some (some a) = some (some d) := e
      cases e
      obtain ⟨v, ev, rv⟩ := r.get ea
      refine ⟨v, ?_, rv⟩
      rw [List.getElem?_append_left (by rw [List.length_map, ← r.len]; exact hi), List.getElem?_map, ev]; rfl
  · rw [List.getElem?_append_right (by simpa using hi), List.getElem?_replicate] at e
    split at e
    · cases e
    · cases e
theorem fns_ok {fa : Def → Addr} {fdF : Def → FuncData} (F : PF K mg base T consts ds fa fdF) (hd : ∀ d ∈ ds, DefOk d) : ∀ (n j : Nat) d, ds[j]? = some d → FnOk P w K mg base CX0 (3 * n) (fa d) (fdF d) d.ps (spD K T d.np (callF (tbOf consts ds) n j)) ∧ mg d.name = some (.ref (fa d)) ∧ PySem.W.keepIn K (.ref (fa d)) = true ∧ Binds K (fdF d) d.ps []
  | n, j, d, hj => by
    obtain ⟨FD, hm, htab⟩ := F.fn d (List.mem_of_getElem? hj)
    have dok := hd d (List.mem_of_getElem? hj)
    generalize fa d = f at *
    generalize fdF d = fd at *
    have hps : d.ps.length = d.np := by unfold Def.ps; rw [List.length_take]; exact Nat.min_eq_left dok.np
    have hb : Binds K fd d.ps [] := FD.bindsN dok.bind
    have hk := FD.kp
    obtain ⟨oc, od, dV, kV, doc, pm, an, cdv, ct, osl, rfl, lk, hcd, hD, hK⟩ := FD.ex
    refine ⟨?_, hm, hk, hb⟩
    cases n with
    | zero =>
      refine ⟨fun vs H Q E h => by rw [hps]; exact h.1, fun A outer s H args us vs Q E hr he hbd hv h => ?_⟩
      obtain ⟨_, ι, Fz, G, as, R, r, q⟩ := h
      exact q.no
    | succ n =>
      show FnOk P w K mg base CX0 (3 * n + 2 + 1) _ _ _ _
      refine fn_of lk hcd dok.sc (fun vs H Q E h => by rw [hps]; exact h.1) fun A outer s H vs Q E hr hsp => ?_
      obtain ⟨hl, ι, Fz, G, as, R, r, q⟩ := hsp
      have ok : XOk (cxOf CX0 P w K mg base d.N d.name (defScope d.st) f cdv A outer s H E).nox T (callF (tbOf consts ds) n) (3 * n) (3 * n + 2) (ccOf consts ds d) :=
        { N := rfl, nd := dok.sc.nd, names := rfl, kind := dok.sc.kind, calm := rfl, room := hr, le := Nat.le_add_right _ _, cells := fun _ _ => rfl, blt := F.blt, consts := F.consts
          funs := fun p hp => by
            obtain ⟨q, hq, rfl⟩ := List.mem_map.mp hp
            obtain ⟨e, i⟩ := q
            have hq' := List.mem_zipIdx_iff_getElem?.mp hq
            obtain ⟨F1, F2, F3, F4⟩ := fns_ok F hd n i e hq'
            exact ⟨_, _, e.ps, F1, F2, F3, F4⟩
          tab := fun ht => by
            obtain ⟨c, Pz, e1, e2, e3⟩ := htab ht
            exact ⟨Nat.le_refl _, c, Pz, e3, e1, e2⟩ }
      refine ⟨_, (cB_ok ok PassesOwn.never 20 (defBody d.st)).nox, ι, Fz, as.map some ++ List.replicate (d.N.length - d.np) none, G, R, ?_, ?_⟩
      · have := rs_start r (d.N.length - d.np)
        rw [show L2.start d.N vs = vs.map some ++ List.replicate (d.N.length - d.np) none from by unfold L2.start; rw [hl]]
        exact this
      · have e1 : tbOf consts ds j = some (d.np, d.N.length, cB (ccOf consts ds d) 20 (defBody d.st)) := by unfold tbOf; rw [hj]; rfl
        have q : Lift K T ⟨ι, Fz, H⟩ (callF (tbOf consts ds) (n + 1) j as G) Q := q
        have hal : as.length = d.np := by rw [r.len]; exact hl
        simp only [callF, e1, Option.bind_some, hal, if_true] at q
        cases eo : evS (callF (tbOf consts ds) n) (cB (ccOf consts ds d) 20 (defBody d.st)) (as.map some ++ List.replicate (d.N.length - d.np) none) G with
        | none => rw [eo] at q; exact q.no
        | some o =>
          rw [eo] at q
          refine ⟨o, rfl, ?_⟩
          cases o with
          | nx ς' G' => exact fun w' σ' x R' S' => q.to x R' rfl
          | rt dr G' => exact fun w' v x R' r' => q.to x R' r'
          | bk ς' G' => exact q.no
          | ct ς' G' => exact q.no
end Mp
set_option Elab.async false
set_option linter.all false
set_option autoImplicit false
set_option maxRecDepth 100000
set_option maxHeartbeats 1000000
/-! Mp, part 18: the end: a law's def, from what the head tells -/
namespace Mp
open PySem PySem.Spec L2 GxR GxM
open PyProof.Rows hiding St

def fnD (d : Def) : He.DefD := ⟨(d.name, none), d.name, d.name, defArgs d.st, defBody d.st, defScope d.st, [], []⟩
def faC : Str × D → He.Fa
  | (x, .int i) => .int x i
  | (x, .str cs) => .str x ⟨cs.toArray⟩
  | (x, _) => .free x
def faOf (consts : List (Str × D)) (ds : List Def) : List He.Fa := ds.map (fun d => .glo d.name) ++ (usedB.map .free ++ consts.map faC)
def tfOf (ds : List Def) : List He.Defn := (ds.filter (·.tab)).map fun d => (d.name, none)
/-- the constants are ints and texts -/
def cOk (consts : List (Str × D)) : Bool := consts.all fun p => match p.2 with | .int _ => true | .str _ => true | _ => false

variable {K : PySem.W.Frag} {mg : Str → Option Value} {consts : List (Str × D)} {ds : List Def} {w : World} {h : Heap}
theorem faC_ok (X : K.In h) (G : h.Ns mainGlobals mg) {p : Str × D} (hc : (match p.2 with | .int _ => true | .str _ => true | _ => false) = true) (c : (faC p).ok K = true) : ∃ u v, mg p.1 = some u ∧ RelV v u ∧ CV p.2 v := by
  obtain ⟨x, d⟩ := p
  cases d with
  | int i => obtain ⟨t, e⟩ := He.int_ok X G c; exact ⟨_, .int i, e, ⟨t, rfl⟩, .int i⟩
  | str cs => obtain ⟨t, e⟩ := He.str_ok X G c; exact ⟨_, .str ⟨cs.toArray⟩, e, ⟨t, rfl⟩, .str cs⟩
  | _ => cases hc
theorem intsRv {w' : Wd} : ∀ l : List Int, RVs K w' (l.map D.int) (l.map V.int)
  | [] => rfl
  | x :: r => ⟨_, _, rfl, rfl, intsRv r⟩
theorem law_end {l : PySem.W.OpenLaw} {fa : Addr} {ex : PySem.W.Frag → Bool} {jl : Nat} {dl : Def} {x : Str} {n0 : Nat} (hj : ds[jl]? = some dl) (hps : dl.ps = [x]) (hnp : dl.np = 1)
    (X : K.In h) (G : h.Ns mainGlobals mg) (hfa : mg dl.name = some (.ref fa)) (c : He.SaysX (faOf consts ds) (ds.map fnD) [] (tfOf ds) ex w h K) (hc : cOk consts = true) (hd : ∀ d ∈ ds, DefOk d)
    (hrun : ∀ mk : List D → D, (mk = .lst ∨ mk = .fz) → ∀ ns : List Int, ns.length ≤ 63 → (∀ z ∈ ns, Builtin.Int.intBits z ≤ 1048576) → ∃ G', callF (tbOf consts ds) n0 jl [mk (ns.map .int)] [] = some (.bl true, G')) :
    LamX.LawAtS l w K CX0 (3 * n0) 63 x mg fa h := by
  have cd : He.SaysD (faOf consts ds) (ds.map fnD) K := c.t.d
  have mem : dl ∈ ds := List.mem_of_getElem? hj
  have each : ∀ d : Def, d ∈ ds → ∃ fd, FunD K d.name d.name (defArgs d.st) (defBody d.st) (defScope d.st) [] [] (He.ga K d.name) fd := fun d hm => cd.defs (d := fnD d) (List.mem_map.mpr ⟨d, hm, rfl⟩)
  obtain ⟨fdl, _⟩ := each dl mem
  have each' : ∀ d : Def, ∃ fd, d ∈ ds → FunD K d.name d.name (defArgs d.st) (defBody d.st) (defScope d.st) [] [] (He.ga K d.name) fd := fun d => by
    by_cases hm : d ∈ ds
    · obtain ⟨fd, q⟩ := each d hm; exact ⟨fd, fun _ => q⟩
    · exact ⟨fdl, fun q => absurd q hm⟩
  obtain ⟨fdF, hF⟩ := Classical.axiomOfChoice each'
  have glo : ∀ {h' : Heap}, K.In h' → h'.Ns mainGlobals mg → ∀ d ∈ ds, mg d.name = some (.ref (He.ga K d.name)) := fun X' G' d hm => He.glo_ok X' G' (cd.facts (f := .glo d.name) (List.mem_append_left _ (List.mem_map.mpr ⟨d, hm, rfl⟩)))
  have efa : fa = He.ga K dl.name := by
    have e := glo X G dl mem
    rw [hfa] at e; cases e; rfl
  have dok := hd dl mem
  have bindl := FunD.bindsA (ps := dl.ps) (hF dl mem) dok.bind
  refine ⟨fdF dl, (tfOf ds).map (He.cT K), spD K (((tfOf ds).map (He.cT K)).map (·.2)) 1 (callF (tbOf consts ds) n0 jl), ?_, ?_, ?_, ?_, ?_, ?_⟩
  · intro p hp
    obtain ⟨q, hq, rfl⟩ := List.mem_map.mp hp
    exact c.empty q hq
  · intro p hp
    obtain ⟨q, hq, rfl⟩ := List.mem_map.mp hp
    exact c.out q hq
  · intro p hp
    obtain ⟨q, hq, rfl⟩ := List.mem_map.mp hp
    exact PySem.W.codeHd_of_K X (c.hd q hq)
  · intro s u
    have := bindl s [u] (by rw [hps]; rfl)
    rw [hps] at this
    exact this
  · intro H a ns hlen hbits hT hS
    have tabs : ∀ P ∈ ((tfOf ds).map (He.cT K)).map (·.2), TabG H P := fun P hP => by
      obtain ⟨p, hp, rfl⟩ := List.mem_map.mp hP
      exact ⟨#[], hT p hp, trivial⟩
    have rvs : ∀ (w' : Wd) (l : List Int), RVs K w' (l.map .int) (l.map V.int) := fun w' l => intsRv l
    refine ⟨rfl, ?_⟩
    rcases hS with (hS | ⟨o, hS⟩) | hS
    · obtain ⟨G', e⟩ := hrun .lst (.inl rfl) ns hlen hbits
      refine ⟨[], fun b => b = a, [], [.lst (ns.map .int)], ⟨rfl, .nil, fun n c b e => by simp at e, fun b hb => by rw [hb]; show H a ≠ none; rw [hS]; simp, fun b hb => absurd hb List.not_mem_nil, tabs⟩, ⟨_, [], rfl, ⟨a, _, rfl, ⟨rfl, hS⟩, rvs _ _⟩, rfl⟩, .bl true, G', e, fun w' v x R r => r⟩
    · obtain ⟨G', e⟩ := hrun .fz (.inr rfl) ns hlen hbits
      refine ⟨[], fun _ => False, [], [.fz (ns.map .int)], ⟨rfl, .nil, fun n c b e => by simp at e, fun b hb => hb.elim, fun b hb => absurd hb List.not_mem_nil, tabs⟩, ⟨_, [], rfl, ⟨a, _, rfl, .inl ⟨o, hS⟩, rvs _ _⟩, rfl⟩, .bl true, G', e, fun w' v x R r => r⟩
    · obtain ⟨G', e⟩ := hrun .fz (.inr rfl) ns hlen hbits
      refine ⟨[], fun _ => False, [], [.fz (ns.map .int)], ⟨rfl, .nil, fun n c b e => by simp at e, fun b hb => hb.elim, fun b hb => absurd hb List.not_mem_nil, tabs⟩, ⟨_, [], rfl, ⟨a, _, rfl, .inr hS, rvs _ _⟩, rfl⟩, .bl true, G', e, fun w' v x R r => r⟩
  · intro base KB GB TB
    have F : PF K mg base (((tfOf ds).map (He.cT K)).map (·.2)) consts ds (fun d => He.ga K d.name) fdF := by
      refine ⟨fun d hm => ⟨hF d hm, glo KB GB d hm, fun ht => ?_⟩, fun y hy => ?_, fun p hp => ?_⟩
      · have hq : ((d.name, none) : He.Defn) ∈ tfOf ds := List.mem_map.mpr ⟨d, List.mem_filter.mpr ⟨hm, ht⟩, rfl⟩
        obtain ⟨oc, od, dV, kV, doc, pm, an, cdv, ct, osl, efd, lk, hcd, _, _⟩ := (hF d hm).ex
        obtain ⟨cc, rfl⟩ := He.codeIn_ref hcd
        have e1 : He.codeOf K (d.name, none) = cc := He.codeOf_eq (p := (d.name, none)) lk (by rw [efd])
        have hm2 : He.cT K (d.name, none) ∈ (tfOf ds).map (He.cT K) := List.mem_map.mpr ⟨_, hq, rfl⟩
        have tb := TB _ hm2
        refine ⟨cc, (He.cT K (d.name, none)).2, by rw [efd], List.mem_map.mpr ⟨_, hm2, rfl⟩, ?_⟩
        have e2 : (He.cT K (d.name, none)).1 = cc := e1
        rw [e2] at tb
        exact ⟨tb.1, tb.2, tb.3⟩
      · exact He.free_ok KB GB (cd.facts (f := .free y) (List.mem_append_right _ (List.mem_append_left _ (List.mem_map.mpr ⟨y, hy, rfl⟩))))
      · refine faC_ok KB GB ?_ (cd.facts (f := faC p) (List.mem_append_right _ (List.mem_append_right _ (List.mem_map.mpr ⟨p, hp, rfl⟩))))
        exact List.all_eq_true.mp hc p hp
    obtain ⟨F1, _⟩ := fns_ok (P := l.prog) (w := w) F hd n0 jl dl hj
    rw [hps, hnp] at F1
    rw [efa]
    exact F1
end Mp
set_option Elab.async false
set_option linter.all false
set_option autoImplicit false
set_option maxRecDepth 100000
set_option maxHeartbeats 0
namespace K14
open PySem PySem.Spec L2 Mp
open PyProof.Rows hiding St
def topS (i : Nat) : Stmt := PySem.Challenge.pw_editsagree_k14_whole_signs_put_in_order.main.body.getD i (.Pass ⟨0, 0, 0, 0⟩)
def consts : List (Str × D) := [("MOST_SIGNS", .int 2000), ("MOST_EDITS", .int 200), ("FIRST_SIGN", .str [32]), ("LAST_SIGN", .str [126]), ("LINE_END", .str [10]), ("MOST_CELLS", .int 60000), ("MOST_LEAF", .int 16), ("LEAF", .str [108, 101, 97, 102]), ("PAIR", .str [112, 97, 105, 114]), ("LETTERS", .str [97, 98, 99, 100, 101, 102, 103, 104, 105, 106, 107, 108, 109, 110, 111, 112, 113, 114, 115, 116, 117, 118, 119, 120, 121, 122]), ("GREAT", .str [65, 66, 67, 68, 69, 70, 71, 72, 73, 74, 75, 76, 77, 78, 79, 80, 81, 82, 83, 84, 85, 86, 87, 88, 89, 90])]
def d0 : Def := { name := "is_number", st := topS 5, N := ["value", "least", "most"], np := 3 }
def d1 : Def := { name := "is_signs", st := topS 12, N := ["value", "sign"], np := 1, tab := true }
def d2 : Def := { name := "is_text", st := topS 13, N := ["value"], np := 1 }
def d3 : Def := { name := "is_change", st := topS 14, N := ["text", "value"], np := 2 }
def d4 : Def := { name := "is_edit", st := topS 15, N := ["text", "value"], np := 2 }
def d5 : Def := { name := "put_in", st := topS 16, N := ["text", "edit", "place", "gone", "come"], np := 2 }
def d6 : Def := { name := "slid", st := topS 34, N := ["old", "new", "here", "line"], np := 4 }
def d7 : Def := { name := "lines_in", st := topS 35, N := ["old", "new", "cost", "lines", "line"], np := 3 }
def d8 : Def := { name := "common_ahead", st := topS 17, N := ["old", "new", "found"], np := 2 }
def d9 : Def := { name := "common_behind", st := topS 18, N := ["old", "new", "most", "found"], np := 3 }
def d10 : Def := { name := "between", st := topS 19, N := ["old", "new", "ahead", "behind"], np := 2 }
def d11 : Def := { name := "reached", st := topS 36, N := ["old", "new", "ahead", "line", "ways"], np := 4, muts := [4] }
def d12 : Def := { name := "are_edits", st := topS 20, N := ["text", "value", "one", "at", "_", "gone", "come"], np := 2, tab := true }
def d13 : Def := { name := "check_edits", st := topS 21, N := ["text", "edits"], np := 2 }
def d14 : Def := { name := "all_applied", st := topS 22, N := ["text", "edits", "edit"], np := 2 }
def d15 : Def := { name := "in_turn", st := topS 23, N := ["text", "edits", "found", "more", "place", "gone", "come"], np := 2, muts := [2] }
def d16 : Def := { name := "all_inverse", st := topS 24, N := ["text", "edits", "found", "place", "_", "come", "old", "gone"], np := 2, muts := [2] }
def d17 : Def := { name := "paper_of", st := topS 37, N := ["old", "new", "cost", "found", "ahead", "spent", "line"], np := 2, muts := [3] }
def d18 : Def := { name := "is_row", st := topS 38, N := ["old", "new", "cost", "value", "pair", "line", "here"], np := 4, tab := true }
def d19 : Def := { name := "proves_least", st := topS 39, N := ["old", "new", "edits", "paper", "cost", "ahead", "spent", "row", "here", "line", "due"], np := 4 }
def d20 : Def := { name := "leaf_of", st := topS 46, N := ["signs"], np := 1 }
def d21 : Def := { name := "long_of", st := topS 47, N := ["pieces"], np := 1 }
def d22 : Def := { name := "ends_of", st := topS 48, N := ["pieces"], np := 1 }
def d23 : Def := { name := "deep_of", st := topS 49, N := ["pieces"], np := 1 }
def d24 : Def := { name := "pair_of", st := topS 50, N := ["left", "right", "deep"], np := 2 }
def d25 : Def := { name := "evened", st := topS 51, N := ["left", "right", "inner"], np := 2 }
def d26 : Def := { name := "put_together", st := topS 52, N := ["left", "right"], np := 2 }
def d27 : Def := { name := "parted", st := topS 53, N := ["pieces", "place", "_", "left", "right", "first", "second"], np := 2 }
def d28 : Def := { name := "hold_of", st := topS 41, N := ["text", "edits", "found", "more", "at", "place", "gone", "come", "old"], np := 2, muts := [2] }
def d29 : Def := { name := "cost_of", st := topS 27, N := ["edits", "_", "gone", "come"], np := 1 }
def d30 : Def := { name := "cost_rows", st := topS 28, N := ["old", "new", "last", "found", "sign", "row", "at"], np := 2, muts := [3, 5] }
def d31 : Def := { name := "steps_of", st := topS 29, N := ["old", "new", "rows", "found", "here", "there", "goes"], np := 2, muts := [3] }
def d32 : Def := { name := "edits_by", st := topS 30, N := ["steps", "new", "more", "found", "here", "there", "goes", "place", "gone", "come", "sign"], np := 3, muts := [3] }
def d33 : Def := { name := "middle_of", st := topS 31, N := ["old", "new", "place", "gone", "come"], np := 2 }
def d34 : Def := { name := "least_edits", st := topS 32, N := ["old", "new", "first", "second", "place", "found"], np := 2 }
def d35 : Def := { name := "least_cost", st := topS 33, N := ["old", "new"], np := 2 }
def d36 : Def := { name := "_law_draws", st := topS 68, N := ["script", "draws", "cell", "number", "first", "k", "seed"], np := 1, muts := [1], retM := true }
def d37 : Def := { name := "_law_take", st := topS 69, N := ["draws", "bound"], np := 2 }
def d38 : Def := { name := "_law_alike", st := topS 70, N := ["found", "due", "k"], np := 2 }
def d39 : Def := { name := "made_of", st := topS 54, N := ["signs", "half"], np := 1 }
def d40 : Def := { name := "pieces_of", st := topS 55, N := ["text"], np := 1 }
def d41 : Def := { name := "text_of", st := topS 56, N := ["pieces", "found", "left", "one"], np := 1, muts := [1, 2] }
def d42 : Def := { name := "edited", st := topS 57, N := ["pieces", "edit", "place", "gone", "come", "first", "rest"], np := 2 }
def d43 : Def := { name := "small", st := topS 62, N := ["text", "sign"], np := 1 }
def d44 : Def := { name := "borders_of", st := topS 63, N := ["signs", "found", "long", "at"], np := 1, muts := [1] }
def d45 : Def := { name := "places_of", st := topS 64, N := ["text", "signs", "borders", "found", "long", "at", "sign"], np := 2, muts := [3] }
def d46 : Def := { name := "is_alone", st := topS 65, N := ["text", "place", "long", "first", "last"], np := 3 }
def d47 : Def := { name := "finds", st := topS 66, N := ["text", "needle", "signs", "whole", "sized", "found", "place"], np := 2 }
def d48 : Def := { name := "_law_shuffled", st := topS 71, N := ["draws", "rows", "left", "found"], np := 2, muts := [2, 3] }
def d49 : Def := { name := "_law_table", st := topS 72, N := ["row", "lines", "number", "k", "greater", "one", "there"], np := 1, muts := [1] }
def d50 : Def := { name := "_law_up", st := topS 73, N := ["row", "lines"], np := 1 }
def d51 : Def := { name := "_law_led", st := topS 74, N := ["text", "other", "many", "edits", "n", "held", "pair", "k", "leaves", "edit", "paper"], np := 3 }
def d52 : Def := { name := "law", st := topS 75, N := ["script", "draws", "turn", "n", "signs", "orders", "texts", "k", "order", "straight", "contrary", "up", "down", "places", "common", "turned_order"], np := 1 }
def defs : List Def := [d0, d1, d2, d3, d4, d5, d6, d7, d8, d9, d10, d11, d12, d13, d14, d15, d16, d17, d18, d19, d20, d21, d22, d23, d24, d25, d26, d27, d28, d29, d30, d31, d32, d33, d34, d35, d36, d37, d38, d39, d40, d41, d42, d43, d44, d45, d46, d47, d48, d49, d50, d51, d52]
-- 0 is_number
-- 1 is_signs
-- 2 is_text
-- 3 is_change
-- 4 is_edit
-- 5 put_in
-- 6 slid
-- 7 lines_in
-- 8 common_ahead
-- 9 common_behind
-- 10 between
-- 11 reached
-- 12 are_edits
-- 13 check_edits
-- 14 all_applied
-- 15 in_turn
-- 16 all_inverse
-- 17 paper_of
-- 18 is_row
-- 19 proves_least
-- 20 leaf_of
-- 21 long_of
-- 22 ends_of
-- 23 deep_of
-- 24 pair_of
-- 25 evened
-- 26 put_together
-- 27 parted
-- 28 hold_of
-- 29 cost_of
-- 30 cost_rows
-- 31 steps_of
-- 32 edits_by
-- 33 middle_of
-- 34 least_edits
-- 35 least_cost
-- 36 _law_draws
-- 37 _law_take
-- 38 _law_alike
-- 39 made_of
-- 40 pieces_of
-- 41 text_of
-- 42 edited
-- 43 small
-- 44 borders_of
-- 45 places_of
-- 46 is_alone
-- 47 finds
-- 48 _law_shuffled
-- 49 _law_table
-- 50 _law_up
-- 51 _law_led
-- 52 law
end K14
set_option Elab.async false
set_option linter.all false
set_option autoImplicit false
set_option maxRecDepth 100000
set_option maxHeartbeats 0
namespace K14
open PySem PySem.Spec L2 Mp
open PyProof.Rows hiding St
def b0 : S := S.seq (S.ret (E.and (E.isi Ty.int (E.v 0)) (E.and (E.not (E.isi Ty.bool (E.v 0))) (E.chain Cop.le Cop.le (E.v 1) (E.v 0) (E.v 2))))) S.skip
theorem t0 : tbOf consts defs 0 = some (3, 3, b0) := by kernel_rfl
def b1 : S := S.seq (S.ret (E.and (E.isi Ty.str (E.v 0)) (E.gen false (Tg.nm 1) [1] (E.iseq (E.v 0)) (E.or (E.cmp Cop.eq (E.v 1) (E.k (D.str [10]))) (E.chain Cop.le Cop.le (E.k (D.str [32])) (E.v 1) (E.k (D.str [126]))))))) S.skip
theorem t1 : tbOf consts defs 1 = some (1, 2, b1) := by kernel_rfl
def b2 : S := S.seq (S.ret (E.and (E.call 1 1 (E.cons (E.v 0) E.nil)) (E.cmp Cop.le (E.blt Blt.len (E.cons (E.v 0) E.nil)) (E.k (D.int 2000))))) S.skip
theorem t2 : tbOf consts defs 2 = some (1, 1, b2) := by kernel_rfl
def b3 : S := S.seq (S.ife (E.or (E.not (E.isi Ty.tuple (E.v 1))) (E.or (E.cmp Cop.ne (E.blt Blt.len (E.cons (E.v 1) E.nil)) (E.k (D.int 3))) (E.not (E.call 2 1 (E.cons (E.idx (E.v 1) (E.k (D.int 2))) E.nil))))) (S.seq (S.ret (E.k (D.bl false))) S.skip) S.skip) (S.seq (S.ret (E.and (E.call 0 3 (E.cons (E.idx (E.v 1) (E.k (D.int 0))) (E.cons (E.k (D.int 0)) (E.cons (E.blt Blt.len (E.cons (E.v 0) E.nil)) E.nil)))) (E.call 0 3 (E.cons (E.idx (E.v 1) (E.k (D.int 1))) (E.cons (E.k (D.int 0)) (E.cons (E.bin Bop.sub (E.blt Blt.len (E.cons (E.v 0) E.nil)) (E.idx (E.v 1) (E.k (D.int 0)))) E.nil)))))) S.skip)
theorem t3 : tbOf consts defs 3 = some (2, 2, b3) := by kernel_rfl
def b4 : S := S.seq (S.ret (E.and (E.call 3 2 (E.cons (E.v 0) (E.cons (E.v 1) E.nil))) (E.cmp Cop.le (E.bin Bop.add (E.bin Bop.sub (E.blt Blt.len (E.cons (E.v 0) E.nil)) (E.idx (E.v 1) (E.k (D.int 1)))) (E.blt Blt.len (E.cons (E.idx (E.v 1) (E.k (D.int 2))) E.nil))) (E.k (D.int 2000))))) S.skip
theorem t4 : tbOf consts defs 4 = some (2, 2, b4) := by kernel_rfl
def b5 : S := S.seq (S.tgt (Tg.tp (Tg.cons (Tg.nm 2) (Tg.cons (Tg.nm 3) (Tg.cons (Tg.nm 4) Tg.nil)))) (E.v 1)) (S.seq (S.ret (E.bin Bop.add (E.bin Bop.add (E.sl false (E.v 0) E.nil (E.v 2)) (E.v 4)) (E.sl false (E.v 0) (E.bin Bop.add (E.v 2) (E.v 3)) E.nil))) S.skip)
theorem t5 : tbOf consts defs 5 = some (2, 5, b5) := by kernel_rfl
def b6 : S := S.seq (S.whl 100000 (E.and (E.cmp Cop.lt (E.v 2) (E.blt Blt.len (E.cons (E.v 0) E.nil))) (E.and (E.cmp Cop.lt (E.bin Bop.sub (E.v 2) (E.v 3)) (E.blt Blt.len (E.cons (E.v 1) E.nil))) (E.cmp Cop.eq (E.idx (E.v 0) (E.v 2)) (E.idx (E.v 1) (E.bin Bop.sub (E.v 2) (E.v 3)))))) (S.seq (S.aug 2 Aop.add (E.k (D.int 1))) S.skip)) (S.seq (S.ret (E.v 2)) S.skip)
theorem t6 : tbOf consts defs 6 = some (4, 4, b6) := by kernel_rfl
def b7 : S := S.seq (S.set 3 (E.lrg false 3 (E.cons (E.bin Bop.sub (E.k (D.int 0)) (E.v 2)) (E.cons (E.bin Bop.add (E.v 2) (E.k (D.int 1))) (E.cons (E.k (D.int 2)) E.nil))))) (S.seq (S.ret (E.comp false (Tg.nm 4) [4] (E.iseq (E.v 3)) (E.and (E.cmp Cop.le (E.bin Bop.add (E.v 2) (E.v 4)) (E.bin Bop.mul (E.k (D.int 2)) (E.blt Blt.len (E.cons (E.v 0) E.nil)))) (E.cmp Cop.le (E.bin Bop.sub (E.v 2) (E.v 4)) (E.bin Bop.mul (E.k (D.int 2)) (E.blt Blt.len (E.cons (E.v 1) E.nil))))) (E.v 4))) S.skip)
theorem t7 : tbOf consts defs 7 = some (3, 5, b7) := by kernel_rfl
def b8 : S := S.seq (S.set 2 (E.k (D.int 0))) (S.seq (S.whl 100000 (E.and (E.cmp Cop.lt (E.v 2) (E.blt Blt.min2 (E.cons (E.blt Blt.len (E.cons (E.v 0) E.nil)) (E.cons (E.blt Blt.len (E.cons (E.v 1) E.nil)) E.nil)))) (E.cmp Cop.eq (E.idx (E.v 0) (E.v 2)) (E.idx (E.v 1) (E.v 2)))) (S.seq (S.aug 2 Aop.add (E.k (D.int 1))) S.skip)) (S.seq (S.ret (E.v 2)) S.skip))
theorem t8 : tbOf consts defs 8 = some (2, 3, b8) := by kernel_rfl
def b9 : S := S.seq (S.set 3 (E.k (D.int 0))) (S.seq (S.whl 100000 (E.and (E.cmp Cop.lt (E.v 3) (E.v 2)) (E.cmp Cop.eq (E.idx (E.v 0) (E.bin Bop.sub (E.bin Bop.sub (E.blt Blt.len (E.cons (E.v 0) E.nil)) (E.k (D.int 1))) (E.v 3))) (E.idx (E.v 1) (E.bin Bop.sub (E.bin Bop.sub (E.blt Blt.len (E.cons (E.v 1) E.nil)) (E.k (D.int 1))) (E.v 3))))) (S.seq (S.aug 3 Aop.add (E.k (D.int 1))) S.skip)) (S.seq (S.ret (E.v 3)) S.skip))
theorem t9 : tbOf consts defs 9 = some (3, 4, b9) := by kernel_rfl
def b10 : S := S.seq (S.set 2 (E.call 8 2 (E.cons (E.v 0) (E.cons (E.v 1) E.nil)))) (S.seq (S.set 3 (E.call 9 3 (E.cons (E.v 0) (E.cons (E.v 1) (E.cons (E.bin Bop.sub (E.blt Blt.min2 (E.cons (E.blt Blt.len (E.cons (E.v 0) E.nil)) (E.cons (E.blt Blt.len (E.cons (E.v 1) E.nil)) E.nil))) (E.v 2)) E.nil))))) (S.seq (S.ret (E.tup (E.cons (E.v 2) (E.cons (E.bin Bop.sub (E.bin Bop.sub (E.blt Blt.len (E.cons (E.v 0) E.nil)) (E.v 2)) (E.v 3)) (E.cons (E.sl false (E.v 1) (E.v 2) (E.bin Bop.sub (E.blt Blt.len (E.cons (E.v 1) E.nil)) (E.v 3))) E.nil))))) S.skip))
theorem t10 : tbOf consts defs 10 = some (2, 4, b10) := by kernel_rfl
def b11 : S := S.seq (S.set 4 (E.lst true E.nil)) (S.seq (S.ife (E.cmp Cop.in_ (E.bin Bop.sub (E.v 3) (E.k (D.int 1))) (E.v 2)) (S.seq (S.drop (E.mth Mth.append (E.v 4) (E.cons (E.blt Blt.min2 (E.cons (E.blt Blt.len (E.cons (E.v 0) E.nil)) (E.cons (E.bin Bop.add (E.idx (E.v 2) (E.bin Bop.sub (E.v 3) (E.k (D.int 1)))) (E.k (D.int 1))) E.nil))) E.nil))) S.skip) S.skip) (S.seq (S.ife (E.cmp Cop.in_ (E.bin Bop.add (E.v 3) (E.k (D.int 1))) (E.v 2)) (S.seq (S.drop (E.mth Mth.append (E.v 4) (E.cons (E.blt Blt.min2 (E.cons (E.idx (E.v 2) (E.bin Bop.add (E.v 3) (E.k (D.int 1)))) (E.cons (E.bin Bop.add (E.blt Blt.len (E.cons (E.v 1) E.nil)) (E.v 3)) E.nil))) E.nil))) S.skip) S.skip) (S.seq (S.ret (E.call 6 4 (E.cons (E.v 0) (E.cons (E.v 1) (E.cons (E.blt Blt.maxL (E.cons (E.v 4) E.nil)) (E.cons (E.v 3) E.nil)))))) S.skip)))
theorem t11 : tbOf consts defs 11 = some (4, 5, b11) := by kernel_rfl
def b12 : S := S.seq (S.ife (E.or (E.not (E.isi Ty.tuple (E.v 1))) (E.or (E.cmp Cop.gt (E.blt Blt.len (E.cons (E.v 1) E.nil)) (E.k (D.int 200))) (E.not (E.gen false (Tg.nm 2) [2] (E.iseq (E.v 1)) (E.call 3 2 (E.cons (E.v 0) (E.cons (E.v 2) E.nil))))))) (S.seq (S.ret (E.k (D.bl false))) S.skip) S.skip) (S.seq (S.ife (E.not (E.gen false (Tg.nm 3) [3] (E.irng 2 (E.cons (E.k (D.int 1)) (E.cons (E.blt Blt.len (E.cons (E.v 1) E.nil)) E.nil))) (E.cmp Cop.lt (E.bin Bop.add (E.idx (E.idx (E.v 1) (E.bin Bop.sub (E.v 3) (E.k (D.int 1)))) (E.k (D.int 0))) (E.idx (E.idx (E.v 1) (E.bin Bop.sub (E.v 3) (E.k (D.int 1)))) (E.k (D.int 1)))) (E.idx (E.idx (E.v 1) (E.v 3)) (E.k (D.int 0)))))) (S.seq (S.ret (E.k (D.bl false))) S.skip) S.skip) (S.seq (S.ret (E.cmp Cop.le (E.bin Bop.add (E.blt Blt.len (E.cons (E.v 0) E.nil)) (E.blt Blt.sum (E.cons (E.comp false (Tg.tp (Tg.cons (Tg.nm 4) (Tg.cons (Tg.nm 5) (Tg.cons (Tg.nm 6) Tg.nil)))) [4, 5, 6] (E.iseq (E.v 1)) E.yes (E.bin Bop.sub (E.blt Blt.len (E.cons (E.v 6) E.nil)) (E.v 5))) E.nil))) (E.k (D.int 2000)))) S.skip))
theorem t12 : tbOf consts defs 12 = some (2, 7, b12) := by kernel_rfl
def b13 : S := S.seq (S.ife (E.not (E.call 12 2 (E.cons (E.v 0) (E.cons (E.v 1) E.nil)))) (S.seq S.bad S.skip) S.skip) S.skip
theorem t13 : tbOf consts defs 13 = some (2, 2, b13) := by kernel_rfl
def b14 : S := S.seq (S.drop (E.call 13 2 (E.cons (E.v 0) (E.cons (E.v 1) E.nil)))) (S.seq (S.for_ (Tg.nm 2) (E.iseq (E.rev false (E.v 1))) (S.seq (S.set 0 (E.call 5 2 (E.cons (E.v 0) (E.cons (E.v 2) E.nil)))) S.skip)) (S.seq (S.ret (E.v 0)) S.skip))
theorem t14 : tbOf consts defs 14 = some (2, 3, b14) := by kernel_rfl
def b15 : S := S.seq (S.drop (E.call 13 2 (E.cons (E.v 0) (E.cons (E.v 1) E.nil)))) (S.seq (S.set 2 (E.lst true E.nil)) (S.seq (S.set 3 (E.k (D.int 0))) (S.seq (S.for_ (Tg.tp (Tg.cons (Tg.nm 4) (Tg.cons (Tg.nm 5) (Tg.cons (Tg.nm 6) Tg.nil)))) (E.iseq (E.v 1)) (S.seq (S.drop (E.mth Mth.append (E.v 2) (E.cons (E.tup (E.cons (E.bin Bop.add (E.v 4) (E.v 3)) (E.cons (E.v 5) (E.cons (E.v 6) E.nil)))) E.nil))) (S.seq (S.aug 3 Aop.add (E.bin Bop.sub (E.blt Blt.len (E.cons (E.v 6) E.nil)) (E.v 5))) S.skip))) (S.seq (S.ret (E.blt Blt.tuple (E.cons (E.v 2) E.nil))) S.skip))))
theorem t15 : tbOf consts defs 15 = some (2, 7, b15) := by kernel_rfl
def b16 : S := S.seq (S.drop (E.call 13 2 (E.cons (E.v 0) (E.cons (E.v 1) E.nil)))) (S.seq (S.set 2 (E.lst true E.nil)) (S.seq (S.for_ (Tg.tp (Tg.cons (Tg.tp (Tg.cons (Tg.nm 3) (Tg.cons (Tg.nm 4) (Tg.cons (Tg.nm 5) Tg.nil)))) (Tg.cons (Tg.tp (Tg.cons (Tg.nm 6) (Tg.cons (Tg.nm 7) (Tg.cons (Tg.nm 4) Tg.nil)))) Tg.nil))) (E.izip (E.cons (E.call 15 2 (E.cons (E.v 0) (E.cons (E.v 1) E.nil))) (E.cons (E.v 1) E.nil))) (S.seq (S.drop (E.mth Mth.append (E.v 2) (E.cons (E.tup (E.cons (E.v 3) (E.cons (E.blt Blt.len (E.cons (E.v 5) E.nil)) (E.cons (E.sl false (E.v 0) (E.v 6) (E.bin Bop.add (E.v 6) (E.v 7))) E.nil)))) E.nil))) S.skip)) (S.seq (S.ret (E.blt Blt.tuple (E.cons (E.v 2) E.nil))) S.skip)))
theorem t16 : tbOf consts defs 16 = some (2, 8, b16) := by kernel_rfl
def b17 : S := S.seq (S.par2 2 3 (E.cons (E.call 35 2 (E.cons (E.v 0) (E.cons (E.v 1) E.nil))) (E.cons (E.lst true E.nil) E.nil))) (S.seq (S.set 4 (E.dic1 (E.k (D.int 0)) (E.call 6 4 (E.cons (E.v 0) (E.cons (E.v 1) (E.cons (E.k (D.int 0)) (E.cons (E.k (D.int 0)) E.nil))))))) (S.seq (S.for_ (Tg.nm 5) (E.irng 1 (E.cons (E.v 2) E.nil)) (S.seq (S.ife (E.cmp Cop.gt (E.v 5) (E.k (D.int 0))) (S.seq (S.set 4 (E.dcomp (Tg.nm 6) [6] (E.iseq (E.call 7 3 (E.cons (E.v 0) (E.cons (E.v 1) (E.cons (E.v 5) E.nil))))) E.yes (E.v 6) (E.call 11 4 (E.cons (E.v 0) (E.cons (E.v 1) (E.cons (E.v 4) (E.cons (E.v 6) E.nil))))))) S.skip) S.skip) (S.seq (S.drop (E.mth Mth.append (E.v 3) (E.cons (E.row (E.v 4)) E.nil))) S.skip))) (S.seq (S.ret (E.blt Blt.tuple (E.cons (E.v 3) E.nil))) S.skip)))
theorem t17 : tbOf consts defs 17 = some (2, 7, b17) := by kernel_rfl
def b18 : S := S.seq (S.ife (E.or (E.not (E.isi Ty.tuple (E.v 3))) (E.not (E.gen false (Tg.nm 4) [4] (E.iseq (E.v 3)) (E.and (E.isi Ty.tuple (E.v 4)) (E.cmp Cop.eq (E.blt Blt.len (E.cons (E.v 4) E.nil)) (E.k (D.int 2))))))) (S.seq (S.ret (E.k (D.bl false))) S.skip) S.skip) (S.seq (S.ife (E.cmp Cop.ne (E.comp false (Tg.nm 4) [4] (E.iseq (E.v 3)) E.yes (E.idx (E.v 4) (E.k (D.int 0)))) (E.call 7 3 (E.cons (E.v 0) (E.cons (E.v 1) (E.cons (E.v 2) E.nil))))) (S.seq (S.ret (E.k (D.bl false))) S.skip) S.skip) (S.seq (S.ret (E.gen false (Tg.tp (Tg.cons (Tg.nm 5) (Tg.cons (Tg.nm 6) Tg.nil))) [5, 6] (E.iseq (E.v 3)) (E.and (E.call 0 3 (E.cons (E.v 5) (E.cons (E.neg (E.v 2)) (E.cons (E.v 2) E.nil)))) (E.call 0 3 (E.cons (E.v 6) (E.cons (E.k (D.int 0)) (E.cons (E.blt Blt.len (E.cons (E.v 0) E.nil)) E.nil))))))) S.skip))
theorem t18 : tbOf consts defs 18 = some (4, 7, b18) := by kernel_rfl
def b19 : S := S.seq (S.ife (E.cmp Cop.ne (E.call 14 2 (E.cons (E.v 0) (E.cons (E.v 2) E.nil))) (E.v 1)) (S.seq S.bad S.skip) S.skip) (S.seq (S.set 4 (E.call 29 1 (E.cons (E.v 2) E.nil))) (S.seq (S.ife (E.or (E.not (E.isi Ty.tuple (E.v 3))) (E.cmp Cop.ne (E.blt Blt.len (E.cons (E.v 3) E.nil)) (E.v 4))) (S.seq (S.ret (E.k (D.bl false))) S.skip) S.skip) (S.seq (S.set 5 E.dic0) (S.seq (S.for_ (Tg.tp (Tg.cons (Tg.nm 6) (Tg.cons (Tg.nm 7) Tg.nil))) (E.ienum (E.cons (E.v 3) E.nil)) (S.seq (S.ife (E.not (E.call 18 4 (E.cons (E.v 0) (E.cons (E.v 1) (E.cons (E.v 6) (E.cons (E.v 7) E.nil)))))) (S.seq (S.ret (E.k (D.bl false))) S.skip) S.skip) (S.seq (S.set 8 (E.drow (E.v 7))) (S.seq (S.for_ (Tg.nm 9) (E.iseq (E.v 8)) (S.seq (S.set 10 (E.ite (E.cmp Cop.eq (E.v 6) (E.k (D.int 0))) (E.call 6 4 (E.cons (E.v 0) (E.cons (E.v 1) (E.cons (E.k (D.int 0)) (E.cons (E.k (D.int 0)) E.nil))))) (E.call 11 4 (E.cons (E.v 0) (E.cons (E.v 1) (E.cons (E.v 5) (E.cons (E.v 9) E.nil))))))) (S.seq (S.ife (E.cmp Cop.lt (E.idx (E.v 8) (E.v 9)) (E.v 10)) (S.seq (S.ret (E.k (D.bl false))) S.skip) S.skip) S.skip))) (S.seq (S.ife (E.cmp Cop.eq (E.dget (E.v 8) (E.bin Bop.sub (E.blt Blt.len (E.cons (E.v 0) E.nil)) (E.blt Blt.len (E.cons (E.v 1) E.nil))) (E.neg (E.k (D.int 1)))) (E.blt Blt.len (E.cons (E.v 0) E.nil))) (S.seq (S.ret (E.k (D.bl false))) S.skip) S.skip) (S.seq (S.set 5 (E.v 8)) S.skip)))))) (S.seq (S.ret (E.k (D.bl true))) S.skip)))))
theorem t19 : tbOf consts defs 19 = some (4, 11, b19) := by kernel_rfl
def b20 : S := S.seq (S.ret (E.tup (E.cons (E.k (D.str [108, 101, 97, 102])) (E.cons (E.v 0) E.nil)))) S.skip
theorem t20 : tbOf consts defs 20 = some (1, 1, b20) := by kernel_rfl
def b21 : S := S.seq (S.ret (E.ite (E.cmp Cop.eq (E.idx (E.v 0) (E.k (D.int 0))) (E.k (D.str [108, 101, 97, 102]))) (E.blt Blt.len (E.cons (E.idx (E.v 0) (E.k (D.int 1))) E.nil)) (E.idx (E.v 0) (E.k (D.int 3))))) S.skip
theorem t21 : tbOf consts defs 21 = some (1, 1, b21) := by kernel_rfl
def b22 : S := S.seq (S.ret (E.ite (E.cmp Cop.eq (E.idx (E.v 0) (E.k (D.int 0))) (E.k (D.str [108, 101, 97, 102]))) (E.mth Mth.count (E.idx (E.v 0) (E.k (D.int 1))) (E.cons (E.k (D.str [10])) E.nil)) (E.idx (E.v 0) (E.k (D.int 4))))) S.skip
theorem t22 : tbOf consts defs 22 = some (1, 1, b22) := by kernel_rfl
def b23 : S := S.seq (S.ret (E.ite (E.cmp Cop.eq (E.idx (E.v 0) (E.k (D.int 0))) (E.k (D.str [108, 101, 97, 102]))) (E.k (D.int 0)) (E.idx (E.v 0) (E.k (D.int 5))))) S.skip
theorem t23 : tbOf consts defs 23 = some (1, 1, b23) := by kernel_rfl
def b24 : S := S.seq (S.set 2 (E.bin Bop.add (E.k (D.int 1)) (E.blt Blt.max2 (E.cons (E.call 23 1 (E.cons (E.v 0) E.nil)) (E.cons (E.call 23 1 (E.cons (E.v 1) E.nil)) E.nil))))) (S.seq (S.ret (E.tup (E.cons (E.k (D.str [112, 97, 105, 114])) (E.cons (E.v 0) (E.cons (E.v 1) (E.cons (E.bin Bop.add (E.call 21 1 (E.cons (E.v 0) E.nil)) (E.call 21 1 (E.cons (E.v 1) E.nil))) (E.cons (E.bin Bop.add (E.call 22 1 (E.cons (E.v 0) E.nil)) (E.call 22 1 (E.cons (E.v 1) E.nil))) (E.cons (E.v 2) E.nil)))))))) S.skip)
theorem t24 : tbOf consts defs 24 = some (2, 3, b24) := by kernel_rfl
def b25 : S := S.seq (S.ife (E.cmp Cop.gt (E.call 23 1 (E.cons (E.v 0) E.nil)) (E.bin Bop.add (E.call 23 1 (E.cons (E.v 1) E.nil)) (E.k (D.int 1)))) (S.seq (S.set 2 (E.idx (E.v 0) (E.k (D.int 2)))) (S.seq (S.ife (E.cmp Cop.ge (E.call 23 1 (E.cons (E.idx (E.v 0) (E.k (D.int 1))) E.nil)) (E.call 23 1 (E.cons (E.v 2) E.nil))) (S.seq (S.ret (E.call 24 2 (E.cons (E.idx (E.v 0) (E.k (D.int 1))) (E.cons (E.call 24 2 (E.cons (E.v 2) (E.cons (E.v 1) E.nil))) E.nil)))) S.skip) S.skip) (S.seq (S.ret (E.call 24 2 (E.cons (E.call 24 2 (E.cons (E.idx (E.v 0) (E.k (D.int 1))) (E.cons (E.idx (E.v 2) (E.k (D.int 1))) E.nil))) (E.cons (E.call 24 2 (E.cons (E.idx (E.v 2) (E.k (D.int 2))) (E.cons (E.v 1) E.nil))) E.nil)))) S.skip))) S.skip) (S.seq (S.ife (E.cmp Cop.gt (E.call 23 1 (E.cons (E.v 1) E.nil)) (E.bin Bop.add (E.call 23 1 (E.cons (E.v 0) E.nil)) (E.k (D.int 1)))) (S.seq (S.set 2 (E.idx (E.v 1) (E.k (D.int 1)))) (S.seq (S.ife (E.cmp Cop.ge (E.call 23 1 (E.cons (E.idx (E.v 1) (E.k (D.int 2))) E.nil)) (E.call 23 1 (E.cons (E.v 2) E.nil))) (S.seq (S.ret (E.call 24 2 (E.cons (E.call 24 2 (E.cons (E.v 0) (E.cons (E.v 2) E.nil))) (E.cons (E.idx (E.v 1) (E.k (D.int 2))) E.nil)))) S.skip) S.skip) (S.seq (S.ret (E.call 24 2 (E.cons (E.call 24 2 (E.cons (E.v 0) (E.cons (E.idx (E.v 2) (E.k (D.int 1))) E.nil))) (E.cons (E.call 24 2 (E.cons (E.idx (E.v 2) (E.k (D.int 2))) (E.cons (E.idx (E.v 1) (E.k (D.int 2))) E.nil))) E.nil)))) S.skip))) S.skip) (S.seq (S.ret (E.call 24 2 (E.cons (E.v 0) (E.cons (E.v 1) E.nil)))) S.skip))
theorem t25 : tbOf consts defs 25 = some (2, 3, b25) := by kernel_rfl
def b26 : S := S.seq (S.ife (E.or (E.cmp Cop.eq (E.call 21 1 (E.cons (E.v 0) E.nil)) (E.k (D.int 0))) (E.cmp Cop.eq (E.call 21 1 (E.cons (E.v 1) E.nil)) (E.k (D.int 0)))) (S.seq (S.ret (E.ite (E.cmp Cop.eq (E.call 21 1 (E.cons (E.v 0) E.nil)) (E.k (D.int 0))) (E.v 1) (E.v 0))) S.skip) S.skip) (S.seq (S.ife (E.and (E.cmp Cop.eq (E.idx (E.v 0) (E.k (D.int 0))) (E.k (D.str [108, 101, 97, 102]))) (E.and (E.cmp Cop.eq (E.idx (E.v 1) (E.k (D.int 0))) (E.k (D.str [108, 101, 97, 102]))) (E.cmp Cop.le (E.bin Bop.add (E.call 21 1 (E.cons (E.v 0) E.nil)) (E.call 21 1 (E.cons (E.v 1) E.nil))) (E.k (D.int 16))))) (S.seq (S.ret (E.call 20 1 (E.cons (E.bin Bop.add (E.idx (E.v 0) (E.k (D.int 1))) (E.idx (E.v 1) (E.k (D.int 1)))) E.nil))) S.skip) S.skip) (S.seq (S.ife (E.cmp Cop.gt (E.call 23 1 (E.cons (E.v 0) E.nil)) (E.bin Bop.add (E.call 23 1 (E.cons (E.v 1) E.nil)) (E.k (D.int 1)))) (S.seq (S.ret (E.call 25 2 (E.cons (E.idx (E.v 0) (E.k (D.int 1))) (E.cons (E.call 26 2 (E.cons (E.idx (E.v 0) (E.k (D.int 2))) (E.cons (E.v 1) E.nil))) E.nil)))) S.skip) S.skip) (S.seq (S.ife (E.cmp Cop.gt (E.call 23 1 (E.cons (E.v 1) E.nil)) (E.bin Bop.add (E.call 23 1 (E.cons (E.v 0) E.nil)) (E.k (D.int 1)))) (S.seq (S.ret (E.call 25 2 (E.cons (E.call 26 2 (E.cons (E.v 0) (E.cons (E.idx (E.v 1) (E.k (D.int 1))) E.nil))) (E.cons (E.idx (E.v 1) (E.k (D.int 2))) E.nil)))) S.skip) S.skip) (S.seq (S.ret (E.call 24 2 (E.cons (E.v 0) (E.cons (E.v 1) E.nil)))) S.skip))))
theorem t26 : tbOf consts defs 26 = some (2, 2, b26) := by kernel_rfl
def b27 : S := S.seq (S.ife (E.cmp Cop.eq (E.idx (E.v 0) (E.k (D.int 0))) (E.k (D.str [108, 101, 97, 102]))) (S.seq (S.ret (E.tup (E.cons (E.call 20 1 (E.cons (E.sl false (E.idx (E.v 0) (E.k (D.int 1))) E.nil (E.v 1)) E.nil)) (E.cons (E.call 20 1 (E.cons (E.sl false (E.idx (E.v 0) (E.k (D.int 1))) (E.v 1) E.nil) E.nil)) E.nil)))) S.skip) S.skip) (S.seq (S.tgt (Tg.tp (Tg.cons (Tg.nm 2) (Tg.cons (Tg.nm 3) (Tg.cons (Tg.nm 4) (Tg.cons (Tg.nm 2) (Tg.cons (Tg.nm 2) (Tg.cons (Tg.nm 2) Tg.nil))))))) (E.v 0)) (S.seq (S.ife (E.cmp Cop.le (E.v 1) (E.call 21 1 (E.cons (E.v 3) E.nil))) (S.seq (S.tgt (Tg.tp (Tg.cons (Tg.nm 5) (Tg.cons (Tg.nm 6) Tg.nil))) (E.call 27 2 (E.cons (E.v 3) (E.cons (E.v 1) E.nil)))) (S.seq (S.ret (E.tup (E.cons (E.v 5) (E.cons (E.call 26 2 (E.cons (E.v 6) (E.cons (E.v 4) E.nil))) E.nil)))) S.skip)) S.skip) (S.seq (S.tgt (Tg.tp (Tg.cons (Tg.nm 5) (Tg.cons (Tg.nm 6) Tg.nil))) (E.call 27 2 (E.cons (E.v 4) (E.cons (E.bin Bop.sub (E.v 1) (E.call 21 1 (E.cons (E.v 3) E.nil))) E.nil)))) (S.seq (S.ret (E.tup (E.cons (E.call 26 2 (E.cons (E.v 3) (E.cons (E.v 5) E.nil))) (E.cons (E.v 6) E.nil)))) S.skip))))
theorem t27 : tbOf consts defs 27 = some (2, 7, b27) := by kernel_rfl
def b28 : S := S.seq (S.drop (E.call 13 2 (E.cons (E.v 0) (E.cons (E.v 1) E.nil)))) (S.seq (S.set 2 (E.lst true E.nil)) (S.seq (S.tgt (Tg.tp (Tg.cons (Tg.nm 3) (Tg.cons (Tg.nm 4) Tg.nil))) (E.tup (E.cons (E.k (D.int 0)) (E.cons (E.k (D.int 0)) E.nil)))) (S.seq (S.for_ (Tg.tp (Tg.cons (Tg.nm 5) (Tg.cons (Tg.nm 6) (Tg.cons (Tg.nm 7) Tg.nil)))) (E.iseq (E.v 1)) (S.seq (S.drop (E.mth Mth.extend (E.v 2) (E.cons (E.comp false (Tg.nm 8) [8] (E.irng 2 (E.cons (E.v 4) (E.cons (E.v 5) E.nil))) E.yes (E.tup (E.cons (E.v 8) (E.cons (E.bin Bop.add (E.v 8) (E.v 3)) E.nil)))) E.nil))) (S.seq (S.tgt (Tg.tp (Tg.cons (Tg.nm 3) (Tg.cons (Tg.nm 4) Tg.nil))) (E.tup (E.cons (E.bin Bop.sub (E.bin Bop.add (E.v 3) (E.blt Blt.len (E.cons (E.v 7) E.nil))) (E.v 6)) (E.cons (E.bin Bop.add (E.v 5) (E.v 6)) E.nil)))) S.skip))) (S.seq (S.drop (E.mth Mth.extend (E.v 2) (E.cons (E.comp false (Tg.nm 8) [8] (E.irng 2 (E.cons (E.v 4) (E.cons (E.blt Blt.len (E.cons (E.v 0) E.nil)) E.nil))) E.yes (E.tup (E.cons (E.v 8) (E.cons (E.bin Bop.add (E.v 8) (E.v 3)) E.nil)))) E.nil))) (S.seq (S.ret (E.blt Blt.tuple (E.cons (E.v 2) E.nil))) S.skip)))))
theorem t28 : tbOf consts defs 28 = some (2, 9, b28) := by kernel_rfl
def b29 : S := S.seq (S.ret (E.blt Blt.sum (E.cons (E.comp false (Tg.tp (Tg.cons (Tg.nm 1) (Tg.cons (Tg.nm 2) (Tg.cons (Tg.nm 3) Tg.nil)))) [1, 2, 3] (E.iseq (E.v 0)) E.yes (E.bin Bop.add (E.v 2) (E.blt Blt.len (E.cons (E.v 3) E.nil)))) E.nil))) S.skip
theorem t29 : tbOf consts defs 29 = some (1, 4, b29) := by kernel_rfl
def b30 : S := S.seq (S.set 2 (E.lrg false 3 (E.cons (E.blt Blt.len (E.cons (E.v 1) E.nil)) (E.cons (E.neg (E.k (D.int 1))) (E.cons (E.neg (E.k (D.int 1))) E.nil))))) (S.seq (S.set 3 (E.lst true (E.cons (E.v 2) E.nil))) (S.seq (S.for_ (Tg.nm 4) (E.iseq (E.rev false (E.v 0))) (S.seq (S.set 5 (E.lst true (E.cons (E.bin Bop.add (E.idx (E.v 2) (E.neg (E.k (D.int 1)))) (E.k (D.int 1))) E.nil))) (S.seq (S.for_ (Tg.nm 6) (E.irng 3 (E.cons (E.bin Bop.sub (E.blt Blt.len (E.cons (E.v 1) E.nil)) (E.k (D.int 1))) (E.cons (E.neg (E.k (D.int 1))) (E.cons (E.neg (E.k (D.int 1))) E.nil)))) (S.seq (S.drop (E.mth Mth.append (E.v 5) (E.cons (E.ite (E.cmp Cop.eq (E.idx (E.v 1) (E.v 6)) (E.v 4)) (E.idx (E.v 2) (E.bin Bop.add (E.v 6) (E.k (D.int 1)))) (E.bin Bop.add (E.k (D.int 1)) (E.blt Blt.min2 (E.cons (E.idx (E.v 2) (E.v 6)) (E.cons (E.idx (E.v 5) (E.neg (E.k (D.int 1)))) E.nil))))) E.nil))) S.skip)) (S.seq (S.set 2 (E.rev false (E.v 5))) (S.seq (S.drop (E.mth Mth.append (E.v 3) (E.cons (E.v 2) E.nil))) S.skip))))) (S.seq (S.ret (E.rev false (E.v 3))) S.skip)))
theorem t30 : tbOf consts defs 30 = some (2, 7, b30) := by kernel_rfl
def b31 : S := S.seq (S.par2 2 3 (E.cons (E.call 30 2 (E.cons (E.v 0) (E.cons (E.v 1) E.nil))) (E.cons (E.lst true E.nil) E.nil))) (S.seq (S.tgt (Tg.tp (Tg.cons (Tg.nm 4) (Tg.cons (Tg.nm 5) Tg.nil))) (E.tup (E.cons (E.k (D.int 0)) (E.cons (E.k (D.int 0)) E.nil)))) (S.seq (S.whl 100000 (E.or (E.cmp Cop.lt (E.v 4) (E.blt Blt.len (E.cons (E.v 0) E.nil))) (E.cmp Cop.lt (E.v 5) (E.blt Blt.len (E.cons (E.v 1) E.nil)))) (S.seq (S.ife (E.and (E.cmp Cop.lt (E.v 4) (E.blt Blt.len (E.cons (E.v 0) E.nil))) (E.and (E.cmp Cop.lt (E.v 5) (E.blt Blt.len (E.cons (E.v 1) E.nil))) (E.cmp Cop.eq (E.idx (E.v 0) (E.v 4)) (E.idx (E.v 1) (E.v 5))))) (S.seq (S.par2 4 5 (E.cons (E.bin Bop.add (E.v 4) (E.k (D.int 1))) (E.cons (E.bin Bop.add (E.v 5) (E.k (D.int 1))) E.nil))) S.skip) (S.seq (S.set 6 (E.or (E.cmp Cop.eq (E.v 5) (E.blt Blt.len (E.cons (E.v 1) E.nil))) (E.and (E.cmp Cop.lt (E.v 4) (E.blt Blt.len (E.cons (E.v 0) E.nil))) (E.cmp Cop.le (E.idx (E.idx (E.v 2) (E.bin Bop.add (E.v 4) (E.k (D.int 1)))) (E.v 5)) (E.idx (E.idx (E.v 2) (E.v 4)) (E.bin Bop.add (E.v 5) (E.k (D.int 1)))))))) (S.seq (S.drop (E.mth Mth.append (E.v 3) (E.cons (E.tup (E.cons (E.v 4) (E.cons (E.v 5) (E.cons (E.v 6) E.nil)))) E.nil))) (S.seq (S.tgt (Tg.tp (Tg.cons (Tg.nm 4) (Tg.cons (Tg.nm 5) Tg.nil))) (E.ite (E.v 6) (E.tup (E.cons (E.bin Bop.add (E.v 4) (E.k (D.int 1))) (E.cons (E.v 5) E.nil))) (E.tup (E.cons (E.v 4) (E.cons (E.bin Bop.add (E.v 5) (E.k (D.int 1))) E.nil))))) S.skip)))) S.skip)) (S.seq (S.ret (E.frz 3)) S.skip)))
theorem t31 : tbOf consts defs 31 = some (2, 7, b31) := by kernel_rfl
def b32 : S := S.seq (S.set 3 (E.lst true E.nil)) (S.seq (S.for_ (Tg.tp (Tg.cons (Tg.nm 4) (Tg.cons (Tg.nm 5) (Tg.cons (Tg.nm 6) Tg.nil)))) (E.iseq (E.v 0)) (S.seq (S.tgt (Tg.tp (Tg.cons (Tg.nm 7) (Tg.cons (Tg.nm 8) (Tg.cons (Tg.nm 9) Tg.nil)))) (E.ite (E.cmp Cop.gt (E.blt Blt.len (E.cons (E.v 3) E.nil)) (E.k (D.int 0))) (E.idx (E.v 3) (E.neg (E.k (D.int 1)))) (E.tup (E.cons (E.k (D.int 0)) (E.cons (E.neg (E.k (D.int 1))) (E.cons (E.k (D.str [])) E.nil)))))) (S.seq (S.set 10 (E.ite (E.v 6) (E.k (D.str [])) (E.idx (E.v 1) (E.v 5)))) (S.seq (S.ife (E.and (E.cmp Cop.ge (E.v 8) (E.k (D.int 0))) (E.cmp Cop.eq (E.bin Bop.add (E.v 7) (E.v 8)) (E.bin Bop.add (E.v 4) (E.v 2)))) (S.seq (S.setIx (E.v 3) (E.neg (E.k (D.int 1))) (E.tup (E.cons (E.v 7) (E.cons (E.bin Bop.add (E.v 8) (E.ite (E.v 6) (E.k (D.int 1)) (E.k (D.int 0)))) (E.cons (E.bin Bop.add (E.v 9) (E.v 10)) E.nil))))) S.skip) (S.seq (S.drop (E.mth Mth.append (E.v 3) (E.cons (E.tup (E.cons (E.bin Bop.add (E.v 4) (E.v 2)) (E.cons (E.ite (E.v 6) (E.k (D.int 1)) (E.k (D.int 0))) (E.cons (E.v 10) E.nil)))) E.nil))) S.skip)) S.skip)))) (S.seq (S.ret (E.blt Blt.tuple (E.cons (E.v 3) E.nil))) S.skip))
theorem t32 : tbOf consts defs 32 = some (3, 11, b32) := by kernel_rfl
def b33 : S := S.seq (S.tgt (Tg.tp (Tg.cons (Tg.nm 2) (Tg.cons (Tg.nm 3) (Tg.cons (Tg.nm 4) Tg.nil)))) (E.call 10 2 (E.cons (E.v 0) (E.cons (E.v 1) E.nil)))) (S.seq (S.ife (E.cmp Cop.gt (E.bin Bop.mul (E.bin Bop.add (E.v 3) (E.k (D.int 1))) (E.bin Bop.add (E.blt Blt.len (E.cons (E.v 4) E.nil)) (E.k (D.int 1)))) (E.k (D.int 60000))) (S.seq S.bad S.skip) S.skip) (S.seq (S.ret (E.tup (E.cons (E.sl false (E.v 0) (E.v 2) (E.bin Bop.add (E.v 2) (E.v 3))) (E.cons (E.v 4) (E.cons (E.v 2) E.nil))))) S.skip))
theorem t33 : tbOf consts defs 33 = some (2, 5, b33) := by kernel_rfl
def b34 : S := S.seq (S.tgt (Tg.tp (Tg.cons (Tg.nm 2) (Tg.cons (Tg.nm 3) (Tg.cons (Tg.nm 4) Tg.nil)))) (E.call 33 2 (E.cons (E.v 0) (E.cons (E.v 1) E.nil)))) (S.seq (S.set 5 (E.call 32 3 (E.cons (E.call 31 2 (E.cons (E.v 2) (E.cons (E.v 3) E.nil))) (E.cons (E.v 3) (E.cons (E.v 4) E.nil))))) (S.seq (S.ife (E.cmp Cop.gt (E.blt Blt.len (E.cons (E.v 5) E.nil)) (E.k (D.int 200))) (S.seq S.bad S.skip) S.skip) (S.seq (S.ret (E.v 5)) S.skip)))
theorem t34 : tbOf consts defs 34 = some (2, 6, b34) := by kernel_rfl
def b35 : S := S.seq (S.ret (E.call 29 1 (E.cons (E.call 34 2 (E.cons (E.v 0) (E.cons (E.v 1) E.nil))) E.nil))) S.skip
theorem t35 : tbOf consts defs 35 = some (2, 2, b35) := by kernel_rfl
def b36 : S := S.seq (S.set 1 (E.lst true E.nil)) (S.seq (S.for_ (Tg.nm 2) (E.iseq (E.v 0)) (S.seq (S.set 3 (E.blt Blt.abs (E.cons (E.v 2) E.nil))) (S.seq (S.ife (E.cmp Cop.lt (E.v 3) (E.bin Bop.pow (E.k (D.int 10)) (E.k (D.int 18)))) (S.seq (S.set 4 (E.bin Bop.mod (E.blt Blt.int (E.cons (E.bin Bop.add (E.bin Bop.mul (E.v 3) (E.k (D.int 48271))) (E.k (D.int 11))) E.nil)) (E.k (D.int 2147483647)))) (S.seq (S.drop (E.mth Mth.append (E.v 1) (E.cons (E.bin Bop.mod (E.blt Blt.int (E.cons (E.bin Bop.add (E.bin Bop.mul (E.v 4) (E.k (D.int 69621))) (E.v 3)) E.nil)) (E.k (D.int 2147483629))) E.nil))) (S.seq (S.drop (E.mth Mth.append (E.v 1) (E.cons (E.bin Bop.mod (E.blt Blt.int (E.cons (E.bin Bop.add (E.v 4) (E.bin Bop.fdiv (E.v 3) (E.k (D.int 7)))) E.nil)) (E.k (D.int 1000003))) E.nil))) (S.seq (S.set 3 (E.k (D.int 0))) S.skip)))) S.skip) (S.seq (S.for_ (Tg.nm 5) (E.irng 1 (E.cons (E.k (D.int 60)) E.nil)) (S.seq (S.ife (E.cmp Cop.gt (E.v 3) (E.k (D.int 0))) (S.seq (S.drop (E.mth Mth.append (E.v 1) (E.cons (E.bin Bop.mod (E.blt Blt.int (E.cons (E.v 3) E.nil)) (E.k (D.int 997))) E.nil))) (S.seq (S.set 3 (E.bin Bop.fdiv (E.v 3) (E.k (D.int 997)))) S.skip)) S.skip) S.skip)) S.skip)))) (S.seq (S.set 6 (E.k (D.int 1))) (S.seq (S.ife (E.cmp Cop.gt (E.blt Blt.len (E.cons (E.v 0) E.nil)) (E.k (D.int 0))) (S.seq (S.set 6 (E.bin Bop.add (E.k (D.int 1)) (E.blt Blt.abs (E.cons (E.idx (E.v 0) (E.k (D.int 0))) E.nil)))) S.skip) S.skip) (S.seq (S.for_ (Tg.nm 5) (E.irng 1 (E.cons (E.k (D.int 900)) E.nil)) (S.seq (S.set 6 (E.bin Bop.mod (E.blt Blt.int (E.cons (E.bin Bop.add (E.bin Bop.mul (E.v 6) (E.k (D.int 48271))) (E.k (D.int 69621))) E.nil)) (E.k (D.int 2147483647)))) (S.seq (S.drop (E.mth Mth.append (E.v 1) (E.cons (E.bin Bop.fdiv (E.v 6) (E.k (D.int 5))) E.nil))) S.skip))) (S.seq (S.ret (E.lrev true (E.v 1))) S.skip)))))
theorem t36 : tbOf consts defs 36 = some (1, 7, b36) := by kernel_rfl
def b37 : S := S.seq (S.ife (E.cmp Cop.eq (E.blt Blt.len (E.cons (E.v 0) E.nil)) (E.k (D.int 0))) (S.seq (S.ret (E.k (D.int 0))) S.skip) S.skip) (S.seq (S.ret (E.bin Bop.mod (E.blt Blt.int (E.cons (E.mth0 Mth.pop (E.v 0)) E.nil)) (E.v 1))) S.skip)
theorem t37 : tbOf consts defs 37 = some (2, 2, b37) := by kernel_rfl
def b38 : S := S.seq (S.ife (E.or (E.isi Ty.list (E.v 1)) (E.isi Ty.tuple (E.v 1))) (S.seq (S.ife (E.or (E.cmp Cop.ne (E.isi Ty.list (E.v 0)) (E.isi Ty.list (E.v 1))) (E.cmp Cop.ne (E.isi Ty.tuple (E.v 0)) (E.isi Ty.tuple (E.v 1)))) (S.seq (S.ret (E.k (D.bl false))) S.skip) S.skip) (S.seq (S.ret (E.and (E.cmp Cop.eq (E.blt Blt.len (E.cons (E.v 0) E.nil)) (E.blt Blt.len (E.cons (E.v 1) E.nil))) (E.cmp Cop.eq (E.comp false (Tg.nm 2) [2] (E.irng 1 (E.cons (E.blt Blt.len (E.cons (E.v 1) E.nil)) E.nil)) (E.not (E.call 38 2 (E.cons (E.idx (E.v 0) (E.v 2)) (E.cons (E.idx (E.v 1) (E.v 2)) E.nil)))) (E.v 2)) (E.lst false E.nil)))) S.skip)) S.skip) (S.seq (S.ife (E.cmp Cop.is_ (E.v 1) (E.k D.non)) (S.seq (S.ret (E.cmp Cop.is_ (E.v 0) (E.k D.non))) S.skip) S.skip) (S.seq (S.ife (E.or (E.isi Ty.bool (E.v 1)) (E.isi Ty.bool (E.v 0))) (S.seq (S.ret (E.and (E.isi Ty.bool (E.v 0)) (E.and (E.isi Ty.bool (E.v 1)) (E.cmp Cop.eq (E.v 0) (E.v 1))))) S.skip) S.skip) (S.seq (S.ife (E.isi Ty.int (E.v 1)) (S.seq (S.ret (E.and (E.isi Ty.int (E.v 0)) (E.cmp Cop.eq (E.v 0) (E.v 1)))) S.skip) S.skip) (S.seq (S.ret (E.and (E.isi Ty.str (E.v 0)) (E.cmp Cop.eq (E.v 0) (E.v 1)))) S.skip))))
theorem t38 : tbOf consts defs 38 = some (2, 3, b38) := by kernel_rfl
def b39 : S := S.seq (S.ife (E.cmp Cop.le (E.blt Blt.len (E.cons (E.v 0) E.nil)) (E.k (D.int 16))) (S.seq (S.ret (E.call 20 1 (E.cons (E.v 0) E.nil))) S.skip) S.skip) (S.seq (S.set 1 (E.bin Bop.fdiv (E.blt Blt.len (E.cons (E.v 0) E.nil)) (E.k (D.int 2)))) (S.seq (S.ret (E.call 26 2 (E.cons (E.call 39 1 (E.cons (E.sl false (E.v 0) E.nil (E.v 1)) E.nil)) (E.cons (E.call 39 1 (E.cons (E.sl false (E.v 0) (E.v 1) E.nil) E.nil)) E.nil)))) S.skip))
theorem t39 : tbOf consts defs 39 = some (1, 2, b39) := by kernel_rfl
def b40 : S := S.seq (S.ret (E.call 39 1 (E.cons (E.v 0) E.nil))) S.skip
theorem t40 : tbOf consts defs 40 = some (1, 1, b40) := by kernel_rfl
def b41 : S := S.seq (S.set 1 (E.lst true E.nil)) (S.seq (S.set 2 (E.lst true (E.cons (E.v 0) E.nil))) (S.seq (S.whl 100000 (E.cmp Cop.gt (E.blt Blt.len (E.cons (E.v 2) E.nil)) (E.k (D.int 0))) (S.seq (S.set 3 (E.mth0 Mth.pop (E.v 2))) (S.seq (S.ife (E.cmp Cop.eq (E.idx (E.v 3) (E.k (D.int 0))) (E.k (D.str [108, 101, 97, 102]))) (S.seq (S.drop (E.mth Mth.append (E.v 1) (E.cons (E.idx (E.v 3) (E.k (D.int 1))) E.nil))) S.skip) (S.seq (S.drop (E.mth Mth.extend (E.v 2) (E.cons (E.lst false (E.cons (E.idx (E.v 3) (E.k (D.int 2))) (E.cons (E.idx (E.v 3) (E.k (D.int 1))) E.nil))) E.nil))) S.skip)) S.skip))) (S.seq (S.ret (E.mth Mth.join (E.k (D.str [])) (E.cons (E.v 1) E.nil))) S.skip)))
theorem t41 : tbOf consts defs 41 = some (1, 4, b41) := by kernel_rfl
def b42 : S := S.seq (S.ife (E.or (E.not (E.isi Ty.tuple (E.v 1))) (E.or (E.cmp Cop.ne (E.blt Blt.len (E.cons (E.v 1) E.nil)) (E.k (D.int 3))) (E.not (E.call 4 2 (E.cons (E.bin Bop.mul (E.k (D.str [32])) (E.call 21 1 (E.cons (E.v 0) E.nil))) (E.cons (E.v 1) E.nil)))))) (S.seq S.bad S.skip) S.skip) (S.seq (S.tgt (Tg.tp (Tg.cons (Tg.nm 2) (Tg.cons (Tg.nm 3) (Tg.cons (Tg.nm 4) Tg.nil)))) (E.v 1)) (S.seq (S.tgt (Tg.tp (Tg.cons (Tg.nm 5) (Tg.cons (Tg.nm 6) Tg.nil))) (E.call 27 2 (E.cons (E.v 0) (E.cons (E.v 2) E.nil)))) (S.seq (S.ret (E.call 26 2 (E.cons (E.call 26 2 (E.cons (E.v 5) (E.cons (E.call 39 1 (E.cons (E.v 4) E.nil)) E.nil))) (E.cons (E.idx (E.call 27 2 (E.cons (E.v 6) (E.cons (E.v 3) E.nil))) (E.k (D.int 1))) E.nil)))) S.skip)))
theorem t42 : tbOf consts defs 42 = some (2, 7, b42) := by kernel_rfl
def b43 : S := S.seq (S.ret (E.mth Mth.join (E.k (D.str [])) (E.cons (E.comp false (Tg.nm 1) [1] (E.iseq (E.v 0)) E.yes (E.ite (E.cmp Cop.in_ (E.v 1) (E.k (D.str [65, 66, 67, 68, 69, 70, 71, 72, 73, 74, 75, 76, 77, 78, 79, 80, 81, 82, 83, 84, 85, 86, 87, 88, 89, 90]))) (E.idx (E.k (D.str [97, 98, 99, 100, 101, 102, 103, 104, 105, 106, 107, 108, 109, 110, 111, 112, 113, 114, 115, 116, 117, 118, 119, 120, 121, 122])) (E.mth Mth.index (E.k (D.str [65, 66, 67, 68, 69, 70, 71, 72, 73, 74, 75, 76, 77, 78, 79, 80, 81, 82, 83, 84, 85, 86, 87, 88, 89, 90])) (E.cons (E.v 1) E.nil))) (E.v 1))) E.nil))) S.skip
theorem t43 : tbOf consts defs 43 = some (1, 2, b43) := by kernel_rfl
def b44 : S := S.seq (S.set 1 (E.repM (E.lst false (E.cons (E.k (D.int 0)) E.nil)) (E.blt Blt.len (E.cons (E.v 0) E.nil)))) (S.seq (S.set 2 (E.k (D.int 0))) (S.seq (S.for_ (Tg.nm 3) (E.irng 2 (E.cons (E.k (D.int 1)) (E.cons (E.blt Blt.len (E.cons (E.v 0) E.nil)) E.nil))) (S.seq (S.whl 100000 (E.and (E.cmp Cop.gt (E.v 2) (E.k (D.int 0))) (E.cmp Cop.ne (E.idx (E.v 0) (E.v 3)) (E.idx (E.v 0) (E.v 2)))) (S.seq (S.set 2 (E.idx (E.v 1) (E.bin Bop.sub (E.v 2) (E.k (D.int 1))))) S.skip)) (S.seq (S.aug 2 Aop.add (E.ite (E.cmp Cop.eq (E.idx (E.v 0) (E.v 3)) (E.idx (E.v 0) (E.v 2))) (E.k (D.int 1)) (E.k (D.int 0)))) (S.seq (S.setIx (E.v 1) (E.v 3) (E.v 2)) S.skip)))) (S.seq (S.ret (E.blt Blt.tuple (E.cons (E.v 1) E.nil))) S.skip)))
theorem t44 : tbOf consts defs 44 = some (1, 4, b44) := by kernel_rfl
def b45 : S := S.seq (S.par2 2 3 (E.cons (E.call 44 1 (E.cons (E.v 1) E.nil)) (E.cons (E.lst true E.nil) E.nil))) (S.seq (S.set 4 (E.k (D.int 0))) (S.seq (S.for_ (Tg.tp (Tg.cons (Tg.nm 5) (Tg.cons (Tg.nm 6) Tg.nil))) (E.ienum (E.cons (E.v 0) E.nil)) (S.seq (S.whl 100000 (E.and (E.cmp Cop.gt (E.v 4) (E.k (D.int 0))) (E.or (E.cmp Cop.eq (E.v 4) (E.blt Blt.len (E.cons (E.v 1) E.nil))) (E.cmp Cop.ne (E.v 6) (E.idx (E.v 1) (E.v 4))))) (S.seq (S.set 4 (E.idx (E.v 2) (E.bin Bop.sub (E.v 4) (E.k (D.int 1))))) S.skip)) (S.seq (S.aug 4 Aop.add (E.ite (E.cmp Cop.eq (E.v 6) (E.idx (E.v 1) (E.v 4))) (E.k (D.int 1)) (E.k (D.int 0)))) (S.seq (S.ife (E.cmp Cop.eq (E.v 4) (E.blt Blt.len (E.cons (E.v 1) E.nil))) (S.seq (S.drop (E.mth Mth.append (E.v 3) (E.cons (E.bin Bop.sub (E.bin Bop.add (E.v 5) (E.k (D.int 1))) (E.v 4)) E.nil))) S.skip) S.skip) S.skip)))) (S.seq (S.ret (E.frz 3)) S.skip)))
theorem t45 : tbOf consts defs 45 = some (2, 7, b45) := by kernel_rfl
def b46 : S := S.seq (S.par2 3 4 (E.cons (E.idx (E.v 0) (E.v 1)) (E.cons (E.idx (E.v 0) (E.bin Bop.sub (E.bin Bop.add (E.v 1) (E.v 2)) (E.k (D.int 1)))) E.nil))) (S.seq (S.ife (E.and (E.cmp Cop.in_ (E.v 3) E.bad) (E.and (E.cmp Cop.gt (E.v 1) (E.k (D.int 0))) (E.cmp Cop.in_ (E.idx (E.v 0) (E.bin Bop.sub (E.v 1) (E.k (D.int 1)))) E.bad))) (S.seq (S.ret (E.k (D.bl false))) S.skip) S.skip) (S.seq (S.ret (E.not (E.and (E.cmp Cop.in_ (E.v 4) E.bad) (E.and (E.cmp Cop.lt (E.bin Bop.add (E.v 1) (E.v 2)) (E.blt Blt.len (E.cons (E.v 0) E.nil))) (E.cmp Cop.in_ (E.idx (E.v 0) (E.bin Bop.add (E.v 1) (E.v 2))) E.bad))))) S.skip))
theorem t46 : tbOf consts defs 46 = some (3, 5, b46) := by kernel_rfl
def b47 : S := S.seq (S.tgt (Tg.tp (Tg.cons (Tg.nm 2) (Tg.cons (Tg.nm 3) (Tg.cons (Tg.nm 4) Tg.nil)))) (E.v 1)) (S.seq (S.set 5 (E.ite (E.v 4) (E.call 45 2 (E.cons (E.v 0) (E.cons (E.v 2) E.nil))) (E.call 45 2 (E.cons (E.call 43 1 (E.cons (E.v 0) E.nil)) (E.cons (E.call 43 1 (E.cons (E.v 2) E.nil)) E.nil))))) (S.seq (S.ret (E.blt Blt.tuple (E.cons (E.comp false (Tg.nm 6) [6] (E.iseq (E.v 5)) (E.or (E.not (E.v 3)) (E.call 46 3 (E.cons (E.v 0) (E.cons (E.v 6) (E.cons (E.blt Blt.len (E.cons (E.v 2) E.nil)) E.nil))))) (E.v 6)) E.nil))) S.skip))
theorem t47 : tbOf consts defs 47 = some (2, 7, b47) := by kernel_rfl
def b48 : S := S.seq (S.par2 2 3 (E.cons (E.blt (Blt.list true) (E.cons (E.v 1) E.nil)) (E.cons (E.lst true E.nil) E.nil))) (S.seq (S.whl 100000 (E.cmp Cop.ne (E.v 2) (E.lst false E.nil)) (S.seq (S.drop (E.mth Mth.append (E.v 3) (E.cons (E.mth Mth.pop (E.v 2) (E.cons (E.call 37 2 (E.cons (E.v 0) (E.cons (E.blt Blt.len (E.cons (E.v 2) E.nil)) E.nil))) E.nil)) E.nil))) S.skip)) (S.seq (S.ret (E.frz 3)) S.skip))
theorem t48 : tbOf consts defs 48 = some (2, 4, b48) := by kernel_rfl
def b49 : S := S.seq (S.set 1 (E.lst true E.nil)) (S.seq (S.for_ (Tg.nm 2) (E.iseq (E.v 0)) (S.seq (S.set 3 (E.k (D.int 0))) (S.seq (S.whl 100000 (E.cmp Cop.isn (E.v 2) (E.k D.non)) (S.seq (S.ife (E.cmp Cop.eq (E.v 3) (E.blt Blt.len (E.cons (E.v 1) E.nil))) (S.seq (S.drop (E.mth Mth.append (E.v 1) (E.cons (E.lst false E.nil) E.nil))) S.skip) S.skip) (S.seq (S.set 4 (E.comp false (Tg.nm 5) [5] (E.iseq (E.idx (E.v 1) (E.v 3))) (E.cmp Cop.gt (E.v 5) (E.v 2)) (E.v 5))) (S.seq (S.ife (E.cmp Cop.eq (E.v 4) (E.lst false E.nil)) (S.seq (S.setIx (E.v 1) (E.v 3) (E.bin Bop.add (E.idx (E.v 1) (E.v 3)) (E.lst false (E.cons (E.v 2) E.nil)))) (S.seq (S.set 2 (E.k D.non)) S.skip)) (S.seq (S.set 6 (E.mth Mth.index (E.idx (E.v 1) (E.v 3)) (E.cons (E.blt Blt.minL (E.cons (E.v 4) E.nil)) E.nil))) (S.seq (S.setIx2 (E.v 1) (E.v 3) 2 (E.tup (E.cons (E.bin Bop.add (E.bin Bop.add (E.sl false (E.idx (E.v 1) (E.v 3)) E.nil (E.v 6)) (E.lst false (E.cons (E.v 2) E.nil))) (E.sl false (E.idx (E.v 1) (E.v 3)) (E.bin Bop.add (E.v 6) (E.k (D.int 1))) E.nil)) (E.cons (E.idx (E.idx (E.v 1) (E.v 3)) (E.v 6)) E.nil)))) S.skip))) (S.seq (S.set 3 (E.bin Bop.add (E.v 3) (E.k (D.int 1)))) S.skip))))) S.skip))) (S.seq (S.ret (E.frz 1)) S.skip))
theorem t49 : tbOf consts defs 49 = some (1, 7, b49) := by kernel_rfl
def b50 : S := S.seq (S.set 1 (E.call 49 1 (E.cons (E.v 0) E.nil))) (S.seq (S.ret (E.ite (E.cmp Cop.ne (E.v 1) (E.lst false E.nil)) (E.tup (E.cons (E.blt Blt.len (E.cons (E.idx (E.v 1) (E.k (D.int 0))) E.nil)) (E.cons (E.blt Blt.len (E.cons (E.v 1) E.nil)) E.nil))) (E.tup (E.cons (E.k (D.int 0)) (E.cons (E.k (D.int 0)) E.nil))))) S.skip)
theorem t50 : tbOf consts defs 50 = some (1, 2, b50) := by kernel_rfl
def b51 : S := S.seq (S.par2 3 4 (E.cons (E.call 34 2 (E.cons (E.v 0) (E.cons (E.v 1) E.nil))) (E.cons (E.blt Blt.len (E.cons (E.v 0) E.nil)) E.nil))) (S.seq (S.ife (E.not (E.call 38 2 (E.cons (E.lst false (E.cons (E.call 29 1 (E.cons (E.v 3) E.nil)) (E.cons (E.call 35 2 (E.cons (E.v 0) (E.cons (E.v 1) E.nil))) (E.cons (E.call 35 2 (E.cons (E.v 1) (E.cons (E.v 0) E.nil))) E.nil)))) (E.cons (E.bin Bop.mul (E.lst false (E.cons (E.bin Bop.mul (E.k (D.int 2)) (E.bin Bop.sub (E.v 4) (E.v 2))) E.nil)) (E.k (D.int 3))) E.nil)))) (S.seq (S.ret (E.k (D.bl false))) S.skip) S.skip) (S.seq (S.ife (E.or (E.cmp Cop.ne (E.call 14 2 (E.cons (E.v 0) (E.cons (E.v 3) E.nil))) (E.v 1)) (E.cmp Cop.ne (E.call 14 2 (E.cons (E.v 1) (E.cons (E.call 16 2 (E.cons (E.v 0) (E.cons (E.v 3) E.nil))) E.nil))) (E.v 0))) (S.seq (S.ret (E.k (D.bl false))) S.skip) S.skip) (S.seq (S.set 5 (E.call 28 2 (E.cons (E.v 0) (E.cons (E.v 3) E.nil)))) (S.seq (S.ife (E.or (E.cmp Cop.ne (E.blt Blt.len (E.cons (E.v 5) E.nil)) (E.v 2)) (E.cmp Cop.ne (E.comp false (Tg.nm 6) [6] (E.iseq (E.v 5)) (E.cmp Cop.ne (E.idx (E.v 0) (E.idx (E.v 6) (E.k (D.int 0)))) (E.idx (E.v 1) (E.idx (E.v 6) (E.k (D.int 1))))) (E.v 6)) (E.lst false E.nil))) (S.seq (S.ret (E.k (D.bl false))) S.skip) S.skip) (S.seq (S.ife (E.cmp Cop.ne (E.comp false (Tg.nm 7) [7] (E.irng 2 (E.cons (E.k (D.int 1)) (E.cons (E.v 2) E.nil))) (E.or (E.cmp Cop.ge (E.idx (E.idx (E.v 5) (E.bin Bop.sub (E.v 7) (E.k (D.int 1)))) (E.k (D.int 0))) (E.idx (E.idx (E.v 5) (E.v 7)) (E.k (D.int 0)))) (E.cmp Cop.ge (E.idx (E.idx (E.v 5) (E.bin Bop.sub (E.v 7) (E.k (D.int 1)))) (E.k (D.int 1))) (E.idx (E.idx (E.v 5) (E.v 7)) (E.k (D.int 1))))) (E.v 7)) (E.lst false E.nil)) (S.seq (S.ret (E.k (D.bl false))) S.skip) S.skip) (S.seq (S.set 8 (E.call 40 1 (E.cons (E.v 0) E.nil))) (S.seq (S.for_ (Tg.nm 9) (E.iseq (E.call 15 2 (E.cons (E.v 0) (E.cons (E.v 3) E.nil)))) (S.seq (S.set 8 (E.call 42 2 (E.cons (E.v 8) (E.cons (E.v 9) E.nil)))) S.skip)) (S.seq (S.set 10 (E.call 17 2 (E.cons (E.v 0) (E.cons (E.v 1) E.nil)))) (S.seq (S.ret (E.and (E.cmp Cop.eq (E.call 41 1 (E.cons (E.v 8) E.nil)) (E.v 1)) (E.and (E.cmp Cop.eq (E.blt Blt.len (E.cons (E.v 10) E.nil)) (E.bin Bop.mul (E.k (D.int 2)) (E.bin Bop.sub (E.v 4) (E.v 2)))) (E.cmp Cop.is_ (E.call 19 4 (E.cons (E.v 0) (E.cons (E.v 1) (E.cons (E.v 3) (E.cons (E.v 10) E.nil))))) (E.k (D.bl true)))))) S.skip)))))))))
theorem t51 : tbOf consts defs 51 = some (3, 11, b51) := by kernel_rfl
def b52 : S := S.seq (S.set 1 (E.call 36 1 (E.cons (E.v 0) E.nil))) (S.seq (S.for_ (Tg.nm 2) (E.irng 1 (E.cons (E.k (D.int 2)) E.nil)) (S.seq (S.set 3 (E.bin Bop.add (E.k (D.int 1)) (E.call 37 2 (E.cons (E.v 1) (E.cons (E.k (D.int 20)) E.nil))))) (S.seq (S.set 4 (E.blt (Blt.sorted false) (E.cons (E.sl false (E.call 48 2 (E.cons (E.v 1) (E.cons (E.blt (Blt.list false) (E.cons (E.k (D.str [97, 98, 99, 100, 101, 102, 103, 104, 105, 106, 107, 108, 109, 110, 111, 112, 113, 114, 115, 116, 117, 118, 119, 120, 121, 122, 32, 43, 45, 44, 46, 59])) E.nil)) E.nil))) E.nil (E.v 3)) E.nil))) (S.seq (S.set 5 (E.lst false (E.cons (E.call 48 2 (E.cons (E.v 1) (E.cons (E.lrg false 1 (E.cons (E.v 3) E.nil)) E.nil))) (E.cons (E.call 48 2 (E.cons (E.v 1) (E.cons (E.lrg false 1 (E.cons (E.v 3) E.nil)) E.nil))) E.nil)))) (S.seq (S.set 6 (E.comp false (Tg.nm 8) [8] (E.iseq (E.v 5)) E.yes (E.mth Mth.join (E.k (D.str [])) (E.cons (E.comp false (Tg.nm 7) [7] (E.iseq (E.v 8)) E.yes (E.idx (E.v 4) (E.v 7))) E.nil)))) (S.seq (S.par2 9 10 (E.cons (E.mth Mth.join (E.k (D.str [])) (E.cons (E.v 4) E.nil)) (E.cons (E.mth Mth.join (E.k (D.str [])) (E.cons (E.rev false (E.v 4)) E.nil)) E.nil))) (S.seq (S.tgt (Tg.tp (Tg.cons (Tg.nm 11) (Tg.cons (Tg.nm 12) Tg.nil))) (E.call 50 1 (E.cons (E.idx (E.v 5) (E.k (D.int 0))) E.nil))) (S.seq (S.ife (E.or (E.not (E.call 51 3 (E.cons (E.idx (E.v 6) (E.k (D.int 0))) (E.cons (E.v 9) (E.cons (E.v 11) E.nil))))) (E.or (E.not (E.call 51 3 (E.cons (E.idx (E.v 6) (E.k (D.int 0))) (E.cons (E.v 10) (E.cons (E.v 12) E.nil))))) (E.cmp Cop.lt (E.bin Bop.mul (E.v 11) (E.v 12)) (E.v 3)))) (S.seq (S.ret (E.k (D.bl false))) S.skip) S.skip) (S.seq (S.set 13 (E.comp false (Tg.nm 7) [7] (E.iseq (E.idx (E.v 5) (E.k (D.int 0)))) E.yes (E.mth Mth.index (E.idx (E.v 5) (E.k (D.int 1))) (E.cons (E.v 7) E.nil)))) (S.seq (S.set 14 (E.idx (E.call 50 1 (E.cons (E.v 13) E.nil)) (E.k (D.int 0)))) (S.seq (S.ife (E.or (E.not (E.call 51 3 (E.cons (E.idx (E.v 6) (E.k (D.int 0))) (E.cons (E.idx (E.v 6) (E.k (D.int 1))) (E.cons (E.v 14) E.nil))))) (E.cmp Cop.gt (E.call 35 2 (E.cons (E.idx (E.v 6) (E.k (D.int 0))) (E.cons (E.idx (E.v 6) (E.k (D.int 1))) E.nil))) (E.bin Bop.add (E.bin Bop.mul (E.k (D.int 2)) (E.bin Bop.sub (E.v 3) (E.v 11))) (E.call 35 2 (E.cons (E.v 9) (E.cons (E.idx (E.v 6) (E.k (D.int 1))) E.nil)))))) (S.seq (S.ret (E.k (D.bl false))) S.skip) S.skip) (S.seq (S.set 15 (E.comp false (Tg.nm 7) [7] (E.irng 1 (E.cons (E.v 3) E.nil)) E.yes (E.mth Mth.index (E.idx (E.v 5) (E.k (D.int 0))) (E.cons (E.v 7) E.nil)))) (S.seq (S.ife (E.cmp Cop.ne (E.call 35 2 (E.cons (E.mth Mth.join (E.k (D.str [])) (E.cons (E.comp false (Tg.nm 7) [7] (E.iseq (E.v 15)) E.yes (E.idx (E.v 4) (E.v 7))) E.nil)) (E.cons (E.v 9) E.nil))) (E.bin Bop.mul (E.k (D.int 2)) (E.bin Bop.sub (E.v 3) (E.v 11)))) (S.seq (S.ret (E.k (D.bl false))) S.skip) S.skip) (S.seq (S.ife (E.cmp Cop.ne (E.comp false (Tg.nm 7) [7] (E.irng 1 (E.cons (E.v 3) E.nil)) (E.not (E.call 38 2 (E.cons (E.call 47 2 (E.cons (E.idx (E.v 6) (E.k (D.int 0))) (E.cons (E.tup (E.cons (E.idx (E.v 4) (E.v 7)) (E.cons (E.k (D.bl false)) (E.cons (E.k (D.bl true)) E.nil)))) E.nil))) (E.cons (E.tup (E.cons (E.idx (E.v 15) (E.v 7)) E.nil)) E.nil)))) (E.v 7)) (E.lst false E.nil)) (S.seq (S.ret (E.k (D.bl false))) S.skip) S.skip) S.skip)))))))))))))) (S.seq (S.ret (E.k (D.bl true))) S.skip))
theorem t52 : tbOf consts defs 52 = some (1, 16, b52) := by kernel_rfl
end K14
set_option Elab.async false
set_option linter.all false
set_option autoImplicit false
set_option maxRecDepth 100000
set_option maxHeartbeats 1000000
/-! running the mini program by simp -/
namespace Mp
open PySem PySem.Spec L2
open PyProof.Rows hiding St
section
variable {cl : Nat → List D → Hs → Rs} {ς : Env'} {G : Hs}
@[simp] theorem bnd_s {α β : Type} {a : α} {G : Hs} {k : α → Hs → Option β} : bnd (some (a, G)) k = k a G := by rfl
def consK (x : D) (xs : D) (G : Hs) : Rs := match xs with | .tup r => some (.tup (x :: r), G) | _ => none
def argK (k : List D → Hs → Rs) (xs : D) (G : Hs) : Rs := match xs with | .tup ds => k ds G | _ => none
@[simp] theorem consK_s {x : D} {r : List D} : consK x (.tup r) G = some (.tup (x :: r), G) := by rfl
@[simp] theorem argK_s {k : List D → Hs → Rs} {r : List D} : argK k (.tup r) G = k r G := by rfl
@[simp] theorem ev_k1 {d : D} : (ev cl (.k d)).1 ς G = some (d, G) := by rfl
@[simp] theorem ev_v1 {i : Nat} : (ev cl (.v i)).1 ς G = (ς[i]?).bind fun o => o.bind fun d => some (d, G) := by rfl
@[simp] theorem ev_v2 {i : Nat} : (ev cl (.v i)).2 ς G = bnd ((ς[i]?).bind fun o => o.bind fun d => some (d, G)) truD := by rfl
@[simp] theorem ev_bin1 {o : Bop} {a b : E} : (ev cl (.bin o a b)).1 ς G = bnd ((ev cl a).1 ς G) fun x G1 => bnd ((ev cl b).1 ς G1) fun y G2 => binD o x y G2 := by rfl
@[simp] theorem ev_catM1 {a b : E} : (ev cl (.catM a b)).1 ς G = bnd ((ev cl a).1 ς G) fun x G1 => bnd ((ev cl b).1 ς G1) fun y G2 => catM x y G2 := by rfl
@[simp] theorem ev_neg1 {a : E} : (ev cl (.neg a)).1 ς G = bnd ((ev cl a).1 ς G) negD := by rfl
@[simp] theorem ev_cmp1 {o : Cop} {a b : E} : (ev cl (.cmp o a b)).1 ς G = bnd ((ev cl a).1 ς G) fun x G1 => bnd ((ev cl b).1 ς G1) fun y G2 => cmpD o x y G2 := by rfl
@[simp] theorem ev_cmp2 {o : Cop} {a b : E} : (ev cl (.cmp o a b)).2 ς G = blB (bnd ((ev cl a).1 ς G) fun x G1 => bnd ((ev cl b).1 ς G1) fun y G2 => cmpD o x y G2) := by rfl
def chK (o' : Cop) (h3 : Fn) (y : D) (ς : Env') (G2 : Hs) (r : Option Bool) : Rs := r.bind fun b => if b then bnd (h3 ς G2) fun z G3 => cmpD o' y z G3 else some (.bl false, G2)
@[simp] theorem ev_chain1 {o o' : Cop} {a b c : E} : (ev cl (.chain o o' a b c)).1 ς G = bnd ((ev cl a).1 ς G) fun x G1 => bnd ((ev cl b).1 ς G1) fun y G2 => chK o' (ev cl c).1 y ς G2 (cmpB o x y G2) := by rfl
@[simp] theorem ev_chain2 {o o' : Cop} {a b c : E} : (ev cl (.chain o o' a b c)).2 ς G = blB (bnd ((ev cl a).1 ς G) fun x G1 => bnd ((ev cl b).1 ς G1) fun y G2 => chK o' (ev cl c).1 y ς G2 (cmpB o x y G2)) := by rfl
@[simp] theorem chK_t {o' : Cop} {h3 : Fn} {y : D} : chK o' h3 y ς G (some true) = bnd (h3 ς G) fun z G3 => cmpD o' y z G3 := by rfl
@[simp] theorem chK_f {o' : Cop} {h3 : Fn} {y : D} : chK o' h3 y ς G (some false) = some (.bl false, G) := by rfl
@[simp] theorem ev_and1 {a b : E} : (ev cl (.and a b)).1 ς G = bnd (blB ((ev cl a).1 ς G)) fun c G1 => if c then (ev cl b).1 ς G1 else some (.bl false, G1) := by rfl
@[simp] theorem ev_and2 {a b : E} : (ev cl (.and a b)).2 ς G = bnd ((ev cl a).2 ς G) fun c G1 => if c then (ev cl b).2 ς G1 else some (false, G1) := by rfl
@[simp] theorem ev_or1 {a b : E} : (ev cl (.or a b)).1 ς G = bnd (blB ((ev cl a).1 ς G)) fun c G1 => if c then some (.bl true, G1) else (ev cl b).1 ς G1 := by rfl
@[simp] theorem ev_or2 {a b : E} : (ev cl (.or a b)).2 ς G = bnd ((ev cl a).2 ς G) fun c G1 => if c then some (true, G1) else (ev cl b).2 ς G1 := by rfl
@[simp] theorem ev_not1 {a : E} : (ev cl (.not a)).1 ς G = bnd (blB ((ev cl a).1 ς G)) fun b G1 => some (.bl (!b), G1) := by rfl
@[simp] theorem ev_not2 {a : E} : (ev cl (.not a)).2 ς G = bnd ((ev cl a).2 ς G) fun b G1 => some (!b, G1) := by rfl
@[simp] theorem ev_ite1 {c a b : E} : (ev cl (.ite c a b)).1 ς G = bnd ((ev cl c).2 ς G) fun t G1 => if t then (ev cl a).1 ς G1 else (ev cl b).1 ς G1 := by rfl
@[simp] theorem ev_nil1 : (ev cl .nil).1 ς G = some (.tup [], G) := by rfl
@[simp] theorem ev_cons1 {a b : E} : (ev cl (.cons a b)).1 ς G = bnd ((ev cl a).1 ς G) fun x G1 => bnd ((ev cl b).1 ς G1) (consK x) := by rfl
@[simp] theorem ev_tup1 {a : E} : (ev cl (.tup a)).1 ς G = bnd ((ev cl a).1 ς G) (argK tupK) := by rfl
@[simp] theorem ev_lst1 {m : Bool} {a : E} : (ev cl (.lst m a)).1 ς G = bnd ((ev cl a).1 ς G) (argK (lstK m)) := by rfl
@[simp] theorem ev_idx1 {a b : E} : (ev cl (.idx a b)).1 ς G = bnd ((ev cl a).1 ς G) fun x G1 => bnd ((ev cl b).1 ς G1) fun y G2 => idxD x y G2 := by rfl
@[simp] theorem ev_sl1 {m : Bool} {a lo hi : E} : (ev cl (.sl m a lo hi)).1 ς G = slF m (ev cl a).1 (if isNil lo then none else some (ev cl lo).1) (if isNil hi then none else some (ev cl hi).1) ς G := by rfl
@[simp] theorem slF_s {m : Bool} {f : Fn} {lo hi : Option Fn} : slF m f lo hi ς G = bnd (f ς G) fun x G1 => bnd (partD lo ς G1) fun l G2 => bnd (partD hi ς G2) fun u G3 => slD m x l u G3 := by rfl
@[simp] theorem partD_n : partD none ς G = some (none, G) := by rfl
@[simp] theorem partD_s {f : Fn} : partD (some f) ς G = bnd (f ς G) partI := by rfl
@[simp] theorem partI_i {i : Int} : partI (.int i) G = some (some i, G) := by rfl
@[simp] theorem ev_rev1 {m : Bool} {a : E} : (ev cl (.rev m a)).1 ς G = bnd ((ev cl a).1 ς G) (revD m) := by rfl
@[simp] theorem ev_isi1 {t : Ty} {a : E} : (ev cl (.isi t a)).1 ς G = bnd ((ev cl a).1 ς G) (isiD t) := by rfl
@[simp] theorem ev_isi2 {t : Ty} {a : E} : (ev cl (.isi t a)).2 ς G = bnd (bnd ((ev cl a).1 ς G) (isiD t)) truD := by rfl
@[simp] theorem ev_blt1 {b : Blt} {a : E} : (ev cl (.blt b a)).1 ς G = bnd ((ev cl a).1 ς G) (argK b.k) := by rfl
@[simp] theorem ev_mth1 {b : Mth} {o a : E} : (ev cl (.mth b o a)).1 ς G = bnd ((ev cl o).1 ς G) fun o G1 => if hasTy b.ty o G1 = true then bnd ((ev cl a).1 ς G1) (argK (b.k o)) else none := by rfl
@[simp] theorem ev_mth01 {b : Mth} {o : E} : (ev cl (.mth0 b o)).1 ς G = bnd ((ev cl o).1 ς G) fun o G1 => if hasTy b.ty o G1 = true then b.k o [] G1 else none := by rfl
@[simp] theorem ev_call1 {f n : Nat} {a : E} : (ev cl (.call f n a)).1 ς G = bnd ((ev cl a).1 ς G) (argK fun ds G => if ds.length = n then cl f ds G else none) := by rfl
@[simp] theorem ev_call2 {f n : Nat} {a : E} : (ev cl (.call f n a)).2 ς G = bnd (bnd ((ev cl a).1 ς G) (argK fun ds G => if ds.length = n then cl f ds G else none)) truD := by rfl
@[simp] theorem ev_lrg1 {m : Bool} {n : Nat} {a : E} : (ev cl (.lrg m n a)).1 ς G = bnd ((ev cl a).1 ς G) (argK fun ds G => if ds.length = n then lrgK m ds G else none) := by rfl
@[simp] theorem ev_lrev1 {m : Bool} {a : E} : (ev cl (.lrev m a)).1 ς G = bnd ((ev cl a).1 ς G) (lrevK m) := by rfl
@[simp] theorem ev_comp1 {m : Bool} {t : Tg} {own : List Nat} {it c e : E} : (ev cl (.comp m t own it c e)).1 ς G = bnd ((ev cl it).1 ς G) (argK fun ds G1 => bnd (loopC (ev cl c).2 (ev cl e).1 t (wipeE ς own) ds [] G1) (newD m)) := by rfl
@[simp] theorem ev_gen1 {sb : Bool} {t : Tg} {own : List Nat} {it e : E} : (ev cl (.gen sb t own it e)).1 ς G = bnd ((ev cl it).1 ς G) (argK fun ds G1 => loopG sb (ev cl e).1 t (wipeE ς own) ds G1) := by rfl
@[simp] theorem ev_gen2 {sb : Bool} {t : Tg} {own : List Nat} {it e : E} : (ev cl (.gen sb t own it e)).2 ς G = bnd (bnd ((ev cl it).1 ς G) (argK fun ds G1 => loopG sb (ev cl e).1 t (wipeE ς own) ds G1)) truD := by rfl
@[simp] theorem ev_iseq1 {a : E} : (ev cl (.iseq a)).1 ς G = bnd ((ev cl a).1 ς G) seqK := by rfl
@[simp] theorem ev_irng1 {n : Nat} {a : E} : (ev cl (.irng n a)).1 ς G = bnd ((ev cl a).1 ς G) (argK (arity n rngK)) := by rfl
@[simp] theorem ev_izip1 {a : E} : (ev cl (.izip a)).1 ς G = bnd ((ev cl a).1 ς G) (argK zipK) := by rfl
@[simp] theorem ev_ienum1 {a : E} : (ev cl (.ienum a)).1 ς G = bnd ((ev cl a).1 ς G) (argK enumK) := by rfl
@[simp] theorem ev_yes2 : (ev cl .yes).2 ς G = some (true, G) := by rfl
@[simp] theorem ev_frz1 {i : Nat} : (ev cl (.frz i)).1 ς G = (ς[i]?).bind fun o => o.bind fun d => frzK d G := by rfl
@[simp] theorem isNil_nil : isNil .nil = true := by rfl
@[simp] theorem isNil_v {i : Nat} : isNil (.v i) = false := by rfl
@[simp] theorem isNil_k {d : D} : isNil (.k d) = false := by rfl
@[simp] theorem isNil_bin {o : Bop} {a b : E} : isNil (.bin o a b) = false := by rfl
@[simp] theorem isNil_idx {a b : E} : isNil (.idx a b) = false := by rfl
@[simp] theorem isNil_blt {f : Blt} {a : E} : isNil (.blt f a) = false := by rfl
/-! data -/
@[simp] theorem blB_b {b : Bool} : blB (some (.bl b, G)) = some (b, G) := by rfl
@[simp] theorem truD_b {b : Bool} : truD (.bl b) G = some (b, G) := by rfl
@[simp] theorem cmpD_s {o : Cop} {x y : D} : cmpD o x y G = (cmpB o x y G).map fun b => (.bl b, G) := by rfl
@[simp] theorem bin_addi {i j : Int} : binD .add (.int i) (.int j) G = some (.int (i + j), G) := by rfl
@[simp] theorem bin_subi {i j : Int} : binD .sub (.int i) (.int j) G = some (.int (i - j), G) := by rfl
@[simp] theorem bin_adds {a b : List Nat} : binD .add (.str a) (.str b) G = if a.length + b.length ≤ sizeLine then some (.str (a ++ b), G) else none := by rfl
@[simp] theorem bin_addt {a b : List D} : binD .add (.tup a) (.tup b) G = if a.length + b.length ≤ sizeLine then some (.tup (a ++ b), G) else none := by rfl
@[simp] theorem bin_addl {a b : List D} : binD .add (.lst a) (.lst b) G = if a.length + b.length ≤ sizeLine then some (.lst (a ++ b), G) else none := by rfl
@[simp] theorem cmp_ltI {i j : Int} : cmpB .lt (.int i) (.int j) G = some (decide (i < j)) := by rfl
@[simp] theorem cmp_leI {i j : Int} : cmpB .le (.int i) (.int j) G = some (decide (i ≤ j)) := by rfl
@[simp] theorem cmp_gtI {i j : Int} : cmpB .gt (.int i) (.int j) G = some (decide (j < i)) := by rfl
@[simp] theorem cmp_geI {i j : Int} : cmpB .ge (.int i) (.int j) G = some (decide (j ≤ i)) := by rfl
@[simp] theorem cmp_eqI {i j : Int} : cmpB .eq (.int i) (.int j) G = some (i == j) := by rfl
@[simp] theorem cmp_neI {i j : Int} : cmpB .ne (.int i) (.int j) G = some (!(i == j)) := by rfl
@[simp] theorem cmp_eqS {i j : List Nat} : cmpB .eq (.str i) (.str j) G = some (i == j) := by rfl
@[simp] theorem cmp_neS {i j : List Nat} : cmpB .ne (.str i) (.str j) G = some (!(i == j)) := by rfl
@[simp] theorem cmp_leS {i j : List Nat} : cmpB .le (.str i) (.str j) G = some (!decide (j < i)) := by rfl
@[simp] theorem tupK_s {ds : List D} : tupK ds G = if ds.length ≤ sizeLine then some (.tup ds, G) else none := by rfl
@[simp] theorem lstK_s {m : Bool} {ds : List D} : lstK m ds G = if ds.length ≤ sizeLine then newD m ds G else none := by rfl
@[simp] theorem newD_f {ds : List D} : newD false ds G = some (.lst ds, G) := by rfl
@[simp] theorem newD_t {ds : List D} : newD true ds G = some (.ref G.length, G ++ [.lst ds]) := by rfl
@[simp] theorem blt_len {ds : List D} : Blt.len.k ds G = one lenD ds G := by rfl
@[simp] theorem blt_min2 {ds : List D} : Blt.min2.k ds G = two min2D ds G := by rfl
@[simp] theorem blt_max2 {ds : List D} : Blt.max2.k ds G = two max2D ds G := by rfl
@[simp] theorem blt_int {ds : List D} : Blt.int.k ds G = one intD ds G := by rfl
@[simp] theorem blt_abs {ds : List D} : Blt.abs.k ds G = one absD ds G := by rfl
@[simp] theorem blt_sum {ds : List D} : Blt.sum.k ds G = one sumD ds G := by rfl
@[simp] theorem blt_list {m : Bool} {ds : List D} : (Blt.list m).k ds G = one (listD m) ds G := by rfl
@[simp] theorem blt_tuple {ds : List D} : Blt.tuple.k ds G = one tupD ds G := by rfl
@[simp] theorem blt_dict {ds : List D} : Blt.dict.k ds G = one dictD ds G := by rfl
@[simp] theorem one_s {f : D → Hs → Rs} {d : D} : one f [d] G = f d G := by rfl
@[simp] theorem two_s {f : D → D → Hs → Rs} {d e : D} : two f [d, e] G = f d e G := by rfl
@[simp] theorem len_str {cs : List Nat} : lenD (.str cs) G = if cs.length ≤ sizeLine then some (.int cs.length, G) else none := by rfl
@[simp] theorem len_tup {ds : List D} : lenD (.tup ds) G = some (.int ds.length, G) := by rfl
@[simp] theorem len_lst {ds : List D} : lenD (.lst ds) G = some (.int ds.length, G) := by rfl
@[simp] theorem min2_s {i j : Int} : min2D (.int i) (.int j) G = some (.int (if j < i then j else i), G) := by rfl
@[simp] theorem max2_s {i j : Int} : max2D (.int i) (.int j) G = some (.int (if j > i then j else i), G) := by rfl
@[simp] theorem int_s {i : Int} : intD (.int i) G = some (.int i, G) := by rfl
@[simp] theorem abs_s {i : Int} : absD (.int i) G = some (.int (if i < 0 then -i else i), G) := by rfl
@[simp] theorem tup_t {ds : List D} : tupD (.tup ds) G = some (.tup ds, G) := by rfl
@[simp] theorem tup_l {ds : List D} : tupD (.lst ds) G = some (.tup ds, G) := by rfl
@[simp] theorem idx_tup {ds : List D} {k : Int} : idxD (.tup ds) (.int k) G = (atI ds k).map fun d => (d, G) := by rfl
@[simp] theorem idx_lst {ds : List D} {k : Int} : idxD (.lst ds) (.int k) G = (atI ds k).map fun d => (d, G) := by rfl
@[simp] theorem idx_str {cs : List Nat} {k : Int} : idxD (.str cs) (.int k) G = if cs.length ≤ sizeLine then (atI cs k).map fun c => (.str [c], G) else none := by rfl
@[simp] theorem sl_str {m : Bool} {cs : List Nat} {lo hi : Option Int} : slD m (.str cs) lo hi G = if cs.length ≤ sizeLine then some (.str (cutN cs lo hi), G) else none := by rfl
@[simp] theorem sl_tup {m : Bool} {ds : List D} {lo hi : Option Int} : slD m (.tup ds) lo hi G = some (.tup (cutN ds lo hi), G) := by rfl
@[simp] theorem sl_lst {ds : List D} {lo hi : Option Int} : slD false (.lst ds) lo hi G = some (.lst (cutN ds lo hi), G) := by rfl
@[simp] theorem rev_str {m : Bool} {cs : List Nat} : revD m (.str cs) G = if cs.length ≤ sizeLine then some (.str cs.reverse, G) else none := by rfl
@[simp] theorem rev_tup' {m : Bool} {ds : List D} : revD m (.tup ds) G = some (.tup ds.reverse, G) := by rfl
@[simp] theorem rev_lst {ds : List D} : revD false (.lst ds) G = some (.lst ds.reverse, G) := by rfl
@[simp] theorem seq_tup {ds : List D} : seqK (.tup ds) G = some (.tup ds, G) := by rfl
@[simp] theorem seq_lst {ds : List D} : seqK (.lst ds) G = some (.tup ds, G) := by rfl
@[simp] theorem seq_str {cs : List Nat} : seqK (.str cs) G = some (.tup (cs.map fun c => .str [c]), G) := by rfl
@[simp] theorem isi_s {t : Ty} {d : D} : isiD t d G = (tyD G d).bind fun t' => some (.bl (t' == t.nm || (t' == "bool" && t.nm == "int")), G) := by rfl
@[simp] theorem ty_int {i : Int} : tyD G (.int i) = some "int" := by rfl
@[simp] theorem ty_str {i : List Nat} : tyD G (.str i) = some "str" := by rfl
@[simp] theorem ty_tup {i : List D} : tyD G (.tup i) = some "tuple" := by rfl
@[simp] theorem ty_lst {i : List D} : tyD G (.lst i) = some "list" := by rfl
@[simp] theorem ty_bl {i : Bool} : tyD G (.bl i) = some "bool" := by rfl
@[simp] theorem nm_int : Ty.int.nm = "int" := by rfl
@[simp] theorem nm_bool : Ty.bool.nm = "bool" := by rfl
@[simp] theorem nm_str : Ty.str.nm = "str" := by rfl
@[simp] theorem nm_tup : Ty.tuple.nm = "tuple" := by rfl
@[simp] theorem nm_lst : Ty.list.nm = "list" := by rfl
/-! statements -/
@[simp] theorem evS_seq {a b : S} : evS cl (.seq a b) ς G = (evS cl a ς G).bind fun o => match o with | .nx ς1 G1 => evS cl b ς1 G1 | o => some o := by rfl
@[simp] theorem evS_skip : evS cl .skip ς G = some (.nx ς G) := by rfl
@[simp] theorem evS_set {i : Nat} {e : E} : evS cl (.set i e) ς G = bnd ((ev cl e).1 ς G) fun d G1 => some (.nx (ς.set i (some d)) G1) := by rfl
@[simp] theorem evS_tgt {t : Tg} {e : E} : evS cl (.tgt t e) ς G = bnd ((ev cl e).1 ς G) fun d G1 => (bindL t [d] ς).bind fun ς1 => some (.nx ς1 G1) := by rfl
def p2K (i j : Nat) (ς : Env') (d : D) (G1 : Hs) : Option Res := match d with | .tup [a, b] => some (.nx ((ς.set i (some a)).set j (some b)) G1) | _ => none
def p3K (i j l : Nat) (ς : Env') (d : D) (G1 : Hs) : Option Res := match d with | .tup [a, b, c] => some (.nx (((ς.set i (some a)).set j (some b)).set l (some c)) G1) | _ => none
@[simp] theorem evS_par2 {i j : Nat} {e : E} : evS cl (.par2 i j e) ς G = bnd ((ev cl e).1 ς G) (p2K i j ς) := by rfl
@[simp] theorem evS_par3 {i j l : Nat} {e : E} : evS cl (.par3 i j l e) ς G = bnd ((ev cl e).1 ς G) (p3K i j l ς) := by rfl
@[simp] theorem p2K_s {i j : Nat} {a b : D} : p2K i j ς (.tup [a, b]) G = some (.nx ((ς.set i (some a)).set j (some b)) G) := by rfl
@[simp] theorem p3K_s {i j l : Nat} {a b c : D} : p3K i j l ς (.tup [a, b, c]) G = some (.nx (((ς.set i (some a)).set j (some b)).set l (some c)) G) := by rfl
@[simp] theorem evS_aug {i : Nat} {o : Aop} {e : E} : evS cl (.aug i o e) ς G = (ς[i]?).bind fun q => q.bind fun d0 => bnd ((ev cl e).1 ς G) fun d G1 => bnd (augK o d0 d G1) fun z G2 => some (.nx (ς.set i (some z)) G2) := by rfl
@[simp] theorem aug_add {i j : Int} : augK .add (.int i) (.int j) G = some (.int (i + j), G) := by rfl
@[simp] theorem evS_drop {e : E} : evS cl (.drop e) ς G = bnd ((ev cl e).1 ς G) fun _ G1 => some (.nx ς G1) := by rfl
@[simp] theorem evS_ret {e : E} : evS cl (.ret e) ς G = bnd ((ev cl e).1 ς G) fun d G1 => some (.rt d G1) := by rfl
@[simp] theorem evS_ife {c : E} {a b : S} : evS cl (.ife c a b) ς G = bnd ((ev cl c).2 ς G) fun b' G1 => if b' = true then evS cl a ς G1 else evS cl b ς G1 := by rfl
@[simp] theorem evS_bad : evS cl .bad ς G = none := by rfl
@[simp] theorem outD_rt {d : D} : outD (.rt d G) = some (d, G) := by rfl
@[simp] theorem evS_for {t : Tg} {it : E} {b : S} : evS cl (.for_ t it b) ς G = bnd ((ev cl it).1 ς G) fun xs G1 => match xs with | .tup ds => loopF t (evS cl b) ds ς G1 | _ => none := by rfl
@[simp] theorem evS_whl {n : Nat} {c : E} {b : S} : evS cl (.whl n c b) ς G = loopW (ev cl c).2 (evS cl b) n ς G := by rfl
@[simp] theorem bindL_nm {i : Nat} {d : D} : bindL (.nm i) [d] ς = some (ς.set i (some d)) := by cases d <;> rfl
@[simp] theorem bindL_tp {l : Tg} {ds : List D} : bindL (.tp l) [.tup ds] ς = bindL l ds ς := by rfl
@[simp] theorem bindL_nil : bindL .nil [] ς = some ς := by rfl
@[simp] theorem bindL_cons {a b : Tg} {d : D} {ds : List D} : bindL (.cons a b) (d :: ds) ς = (bindL a [d] ς).bind (bindL b ds) := by cases a <;> rfl
end
end Mp
namespace K14
open PySem PySem.Spec L2 Mp
open PyProof.Rows hiding St

abbrev F := callF (tbOf consts defs)
theorem run_ {m j np ns : Nat} {b : S} {as : List D} {G : Hs} {r : Rs} (ht : tbOf consts defs j = some (np, ns, b)) (hl : as.length = np) (hm : 0 < m) (e : (evS (F (m - 1)) b (as.map some ++ List.replicate (ns - np) none) G).bind outD = r) : F m j as G = r := by
  obtain ⟨n, rfl⟩ : ∃ n, m = n + 1 := ⟨m - 1, by omega⟩
  show ((tbOf consts defs j).bind fun q => if as.length = q.1 then (evS (F n) q.2.2 (as.map some ++ List.replicate (q.2.1 - q.1) none) G).bind outD else none) = r
  rw [ht]
  simp only [Option.bind_some, hl, if_true]
  exact e
theorem cut_to {α : Type} (xs : List α) (p : Nat) : cutN xs none (some (p : Int)) = xs.take p := by
  unfold cutN
  rw [HT.sIx_none, HT.sIx_nat, List.drop_zero, Nat.sub_zero]
  simp
theorem cut_from {α : Type} (xs : List α) (p : Nat) : cutN xs (some (p : Int)) none = xs.drop p := by
  unfold cutN
  rw [HT.sIx_none, HT.sIx_nat]
  apply List.ext_getElem?
  intro i
  simp only [List.getElem?_take, List.getElem?_drop]
  by_cases h : p ≤ xs.length
  · rw [Nat.min_eq_left h]
    split
    · rfl
    · rw [List.getElem?_eq_none (by omega)]
  · rw [Nat.min_eq_right (by omega), List.getElem?_eq_none (by omega), List.getElem?_eq_none (by omega)]
    simp
theorem cut_both {α : Type} (xs : List α) (p q : Nat) : cutN xs (some (p : Int)) (some (q : Int)) = (xs.drop p).take (q - p) := by
  unfold cutN
  rw [HT.sIx_nat, HT.sIx_nat]
  apply List.ext_getElem?
  intro i
  simp only [List.getElem?_take, List.getElem?_drop]
  by_cases h : p ≤ xs.length
  · rw [Nat.min_eq_left h]
    split <;> split <;> first | rfl | omega | (rw [List.getElem?_eq_none (by omega)])
  · rw [Nat.min_eq_right (by omega : xs.length ≤ p), List.getElem?_eq_none (by omega), List.getElem?_eq_none (by omega)]
    simp
theorem sz : sizeLine = 16777216 := sizeLine_eq
def dE (p g : Nat) (c : List Nat) : D := .tup [.int p, .int g, .str c]

theorem cut_from2 {α : Type} (xs : List α) (p q : Nat) : cutN xs (some ((p : Int) + (q : Int))) none = xs.drop (p + q) := cut_from xs (p + q)
theorem put_in_run {m : Nat} (hm : 1 ≤ m) {G : Hs} {t c : List Nat} {p g : Nat} (h : t.length + c.length ≤ 8000000) : F m 5 [.str t, dE p g c] G = some (.str (t.take p ++ c ++ t.drop (p + g)), G) := by
  refine run_ t5 rfl hm ?_
  have h1 : t.length ≤ 16777216 := by omega
  have h2 : min p t.length + c.length ≤ 16777216 := by omega
  have h3 : min p t.length + (c.length + (t.length - (p + g))) ≤ 16777216 := by omega
  have h4 : min p t.length + c.length + (t.length - (p + g)) ≤ 16777216 := by omega
  simp [b5, dE, cut_to, cut_from2, sz, h1, h2, h3, h4]

/-! texts -/
def Sg (t : List Nat) : Prop := ∀ c ∈ t, c = 10 ∨ (32 ≤ c ∧ c ≤ 126)
def okE (t : List Nat) (p g : Nat) (c : List Nat) : Prop := p + g ≤ t.length ∧ Sg c ∧ t.length - g + c.length ≤ 2000 ∧ c.length ≤ 2000
theorem is_number_run {m : Nat} (hm : 1 ≤ m) {G : Hs} {v lo hi : Int} : F m 0 [.int v, .int lo, .int hi] G = some (.bl (decide (lo ≤ v) && decide (v ≤ hi)), G) := by
  refine run_ t0 rfl hm ?_
  by_cases h : lo ≤ v <;> simp [b0, h]
theorem is_signs_run {m : Nat} (hm : 1 ≤ m) {G : Hs} {t : List Nat} (h : Sg t) : F m 1 [.str t] G = some (.bl true, G) := by
  refine run_ t1 rfl hm ?_
  simp [b1]
  have key : ∀ (t : List Nat) (f : Fn) (ς : Env'), (∀ c ∈ t, f (ς.set 1 (some (.str [c]))) G = some (.bl true, G)) → loopG false f (.nm 1) ς (t.map fun c => .str [c]) G = some (.bl true, G) := by
    intro t f ς hf
    induction t with
    | nil => rfl
    | cons c t ih =>
      simp only [List.map_cons, loopG, bindL_nm, Option.bind_some, hf c (by simp), blB_b, bnd_s]
      rw [if_neg (by decide)]
      exact ih fun d hd => hf d (by simp [hd])
  rw [key _ _ _ fun c hc => ?_]
  · rfl
  · rcases h c hc with rfl | ⟨h1, h2⟩
    · simp [wipeE]
    · by_cases e : c = 10
      · subst e; simp [wipeE]
      · have e1 : ¬ c < 32 := by omega
        have e2 : ¬ 126 < c := by omega
        simp [wipeE, e, List.cons_lt_cons_iff, e1, e2]
theorem is_text_run {m : Nat} (hm : 2 ≤ m) {G : Hs} {t : List Nat} (h : Sg t) (hl : t.length ≤ 2000) : F m 2 [.str t] G = some (.bl true, G) := by
  refine run_ t2 rfl (by omega) ?_
  have h1 : t.length ≤ 16777216 := by omega
  have h2 : (t.length : Int) ≤ 2000 := by omega
  simp [b2, is_signs_run (m := m - 1) (by omega) h, h1, h2, sz]
theorem at3_0 {a b c : D} : atI [a, b, c] 0 = some a := rfl
theorem at3_1 {a b c : D} : atI [a, b, c] 1 = some b := rfl
theorem at3_2 {a b c : D} : atI [a, b, c] 2 = some c := rfl
theorem is_change_run {m : Nat} (hm : 3 ≤ m) {G : Hs} {t c : List Nat} {p g : Nat} (hl : t.length ≤ 5000) (h1 : p + g ≤ t.length) (h2 : Sg c) (h3 : c.length ≤ 2000) : F m 3 [.str t, dE p g c] G = some (.bl true, G) := by
  refine run_ t3 rfl (by omega) ?_
  have e1 : t.length ≤ 16777216 := by omega
  have e2 : (p : Int) ≤ t.length := by omega
  have e3 : (g : Int) ≤ (t.length : Int) - p := by omega
  simp [b3, dE, at3_0, at3_1, at3_2, is_text_run (m := m - 1) (by omega) h2 h3, is_number_run (m := m - 1) (by omega), e1, e2, e3, sz]
theorem is_edit_run {m : Nat} (hm : 4 ≤ m) {G : Hs} {t c : List Nat} {p g : Nat} (hl : t.length ≤ 5000) (h : okE t p g c) : F m 4 [.str t, dE p g c] G = some (.bl true, G) := by
  obtain ⟨h1, h2, h3, h4⟩ := h
  refine run_ t4 rfl (by omega) ?_
  have e1 : t.length ≤ 16777216 := by omega
  have e2 : (t.length : Int) - g + c.length ≤ 2000 := by omega
  have e3 : c.length ≤ 16777216 := by omega
  have e := is_change_run (m := m - 1) (by omega) (G := G) hl h1 h2 h4
  unfold dE at e ⊢
  simp [b4, at3_0, at3_1, at3_2, e, e1, e2, e3, sz]
def put (t : List Nat) (p g : Nat) (c : List Nat) : List Nat := t.take p ++ c ++ t.drop (p + g)
end K14
set_option Elab.async false
set_option linter.all false
set_option autoImplicit false
set_option maxRecDepth 100000
set_option maxHeartbeats 1000000
namespace Mp
open PySem PySem.Spec L2
open PyProof.Rows hiding St
/-! loops -/
theorem loopW_run {c : FB} {f : FS} (I : Nat → Env' → Hs → Prop) (Q : Env' → Hs → Prop)
    (step : ∀ m ς G, I m ς G → ∃ b G1, c ς G = some (b, G1) ∧ (b = false → Q ς G1) ∧ (b = true → ∃ m' ς' G', m' < m ∧ f ς G1 = some (.nx ς' G') ∧ I m' ς' G')) :
    ∀ (n m : Nat) ς G, I m ς G → m < n → ∃ ς' G', loopW c f n ς G = some (.nx ς' G') ∧ Q ς' G'
  | 0, _, _, _, _, h => absurd h (Nat.not_lt_zero _)
  | n + 1, m, ς, G, i, h => by
    obtain ⟨b, G1, e1, h1, h2⟩ := step m ς G i
    cases b with
    | false => exact ⟨ς, G1, by simp [loopW, e1], h1 rfl⟩
    | true =>
      obtain ⟨m', ς', G', hm, e2, i'⟩ := h2 rfl
      obtain ⟨ς2, G2, e3, q⟩ := loopW_run I Q step n m' ς' G' i' (by omega)
      exact ⟨ς2, G2, by simp [loopW, e1, e2, e3], q⟩
theorem loopF_run {t : Tg} {f : FS} (I : List D → Env' → Hs → Prop) (step : ∀ d ds ς G, I (d :: ds) ς G → ∃ ς1 ς' G', bindL t [d] ς = some ς1 ∧ f ς1 G = some (.nx ς' G') ∧ I ds ς' G') :
    ∀ ds ς G, I ds ς G → ∃ ς' G', loopF t f ds ς G = some (.nx ς' G') ∧ I [] ς' G'
  | [], ς, G, i => ⟨ς, G, rfl, i⟩
  | d :: ds, ς, G, i => by
    obtain ⟨ς1, ς', G', e1, e2, i'⟩ := step d ds ς G i
    obtain ⟨ς2, G2, e3, q⟩ := loopF_run I step ds ς' G' i'
    exact ⟨ς2, G2, by simp [loopF, e1, e2, e3], q⟩
theorem loopG_all {f : Fn} {t : Tg} {ς : Env'} {G : Hs} : ∀ {ds : List D}, (∀ d ∈ ds, ∃ ς1, bindL t [d] ς = some ς1 ∧ f ς1 G = some (.bl true, G)) → loopG false f t ς ds G = some (.bl true, G)
  | [], _ => rfl
  | d :: ds, h => by
    obtain ⟨ς1, e1, e2⟩ := h d (by simp)
    simp only [loopG, e1, Option.bind_some, e2, blB_b, bnd_s]
    rw [if_neg (by decide)]
    exact loopG_all fun d hd => h d (by simp [hd])
theorem loopC_filter {c : FB} {e : Fn} {t : Tg} {ς : Env'} {G : Hs} (p : D → Bool) (f : D → D) : ∀ {ds acc : List D}, (∀ d ∈ ds, ∃ ς1, bindL t [d] ς = some ς1 ∧ c ς1 G = some (p d, G) ∧ (p d = true → e ς1 G = some (f d, G))) → acc.length + ds.length ≤ sizeLine →
    loopC c e t ς ds acc G = some (acc ++ (ds.filter p).map f, G)
  | [], acc, _, _ => by simp [loopC]
  | d :: ds, acc, h, hl => by
    obtain ⟨ς1, e1, e2, e3⟩ := h d (by simp)
    simp only [List.length_cons] at hl
    simp only [loopC, e1, Option.bind_some, e2, bnd_s]
    cases hp : p d with
    | true =>
      rw [if_pos rfl, e3 hp, bnd_s, if_pos (by omega), loopC_filter p f (fun d hd => h d (by simp [hd])) (by simp; omega)]
      simp [List.filter_cons, hp]
    | false =>
      rw [if_neg (by decide), loopC_filter p f (fun d hd => h d (by simp [hd])) (by omega)]
      simp [List.filter_cons, hp]
theorem loopC_map {c : FB} {e : Fn} {t : Tg} {ς : Env'} {G : Hs} (f : D → D) {ds : List D} (h : ∀ d ∈ ds, ∃ ς1, bindL t [d] ς = some ς1 ∧ c ς1 G = some (true, G) ∧ e ς1 G = some (f d, G)) (hl : ds.length ≤ sizeLine) :
    loopC c e t ς ds [] G = some (ds.map f, G) := by
  have := loopC_filter (c := c) (e := e) (t := t) (ς := ς) (G := G) (fun _ => true) f (ds := ds) (acc := []) (fun d hd => let ⟨a, b, c, d⟩ := h d hd; ⟨a, b, c, fun _ => d⟩) (by simpa using hl)
  rw [this, List.nil_append, List.filter_eq_self.mpr (fun _ _ => rfl)]
end Mp
namespace K14
open PySem PySem.Spec L2 Mp
open PyProof.Rows hiding St

theorem atS {cs : List Nat} {i : Nat} (h : i < cs.length) : atI cs (i : Int) = some cs[i] := by
  rw [atI_nat (j := i) (List.getElem?_eq_getElem h)]
/-! common_ahead, common_behind, between -/
theorem ahead_run {m : Nat} (hm : 1 ≤ m) {G : Hs} {a b : List Nat} (ha : a.length ≤ 5000) (hb : b.length ≤ 5000) :
    ∃ k : Nat, k ≤ a.length ∧ k ≤ b.length ∧ a.take k = b.take k ∧ F m 8 [.str a, .str b] G = some (.int k, G) := by
  have e1 : a.length ≤ 16777216 := by omega
  have e2 : b.length ≤ 16777216 := by omega
  obtain ⟨ς', G', e, k, h1, h2, h3, h4, h5⟩ := loopW_run (c := (ev (F (m - 1)) (E.and (E.cmp Cop.lt (E.v 2) (E.blt Blt.min2 (E.cons (E.blt Blt.len (E.cons (E.v 0) E.nil)) (E.cons (E.blt Blt.len (E.cons (E.v 1) E.nil)) E.nil)))) (E.cmp Cop.eq (E.idx (E.v 0) (E.v 2)) (E.idx (E.v 1) (E.v 2))))).2) (f := evS (F (m - 1)) (S.seq (S.aug 2 Aop.add (E.k (D.int 1))) S.skip))
    (fun n ς G' => ∃ k : Nat, k ≤ a.length ∧ k ≤ b.length ∧ a.take k = b.take k ∧ n = a.length - k ∧ ς = [some (.str a), some (.str b), some (.int k)] ∧ G' = G)
    (fun ς G' => ∃ k : Nat, k ≤ a.length ∧ k ≤ b.length ∧ a.take k = b.take k ∧ ς = [some (.str a), some (.str b), some (.int k)] ∧ G' = G)
    (fun n ς G' ⟨k, h1, h2, h3, h4, h5, h6⟩ => by
      subst h5 h6
      by_cases hk : k < a.length ∧ k < b.length
      · have i1 : (k : Int) < (if b.length < a.length then (b.length : Int) else a.length) := by split <;> omega
        refine ⟨a[k] == b[k], G', by simp [e1, e2, sz, i1, atS hk.1, atS hk.2], fun hq => ⟨k, h1, h2, h3, rfl, rfl⟩, fun hq => ⟨a.length - (k + 1), _, G', by omega, by simp, k + 1, hk.1, hk.2, ?_, rfl, rfl, rfl⟩⟩
        have hq : a[k] = b[k] := by simpa using hq
        rw [List.take_succ_eq_append_getElem hk.1, List.take_succ_eq_append_getElem hk.2, h3, hq]
      · have i1 : ¬ (k : Int) < (if b.length < a.length then (b.length : Int) else a.length) := by split <;> omega
        exact ⟨false, G', by simp [e1, e2, sz, i1], fun _ => ⟨k, h1, h2, h3, rfl, rfl⟩, fun h => by cases h⟩)
    100000 a.length [some (.str a), some (.str b), some (.int 0)] G ⟨0, Nat.zero_le _, Nat.zero_le _, rfl, rfl, rfl, rfl⟩ (by omega)
  refine ⟨k, h1, h2, h3, run_ t8 rfl hm ?_⟩
  simp only [b8, evS_seq, evS_set, ev_k1, bnd_s, Option.bind_some, evS_whl]
  have e0 : ((List.map some [D.str a, D.str b] ++ List.replicate (3 - 2) none : Env').set 2 (some (D.int 0))) = [some (.str a), some (.str b), some (.int 0)] := rfl
  rw [e0, e, h4, h5]
  simp
theorem behind_run {m : Nat} (hm : 1 ≤ m) {G : Hs} {a b : List Nat} {mo : Nat} (ha : a.length ≤ 5000) (hb : b.length ≤ 5000) (h1 : mo ≤ a.length) (h2 : mo ≤ b.length) :
    ∃ k : Nat, k ≤ mo ∧ a.drop (a.length - k) = b.drop (b.length - k) ∧ F m 9 [.str a, .str b, .int mo] G = some (.int k, G) := by
  have e1 : a.length ≤ 16777216 := by omega
  have e2 : b.length ≤ 16777216 := by omega
  obtain ⟨ς', G', e, k, k1, k2, h4, h5⟩ := loopW_run (c := (ev (F (m - 1)) (E.and (E.cmp Cop.lt (E.v 3) (E.v 2)) (E.cmp Cop.eq (E.idx (E.v 0) (E.bin Bop.sub (E.bin Bop.sub (E.blt Blt.len (E.cons (E.v 0) E.nil)) (E.k (D.int 1))) (E.v 3))) (E.idx (E.v 1) (E.bin Bop.sub (E.bin Bop.sub (E.blt Blt.len (E.cons (E.v 1) E.nil)) (E.k (D.int 1))) (E.v 3)))))).2) (f := evS (F (m - 1)) (S.seq (S.aug 3 Aop.add (E.k (D.int 1))) S.skip))
    (fun n ς G' => ∃ k : Nat, k ≤ mo ∧ a.drop (a.length - k) = b.drop (b.length - k) ∧ n = mo - k ∧ ς = [some (.str a), some (.str b), some (.int mo), some (.int k)] ∧ G' = G)
    (fun ς G' => ∃ k : Nat, k ≤ mo ∧ a.drop (a.length - k) = b.drop (b.length - k) ∧ ς = [some (.str a), some (.str b), some (.int mo), some (.int k)] ∧ G' = G)
    (fun n ς G' ⟨k, k1, k2, k3, k4, k5⟩ => by
      subst k4 k5
      by_cases hk : k < mo
      · have i1 : (k : Int) < mo := by omega
        have l1 : a.length - (k + 1) < a.length := by omega
        have l2 : b.length - (k + 1) < b.length := by omega
        have x1 : (a.length : Int) - 1 - k = ((a.length - (k + 1) : Nat) : Int) := by omega
        have x2 : (b.length : Int) - 1 - k = ((b.length - (k + 1) : Nat) : Int) := by omega
        have y1 : atI a ((a.length : Int) - 1 - k) = some a[a.length - (k + 1)] := by rw [x1]; exact atS l1
        have y2 : atI b ((b.length : Int) - 1 - k) = some b[b.length - (k + 1)] := by rw [x2]; exact atS l2
        refine ⟨a[a.length - (k + 1)] == b[b.length - (k + 1)], G', by simp [e1, e2, sz, hk, y1, y2], fun hq => ⟨k, k1, k2, rfl, rfl⟩, fun hq => ⟨mo - (k + 1), _, G', by omega, by simp, k + 1, hk, ?_, rfl, rfl, rfl⟩⟩
        have hq : a[a.length - (k + 1)] = b[b.length - (k + 1)] := by simpa using hq
        rw [List.drop_eq_getElem_cons l1, List.drop_eq_getElem_cons l2, show a.length - (k + 1) + 1 = a.length - k by omega, show b.length - (k + 1) + 1 = b.length - k by omega, k2, hq]
      · exact ⟨false, G', by simp [e1, e2, sz, hk], fun _ => ⟨k, k1, k2, rfl, rfl⟩, fun h => by cases h⟩)
    100000 mo [some (.str a), some (.str b), some (.int mo), some (.int 0)] G ⟨0, Nat.zero_le _, by simp, rfl, rfl, rfl⟩ (by omega)
  refine ⟨k, k1, k2, run_ t9 rfl hm ?_⟩
  simp only [b9, evS_seq, evS_set, ev_k1, bnd_s, Option.bind_some, evS_whl]
  have e0 : ((List.map some [D.str a, D.str b, D.int mo] ++ List.replicate (4 - 3) none : Env').set 3 (some (D.int 0))) = [some (.str a), some (.str b), some (.int mo), some (.int 0)] := rfl
  rw [e0, e, h4, h5]
  simp
theorem cut_mid {α : Type} (xs : List α) (p q : Nat) (h : p + q ≤ xs.length) : cutN xs (some (p : Int)) (some ((xs.length : Int) - (q : Int))) = (xs.drop p).take (xs.length - q - p) := by
  have e : (xs.length : Int) - (q : Int) = ((xs.length - q : Nat) : Int) := by omega
  rw [e, cut_both]
theorem between_run {m : Nat} (hm : 2 ≤ m) {G : Hs} {a b : List Nat} (ha : a.length ≤ 5000) (hb : b.length ≤ 5000) :
    ∃ k l : Nat, k + l ≤ a.length ∧ k + l ≤ b.length ∧ a.take k = b.take k ∧ a.drop (a.length - l) = b.drop (b.length - l) ∧
      F m 10 [.str a, .str b] G = some (dE k (a.length - k - l) ((b.drop k).take (b.length - l - k)), G) := by
  obtain ⟨k, k1, k2, k3, e⟩ := ahead_run (m := m - 1) (by omega) (G := G) ha hb
  obtain ⟨l, l1, l2, e2⟩ := behind_run (m := m - 1) (by omega) (G := G) (mo := min a.length b.length - k) ha hb (by omega) (by omega)
  refine ⟨k, l, by omega, by omega, k3, l2, run_ t10 rfl (by omega) ?_⟩
  have e1 : a.length ≤ 16777216 := by omega
  have e2' : b.length ≤ 16777216 := by omega
  have x1 : (if b.length < a.length then (b.length : Int) else (a.length : Int)) - (k : Int) = ((min a.length b.length - k : Nat) : Int) := by split <;> omega
  have x2 : (a.length : Int) - k - l = ((a.length - k - l : Nat) : Int) := by omega
  have x3 := cut_mid b k l (by omega)
  simp [b10, dE, e, e1, e2', sz, x1, e2, x2, x3]
end K14
set_option Elab.async false
set_option linter.all false
set_option autoImplicit false
set_option maxRecDepth 100000
set_option maxHeartbeats 1000000
namespace K14
open PySem PySem.Spec L2 Mp
open PyProof.Rows hiding St

/-! edits at once -/
abbrev Ed := Nat × Nat × List Nat
def eD (e : Ed) : D := dE e.1 e.2.1 e.2.2
def esD (es : List Ed) : D := .tup (es.map eD)
def Sep : List Ed → Prop
  | e :: f :: r => e.1 + e.2.1 < f.1 ∧ Sep (f :: r)
  | _ => True
def grow (es : List Ed) : Int := (es.map fun e => (e.2.2.length : Int) - e.2.1).sum
structure OkEs (t : List Nat) (es : List Ed) : Prop where
  few : es.length ≤ 200
  each : ∀ e ∈ es, e.1 + e.2.1 ≤ t.length ∧ Sg e.2.2 ∧ e.2.2.length ≤ 2000
  sep : Sep es
  size : (t.length : Int) + grow es ≤ 2000
theorem Sep.at_ : ∀ {es : List Ed} {i : Nat} {e f : Ed}, Sep es → es[i]? = some e → es[i + 1]? = some f → e.1 + e.2.1 < f.1
  | a :: b :: r, 0, e, f, h, h1, h2 => by simp at h1 h2; subst h1 h2; exact h.1
  | a :: b :: r, i + 1, e, f, h, h1, h2 => Sep.at_ (es := b :: r) (i := i) h.2 (by simpa using h1) (by simpa using h2)
  | [a], 0, e, f, h, h1, h2 => by simp at h2
  | [a], i + 1, e, f, h, h1, h2 => by simp at h1
  | [], i, e, f, h, h1, h2 => by simp at h1
theorem atT {ds : List D} {i : Nat} {d : D} (h : ds[i]? = some d) : atI ds (i : Int) = some d := by rw [atI_nat (j := i) h]
theorem rgA_2 (i j : Int) : rgA [.int i, .int j] = if -(2 ^ 62) ≤ i ∧ i < 2 ^ 62 ∧ -(2 ^ 62) ≤ j ∧ j < 2 ^ 62 then some (i, 1, (j - i).toNat) else none := rfl
theorem rgA_1 (j : Int) : rgA [.int j] = if -(2 ^ 62) ≤ j ∧ j < 2 ^ 62 then some (0, 1, j.toNat) else none := rfl
theorem rng2_s {G : Hs} {i j : Int} {q : Int × Int × Nat} (h : rgA [.int i, .int j] = some q) : arity 2 rngK [.int i, .int j] G = some (.tup (rgN q.1 q.2.1 q.2.2), G) := by
  unfold arity rngK
  rw [if_pos (by rfl), h]; rfl
theorem rng1_s {G : Hs} {j : Int} {q : Int × Int × Nat} (h : rgA [.int j] = some q) : arity 1 rngK [.int j] G = some (.tup (rgN q.1 q.2.1 q.2.2), G) := by
  unfold arity rngK
  rw [if_pos (by rfl), h]; rfl
theorem sumI_s {G : Hs} {xs : List Int} : sumD (.lst (xs.map .int)) G = some (.int xs.sum, G) := by
  show (intsD (xs.map .int)).bind (fun ns => some (D.int ns.sum, G)) = _
  have : ∀ xs : List Int, intsD (xs.map D.int) = some xs := fun xs => by
    induction xs with
    | nil => rfl
    | cons x r ih => simp [intsD, ih]
  rw [this]; rfl
theorem sum_ints : ∀ (xs : List Int), intsD (xs.map D.int) = some xs
  | [] => rfl
  | x :: r => by simp [intsD, sum_ints r]
theorem ae_g1 {m : Nat} (hm : 4 ≤ m) {G : Hs} {t : List Nat} {es : List Ed} (hl : t.length ≤ 5000) (h : OkEs t es) :
    loopG false (ev (F (m - 1)) (E.call 3 2 (E.cons (E.v 0) (E.cons (E.v 2) E.nil)))).1 (Tg.nm 2) (wipeE [some (D.str t), some (D.tup (es.map eD)), none, none, none, none, none] [2]) (es.map eD) G = some (.bl true, G) := by
    refine loopG_all fun d hd => ?_
    obtain ⟨e, he, rfl⟩ := List.mem_map.mp hd
    obtain ⟨a1, a2, a3⟩ := h.each e he
    refine ⟨_, bindL_nm, ?_⟩
    have := is_change_run (m := m - 1) (by omega) (G := G) hl a1 a2 a3
    simp [wipeE, eD, this]
theorem ae_g2 {m : Nat} (hm : 4 ≤ m) {G : Hs} {t : List Nat} {es : List Ed} (hl : t.length ≤ 5000) (h : OkEs t es) :
    ∀ n : Nat, n = es.length → loopG false (ev (F (m - 1)) (E.cmp Cop.lt (E.bin Bop.add (E.idx (E.idx (E.v 1) (E.bin Bop.sub (E.v 3) (E.k (D.int 1)))) (E.k (D.int 0))) (E.idx (E.idx (E.v 1) (E.bin Bop.sub (E.v 3) (E.k (D.int 1)))) (E.k (D.int 1)))) (E.idx (E.idx (E.v 1) (E.v 3)) (E.k (D.int 0))))).1 (Tg.nm 3)
      (wipeE [some (D.str t), some (D.tup (es.map eD)), none, none, none, none, none] [3]) (rgN 1 1 (n - 1)) G = some (.bl true, G) := by
    intro n hn
    refine loopG_all fun d hd => ?_
    unfold rgN at hd
    obtain ⟨i, hi, rfl⟩ := List.mem_map.mp hd
    have hi : i < n - 1 := List.mem_range.mp hi
    refine ⟨_, bindL_nm, ?_⟩
    have q1 : es[i]? = some es[i] := List.getElem?_eq_getElem (by omega)
    have q2 : es[i + 1]? = some es[i + 1] := List.getElem?_eq_getElem (by omega)
    have sp := h.sep.at_ q1 q2
    have r1 : (es.map eD)[i]? = some (eD es[i]) := by rw [List.getElem?_map, q1]; rfl
    have r2 : (es.map eD)[i + 1]? = some (eD es[i + 1]) := by rw [List.getElem?_map, q2]; rfl
    have x1 : (1 : Int) + (i : Nat) * 1 - 1 = ((i : Nat) : Int) := by omega
    have x2 : (1 : Int) + (i : Nat) * 1 = ((i + 1 : Nat) : Int) := by omega
    have y1 := atT r1
    have y2 : atI (es.map eD) (1 + (i : Int)) = some (eD es[i + 1]) := by
      have := atT r2
      rw [show ((i + 1 : Nat) : Int) = 1 + (i : Int) by omega] at this
      exact this
    have x3 : (1 : Int) + (i : Int) - 1 = (i : Int) := by omega
    have sp' : (es[i].1 : Int) + es[i].2.1 < es[i + 1].1 := by omega
    simp only [ev_cmp1, ev_bin1, ev_idx1, ev_v1, ev_k1, wipeE, List.set_cons_succ, List.set_cons_zero, List.getElem?_cons_succ, List.getElem?_cons_zero, Option.bind_some, bnd_s, Int.mul_one, bin_subi, x3, idx_tup, y1, y2, Option.map_some, eD, dE, at3_0, at3_1, bin_addi, cmpD_s, cmp_ltI]
    simp [sp']
theorem ae_g3 {m : Nat} (hm : 4 ≤ m) {G : Hs} {t : List Nat} {es : List Ed} (hl : t.length ≤ 5000) (h : OkEs t es) :
    loopC (ev (F (m - 1)) E.yes).2 (ev (F (m - 1)) (E.bin Bop.sub (E.blt Blt.len (E.cons (E.v 6) E.nil)) (E.v 5))).1 (Tg.tp (Tg.cons (Tg.nm 4) (Tg.cons (Tg.nm 5) (Tg.cons (Tg.nm 6) Tg.nil)))) (wipeE [some (D.str t), some (D.tup (es.map eD)), none, none, none, none, none] [4, 5, 6]) (es.map eD) [] G =
      some ((es.map fun e => (e.2.2.length : Int) - e.2.1).map D.int, G) := by
    have : ∀ (l : List Ed), (∀ e ∈ l, e ∈ es) → ∀ acc : List D, acc.length + l.length ≤ 16777216 → loopC (ev (F (m - 1)) E.yes).2 (ev (F (m - 1)) (E.bin Bop.sub (E.blt Blt.len (E.cons (E.v 6) E.nil)) (E.v 5))).1 (Tg.tp (Tg.cons (Tg.nm 4) (Tg.cons (Tg.nm 5) (Tg.cons (Tg.nm 6) Tg.nil)))) (wipeE [some (D.str t), some (D.tup (es.map eD)), none, none, none, none, none] [4, 5, 6]) (l.map eD) acc G =
        some (acc ++ (l.map fun e => (e.2.2.length : Int) - e.2.1).map D.int, G) := by
      intro l hl' acc hacc
      induction l generalizing acc with
      | nil => simp [loopC]
      | cons e l ih =>
        simp only [List.length_cons] at hacc
        have a3 : e.2.2.length ≤ 16777216 := by have := (h.each e (hl' e (by simp))).2.2; omega
        have a4 : acc.length < 16777216 := by omega
        simp only [List.map_cons, loopC, eD, dE, bindL_tp, bindL_cons, bindL_nm, bindL_nil, Option.bind_some, ev_yes2, bnd_s, if_true]
        simp only [wipeE, List.set_cons_succ, List.set_cons_zero, ev_bin1, ev_blt1, ev_cons1, ev_v1, ev_nil1, List.getElem?_cons_succ, List.getElem?_cons_zero, Option.bind_some, bnd_s, consK_s, argK_s, blt_len, one_s, Mp.len_str, sz, a3, if_true, bin_subi, a4]
        have := ih (fun x hx => hl' x (by simp [hx])) (acc ++ [.int ((e.2.2.length : Int) - e.2.1)]) (by simp; omega)
        simp only [wipeE, List.set_cons_succ, List.set_cons_zero, List.append_assoc, List.singleton_append] at this
        exact this
    have := this es (fun e he => he) [] (by have := h.few; simp; omega)
    simpa using this
theorem seq_ife_f {cl : Nat → List D → Hs → Rs} {ς : Env'} {G G1 : Hs} {c : E} {a r : S} (h : (ev cl c).2 ς G = some (false, G1)) : evS cl (.seq (.ife c a .skip) r) ς G = evS cl r ς G1 := by
  rw [evS_seq, evS_ife, h]; rfl
theorem seq_ife_t {cl : Nat → List D → Hs → Rs} {ς : Env'} {G G1 : Hs} {c e : E} {d : Rs} {b r : S} (h : (ev cl c).2 ς G = some (true, G1)) (h2 : (ev cl e).1 ς G1 = d) : evS cl (.seq (.ife c (.seq (.ret e) .skip) b) r) ς G = bnd d fun d G2 => some (.rt d G2) := by
  rw [evS_seq, evS_ife, h]
  show (evS cl (.seq (.ret e) .skip) ς G1).bind _ = _
  rw [evS_seq, evS_ret, h2]
  rcases d with _ | ⟨d, G2⟩ <;> rfl
theorem seq_ret {cl : Nat → List D → Hs → Rs} {ς : Env'} {G G1 : Hs} {e : E} {d : D} {r : S} (h : (ev cl e).1 ς G = some (d, G1)) : (evS cl (.seq (.ret e) r) ς G).bind outD = some (d, G1) := by
  rw [evS_seq, evS_ret, h]; rfl
theorem or_ff {cl : Nat → List D → Hs → Rs} {ς : Env'} {G G1 G2 : Hs} {a b : E} {x : Bool} (h : (ev cl a).2 ς G = some (false, G1)) (h2 : (ev cl b).2 ς G1 = some (x, G2)) : (ev cl (.or a b)).2 ς G = some (x, G2) := by
  rw [ev_or2, h]; exact h2
theorem and_tt {cl : Nat → List D → Hs → Rs} {ς : Env'} {G G1 G2 : Hs} {a b : E} {x : Bool} (h : (ev cl a).2 ς G = some (true, G1)) (h2 : (ev cl b).2 ς G1 = some (x, G2)) : (ev cl (.and a b)).2 ς G = some (x, G2) := by
  rw [ev_and2, h]; exact h2
theorem not_t {cl : Nat → List D → Hs → Rs} {ς : Env'} {G G1 : Hs} {a : E} {x : Bool} (h : (ev cl a).2 ς G = some (x, G1)) : (ev cl (.not a)).2 ς G = some (!x, G1) := by
  rw [ev_not2, h]; rfl
theorem two_of {cl : Nat → List D → Hs → Rs} {ς : Env'} {G G1 : Hs} {sb : Bool} {t : Tg} {own : List Nat} {it e : E} {x : Bool} {ds : List D} (h : (ev cl it).1 ς G = some (.tup ds, G)) (h2 : loopG sb (ev cl e).1 t (wipeE ς own) ds G = some (.bl x, G1)) : (ev cl (.gen sb t own it e)).2 ς G = some (x, G1) := by
  rw [ev_gen2, h, bnd_s, argK_s, h2]; rfl
theorem are_edits_run {m : Nat} (hm : 4 ≤ m) {G : Hs} {t : List Nat} {es : List Ed} (hl : t.length ≤ 5000) (h : OkEs t es) : F m 12 [.str t, esD es] G = some (.bl true, G) := by
  refine run_ t12 rfl (by omega) ?_
  have f1 : t.length ≤ 16777216 := by omega
  have few : ¬ (200 : Int) < es.length := by have := h.few; omega
  have g1 := ae_g1 hm (G := G) hl h
  have g2 := ae_g2 hm (G := G) hl h
  have g3 := ae_g3 hm (G := G) hl h
  have sz1 : (t.length : Int) + (es.map fun e => (e.2.2.length : Int) - e.2.1).sum ≤ 2000 := h.size
  have rg : rgA [.int 1, .int (es.length : Int)] = some (1, 1, es.length - 1) := by
    have hf := h.few
    have e : ((es.length : Int) - 1).toNat = es.length - 1 := by omega
    rw [rgA_2, if_pos (by omega), e]
  have rr : arity 2 rngK [D.int 1, D.int (es.length : Int)] G = some (.tup (rgN 1 1 (es.length - 1)), G) := rng2_s rg
  show (evS (F (m - 1)) b12 [some (D.str t), some (D.tup (es.map eD)), none, none, none, none, none] G).bind outD = _
  unfold b12
  have c1 : (ev (F (m - 1)) (E.not (E.isi Ty.tuple (E.v 1)))).2 [some (D.str t), some (D.tup (es.map eD)), none, none, none, none, none] G = some (false, G) := by
    simp
  have c2 : (ev (F (m - 1)) (E.cmp Cop.gt (E.blt Blt.len (E.cons (E.v 1) E.nil)) (E.k (D.int 200)))).2 [some (D.str t), some (D.tup (es.map eD)), none, none, none, none, none] G = some (false, G) := by
    simp [few]
  have c3 := not_t (two_of (it := E.iseq (E.v 1)) (G := G) (by simp) g1)
  have c4 := not_t (two_of (it := E.irng 2 (E.cons (E.k (D.int 1)) (E.cons (E.blt Blt.len (E.cons (E.v 1) E.nil)) E.nil))) (G := G) (by simp [rr]) (g2 _ rfl))
  rw [seq_ife_f (or_ff c1 (or_ff c2 c3)), seq_ife_f c4]
  refine seq_ret ?_
  simp only [ev_cmp1, ev_bin1, ev_blt1, ev_cons1, ev_nil1, ev_comp1, ev_iseq1, ev_v1, ev_k1, List.getElem?_cons_zero, List.getElem?_cons_succ, Option.bind_some, bnd_s, consK_s, argK_s, blt_len, one_s, seq_tup, Mp.len_str, sz, f1, if_true, g3, newD_f, blt_sum, sumI_s, bin_addi, cmpD_s, cmp_leI, Option.map_some]
  rw [decide_eq_true sz1]
end K14
set_option Elab.async false
set_option linter.all false
set_option autoImplicit false
set_option maxRecDepth 100000
set_option maxHeartbeats 1000000
namespace Mp
open PySem PySem.Spec L2
open PyProof.Rows hiding St
/-! cells -/
theorem at_new {G : Hs} {c : Cell} : (G ++ [c])[G.length]? = some c := by simp
theorem set_new {G : Hs} {c d : Cell} : (G ++ [c]).set G.length d = G ++ [d] := by simp
theorem app_s {G : Hs} {n : Nat} {ds : List D} {x : D} (h : G[n]? = some (.lst ds)) (hl : ds.length < 16777216) : appendM (.ref n) [x] G = some (.non, G.set n (.lst (ds ++ [x]))) := by
  have hl : ds.length < sizeLine := by rw [sizeLine_eq]; exact hl
  simp [appendM, h, hl]
theorem ext_s {G : Hs} {n : Nat} {ds xs : List D} {x : D} (h : G[n]? = some (.lst ds)) (hx : Mp.listOf G x = some xs) (hl : ds.length + xs.length ≤ 16777216) : extendM (.ref n) [x] G = some (.non, G.set n (.lst (ds ++ xs))) := by
  have hl : ds.length + xs.length ≤ sizeLine := by rw [sizeLine_eq]; exact hl
  simp [extendM, h, hx, hl]
theorem ref_ty {G : Hs} {n : Nat} {ds : List D} (h : G[n]? = some (.lst ds)) : hasTy .list (.ref n) G = true := by
  simp [hasTy, Mp.roOf, Mp.listOf, h]
theorem tup_r {G : Hs} {n : Nat} {ds : List D} (h : G[n]? = some (.lst ds)) : tupD (.ref n) G = some (.tup ds, G) := by
  simp [tupD, seqOf, Mp.roOf, Mp.listOf, h]
theorem len_r {G : Hs} {n : Nat} {ds : List D} (h : G[n]? = some (.lst ds)) : lenD (.ref n) G = some (.int ds.length, G) := by
  simp [lenD, seqOf, Mp.roOf, Mp.listOf, h]
theorem idx_r {G : Hs} {n : Nat} {k : Int} {ds : List D} (h : G[n]? = some (.lst ds)) : idxD (.ref n) (.int k) G = (atI ds k).map fun d => (d, G) := by
  simp [idxD, h]
theorem frz_r {G : Hs} {n : Nat} {ds : List D} (h : G[n]? = some (.lst ds)) : frzK (.ref n) G = some (.lst ds, G.set n .gone) := by
  simp [frzK, h]
theorem app_new {G : Hs} {ds : List D} {x : D} (hl : ds.length < 16777216) : appendM (.ref G.length) [x] (G ++ [.lst ds]) = some (.non, G ++ [.lst (ds ++ [x])]) := by
  rw [app_s at_new hl, set_new]
theorem ext_new {G : Hs} {ds xs : List D} {x : D} (hx : Mp.listOf (G ++ [.lst ds]) x = some xs) (hl : ds.length + xs.length ≤ 16777216) : extendM (.ref G.length) [x] (G ++ [.lst ds]) = some (.non, G ++ [.lst (ds ++ xs)]) := by
  rw [ext_s at_new hx hl, set_new]
end Mp
namespace K14
open PySem PySem.Spec L2 Mp
open PyProof.Rows hiding St

theorem drop_s {cl : Nat → List D → Hs → Rs} {ς : Env'} {G G1 : Hs} {e : E} {d : D} {r : S} (h : (ev cl e).1 ς G = some (d, G1)) : evS cl (.seq (.drop e) r) ς G = evS cl r ς G1 := by
  rw [evS_seq, evS_drop, h]; rfl
theorem set_s {cl : Nat → List D → Hs → Rs} {ς : Env'} {G G1 : Hs} {i : Nat} {e : E} {d : D} {r : S} (h : (ev cl e).1 ς G = some (d, G1)) : evS cl (.seq (.set i e) r) ς G = evS cl r (ς.set i (some d)) G1 := by
  rw [evS_seq, evS_set, h]; rfl
theorem tgt_s {cl : Nat → List D → Hs → Rs} {ς ς' : Env'} {G G1 : Hs} {t : Tg} {e : E} {d : D} {r : S} (h : (ev cl e).1 ς G = some (d, G1)) (h2 : bindL t [d] ς = some ς') : evS cl (.seq (.tgt t e) r) ς G = evS cl r ς' G1 := by
  rw [evS_seq, evS_tgt, h, bnd_s, h2]; rfl
theorem seq_nx {cl : Nat → List D → Hs → Rs} {ς ς' : Env'} {G G1 : Hs} {a r : S} (h : evS cl a ς G = some (.nx ς' G1)) : evS cl (.seq a r) ς G = evS cl r ς' G1 := by
  rw [evS_seq, h]; rfl
theorem for_nx {cl : Nat → List D → Hs → Rs} {ς ς' : Env'} {G G1 G2 : Hs} {t : Tg} {it : E} {b r : S} {ds : List D} (h : (ev cl it).1 ς G = some (.tup ds, G1)) (h2 : loopF t (evS cl b) ds ς G1 = some (.nx ς' G2)) : evS cl (.seq (.for_ t it b) r) ς G = evS cl r ς' G2 := by
  rw [evS_seq, evS_for, h, bnd_s]
  show (loopF t (evS cl b) ds ς G1).bind _ = _
  rw [h2]; rfl

/-! ### 13 to 17 -/
theorem check_edits_run {m : Nat} (hm : 5 ≤ m) {G : Hs} {t : List Nat} {es : List Ed} (hl : t.length ≤ 5000) (h : OkEs t es) : F m 13 [.str t, esD es] G = some (.non, G) := by
  refine run_ t13 rfl (by omega) ?_
  have e := are_edits_run (m := m - 1) (by omega) (G := G) hl h
  simp [b13, e, outD]
def putE (t : List Nat) (e : Ed) : List Nat := put t e.1 e.2.1 e.2.2
def putAll (t : List Nat) (es : List Ed) : List Nat := es.foldr (fun e t => putE t e) t
theorem putE_len {t : List Nat} {e : Ed} : (putE t e).length ≤ t.length + e.2.2.length := by
  unfold putE put; simp; omega
theorem for_put {cl : Nat → List D → Hs → Rs} {v1 : D} {G : Hs} (hcl : ∀ t (e : Ed), t.length + e.2.2.length ≤ 8000000 → cl 5 [.str t, eD e] G = some (.str (putE t e), G)) : ∀ (es : List Ed) (t : List Nat) (o : Option D), (∀ e ∈ es, e.2.2.length ≤ 2000) → t.length + 2000 * es.length ≤ 8000000 →
    ∃ o', loopF (.nm 2) (evS cl (S.seq (S.set 0 (E.call 5 2 (E.cons (E.v 0) (E.cons (E.v 2) E.nil)))) S.skip)) (es.map eD) [some (.str t), some v1, o] G = some (.nx [some (.str (es.foldl putE t)), some v1, o'] G)
  | [], t, o, _, _ => ⟨o, rfl⟩
  | e :: es, t, o, h1, h2 => by
    have hc := h1 e (by simp)
    simp only [List.length_cons] at h2
    have hp := @putE_len t e
    obtain ⟨o', ih⟩ := for_put hcl es (putE t e) (some (eD e)) (fun x hx => h1 x (by simp [hx])) (by omega)
    refine ⟨o', ?_⟩
    have e1 := hcl t e (by omega)
    simp only [List.map_cons, loopF, bindL_nm, Option.bind_some, List.set_cons_succ, List.set_cons_zero]
    rw [set_s (d := .str (putE t e)) (G1 := G) (by simp [e1])]
    exact ih
theorem all_applied_run {m : Nat} (hm : 6 ≤ m) {G : Hs} {t : List Nat} {es : List Ed} (hl : t.length ≤ 5000) (h : OkEs t es) : F m 14 [.str t, esD es] G = some (.str (putAll t es), G) := by
  refine run_ t14 rfl (by omega) ?_
  have e := check_edits_run (m := m - 1) (by omega) (G := G) hl h
  have hf := h.few
  obtain ⟨o', hr⟩ := for_put (cl := F (m - 1)) (v1 := esD es) (G := G) (fun t e ht => put_in_run (m := m - 1) (by omega) ht) es.reverse t none (fun x hx => (h.each x (by simpa using hx)).2.2) (by simp; omega)
  show (evS (F (m - 1)) b14 [some (.str t), some (esD es), none] G).bind outD = _
  unfold b14
  rw [drop_s (d := .non) (G1 := G) (by simp [e]), for_nx (ds := es.reverse.map eD) (G1 := G) (by simp [esD]) hr]
  rw [seq_ret (d := .str (putAll t es)) (G1 := G)]
  simp [putAll, List.foldl_reverse]

/-- an edit after the edits before it: at in the old, now in the new -/
def turns : Nat → Nat → List Ed → List Ed
  | _, _, [] => []
  | at_, now, (p, g, c) :: r => (now + (p - at_), g, c) :: turns (p + g) (now + (p - at_) + c.length) r
def Wf (n : Nat) : Nat → List Ed → Prop
  | a, [] => a ≤ n
  | a, (p, g, c) :: r => a ≤ p ∧ p + g ≤ n ∧ Wf n (p + g) r
theorem wf_of {n : Nat} : ∀ {es : List Ed} {a : Nat}, (∀ e ∈ es, e.1 + e.2.1 ≤ n) → Sep es → (∀ e r, es = e :: r → a ≤ e.1) → a ≤ n → Wf n a es
  | [], a, _, _, _, h => h
  | [(p, g, c)], a, h1, _, h3, h4 => ⟨h3 (p, g, c) [] rfl, h1 (p, g, c) (by simp), h1 (p, g, c) (by simp)⟩
  | (p, g, c) :: (p', g', c') :: r, a, h1, h2, h3, h4 => by
    have hs : p + g < p' := h2.1
    exact ⟨h3 (p, g, c) _ rfl, h1 (p, g, c) (by simp), wf_of (fun e he => h1 e (by simp [he])) h2.2 (fun e r' q => by cases q; show p + g ≤ p'; omega) (h1 (p, g, c) (by simp))⟩
theorem OkEs.wf {t : List Nat} {es : List Ed} (h : OkEs t es) : Wf t.length 0 es := wf_of (fun e he => (h.each e he).1) h.sep (fun _ _ _ => Nat.zero_le _) (Nat.zero_le _)
theorem for_turns {cl : Nat → List D → Hs → Rs} {v0 v1 : D} {G : Hs} {n : Nat} : ∀ (es : List Ed) (a now : Nat) (acc : List D) (o4 o5 o6 : Option D), Wf n a es → (∀ e ∈ es, e.2.2.length ≤ 2000) → acc.length + es.length < 16777216 →
    ∃ q u4 u5 u6, loopF (Tg.tp (Tg.cons (Tg.nm 4) (Tg.cons (Tg.nm 5) (Tg.cons (Tg.nm 6) Tg.nil)))) (evS cl (S.seq (S.drop (E.mth Mth.append (E.v 2) (E.cons (E.tup (E.cons (E.bin Bop.add (E.v 4) (E.v 3)) (E.cons (E.v 5) (E.cons (E.v 6) E.nil)))) E.nil))) (S.seq (S.aug 3 Aop.add (E.bin Bop.sub (E.blt Blt.len (E.cons (E.v 6) E.nil)) (E.v 5))) S.skip))) (es.map eD)
      [some v0, some v1, some (.ref G.length), some (.int ((now : Int) - a)), o4, o5, o6] (G ++ [.lst acc]) = some (.nx [some v0, some v1, some (.ref G.length), some (.int q), u4, u5, u6] (G ++ [.lst (acc ++ (turns a now es).map eD)]))
  | [], a, now, acc, o4, o5, o6, _, _, _ => ⟨(now : Int) - a, o4, o5, o6, by simp [loopF, turns]⟩
  | (p, g, c) :: es, a, now, acc, o4, o5, o6, ⟨w1, w2, w3⟩, h2, h3 => by
    simp only [List.length_cons] at h3
    have hc : c.length ≤ 16777216 := by have := h2 (p, g, c) (by simp); simp at this; omega
    have hk : acc.length < 16777216 := by omega
    obtain ⟨q, o4', o5', o6', ih⟩ := for_turns (cl := cl) (v0 := v0) (v1 := v1) (G := G) es (p + g) (now + (p - a) + c.length) (acc ++ [eD (now + (p - a), g, c)]) (some (.int p)) (some (.int g)) (some (.str c)) w3 (fun e he => h2 e (by simp [he])) (by simp; omega)
    refine ⟨q, o4', o5', o6', ?_⟩
    have x1 : (p : Int) + ((now : Int) - a) = ((now + (p - a) : Nat) : Int) := by omega
    have x2 : (now : Int) - a + ((c.length : Int) - g) = ((now + (p - a) + c.length : Nat) : Int) - ((p + g : Nat) : Int) := by omega
    simp only [List.map_cons, loopF]
    have b : bindL (Tg.tp (Tg.cons (Tg.nm 4) (Tg.cons (Tg.nm 5) (Tg.cons (Tg.nm 6) Tg.nil)))) [eD (p, g, c)] [some v0, some v1, some (.ref G.length), some (.int ((now : Int) - a)), o4, o5, o6] = some [some v0, some v1, some (.ref G.length), some (.int ((now : Int) - a)), some (.int p), some (.int g), some (.str c)] := by
      simp [eD, dE]
    rw [b, Option.bind_some]
    have y : tupK [D.int ((now + (p - a) : Nat) : Int), .int g, .str c] (G ++ [.lst acc]) = some (eD (now + (p - a), g, c), G ++ [.lst acc]) := by
      rw [tupK_s, if_pos (by rw [sz]; simp)]; rfl
    rw [drop_s (d := .non) (G1 := G ++ [.lst (acc ++ [eD (now + (p - a), g, c)])])]
    · simp only [evS_seq, evS_aug, evS_skip, ev_bin1, ev_blt1, ev_cons1, ev_v1, ev_nil1, List.getElem?_cons_succ, List.getElem?_cons_zero, Option.bind_some, bnd_s, consK_s, argK_s, blt_len, one_s, Mp.len_str, sz, hc, if_true, bin_subi, aug_add, x2, List.set_cons_succ, List.set_cons_zero]
      rw [ih]
      simp [turns]
    · simp only [ev_mth1, ev_tup1, ev_bin1, ev_cons1, ev_v1, ev_nil1, List.getElem?_cons_succ, List.getElem?_cons_zero, Option.bind_some, bnd_s, consK_s, argK_s, bin_addi, x1, y]
      rw [show Mth.append.ty = .list from rfl, ref_ty at_new, if_pos rfl]
      exact app_new hk
theorem in_turn_run {m : Nat} (hm : 6 ≤ m) {G : Hs} {t : List Nat} {es : List Ed} (hl : t.length ≤ 5000) (h : OkEs t es) : F m 15 [.str t, esD es] G = some (esD (turns 0 0 es), G ++ [.lst ((turns 0 0 es).map eD)]) := by
  refine run_ t15 rfl (by omega) ?_
  have e := check_edits_run (m := m - 1) (by omega) (G := G) hl h
  have hf := h.few
  obtain ⟨q, o4, o5, o6, hr⟩ := for_turns (cl := F (m - 1)) (v0 := .str t) (v1 := esD es) (G := G) es 0 0 [] none none none h.wf (fun x hx => (h.each x hx).2.2) (by simp; omega)
  show (evS (F (m - 1)) b15 [some (.str t), some (esD es), none, none, none, none, none] G).bind outD = _
  unfold b15
  rw [drop_s (d := .non) (G1 := G) (by simp [e]), set_s (d := .ref G.length) (G1 := G ++ [.lst []]) (by simp [sz]), set_s (d := .int 0) (G1 := G ++ [.lst []]) (by simp)]
  simp only [List.set_cons_succ, List.set_cons_zero]
  rw [for_nx (ds := es.map eD) (G1 := G ++ [.lst []]) (by simp [esD]) hr]
  refine seq_ret ?_
  simp only [ev_blt1, ev_cons1, ev_nil1, ev_v1, List.getElem?_cons_succ, List.getElem?_cons_zero, Option.bind_some, bnd_s, consK_s, argK_s, blt_tuple, one_s, tup_r at_new]
  rfl
end K14
set_option Elab.async false
set_option linter.all false
set_option autoImplicit false
set_option maxRecDepth 100000
set_option maxHeartbeats 1000000
namespace K14
/-! ### plain facts of edits, for any kind of list -/
variable {α : Type}
abbrev Eds (α : Type) := List (Nat × Nat × List α)
def putG (t : List α) (p g : Nat) (c : List α) : List α := t.take p ++ c ++ t.drop (p + g)
def weave (t : List α) : Nat → Eds α → List α
  | a, [] => t.drop a
  | a, (p, g, c) :: r => (t.drop a).take (p - a) ++ c ++ weave t (p + g) r
def WfG (n : Nat) : Nat → Eds α → Prop
  | a, [] => a ≤ n
  | a, (p, g, c) :: r => a ≤ p ∧ p + g ≤ n ∧ WfG n (p + g) r
theorem WfG.le {n : Nat} : ∀ {es : Eds α} {a : Nat}, WfG n a es → a ≤ n
  | [], a, h => h
  | (p, g, c) :: r, a, ⟨h1, h2, h3⟩ => by omega
theorem wf_wf {n : Nat} : ∀ {es : List Ed} {a : Nat}, Wf n a es → WfG n a es
  | [], a, h => h
  | (p, g, c) :: r, a, ⟨h1, h2, h3⟩ => ⟨h1, h2, wf_wf h3⟩
theorem foldr_weave (t : List α) : ∀ (es : Eds α) (a : Nat), WfG t.length a es → es.foldr (fun e t => putG t e.1 e.2.1 e.2.2) t = t.take a ++ weave t a es
  | [], a, h => by simp [weave]
  | (p, g, c) :: r, a, ⟨h1, h2, h3⟩ => by
    have ih := foldr_weave t r (p + g) h3
    have e1 : t.take p = t.take a ++ (t.drop a).take (p - a) := by
      have : p = a + (p - a) := by omega
      conv => lhs; rw [this]
      rw [List.take_add]
    simp only [List.foldr_cons]
    rw [ih]
    unfold putG
    have l1 : (t.take (p + g)).length = p + g := by simp; omega
    have e2 : (t.take (p + g) ++ weave t (p + g) r).take p = t.take p := by
      rw [List.take_append_of_le_length (by omega), List.take_take, Nat.min_eq_left (by omega)]
    have e3 : (t.take (p + g) ++ weave t (p + g) r).drop (p + g) = weave t (p + g) r := by
      rw [List.drop_append_of_le_length (by omega), List.drop_of_length_le (by omega)]; rfl
    rw [e2, e3, e1]
    simp [weave]
theorem putAll_weave {t : List Nat} {es : List Ed} (h : Wf t.length 0 es) : putAll t es = weave t 0 es := by
  have := foldr_weave t es 0 (wf_wf h)
  simpa [putAll, putE, put, putG] using this
/-- edits in turn, each on the list that the edits before it left -/
def turnsG : Nat → Nat → Eds α → Eds α
  | _, _, [] => []
  | at_, now, (p, g, c) :: r => (now + (p - at_), g, c) :: turnsG (p + g) (now + (p - at_) + c.length) r
theorem foldl_weave (t : List α) : ∀ (es : Eds α) (a : Nat) (pre : List α), WfG t.length a es → (turnsG a pre.length es).foldl (fun t e => putG t e.1 e.2.1 e.2.2) (pre ++ t.drop a) = pre ++ weave t a es
  | [], a, pre, h => by simp [weave, turnsG]
  | (p, g, c) :: r, a, pre, ⟨h1, h2, h3⟩ => by
    have e1 : putG (pre ++ t.drop a) (pre.length + (p - a)) g c = (pre ++ (t.drop a).take (p - a) ++ c) ++ t.drop (p + g) := by
      unfold putG
      have l : (t.drop a).length = t.length - a := by simp
      rw [List.take_append, List.drop_append, List.take_of_length_le (l := pre) (by omega), List.drop_of_length_le (l := pre) (by omega), List.drop_drop]
      have x1 : pre.length + (p - a) - pre.length = p - a := by omega
      have x2 : a + (pre.length + (p - a) + g - pre.length) = p + g := by omega
      rw [x1, x2]
      simp
    have e2 : (pre ++ (t.drop a).take (p - a) ++ c).length = pre.length + (p - a) + c.length := by simp; omega
    have ih := foldl_weave t r (p + g) (pre ++ (t.drop a).take (p - a) ++ c) h3
    rw [e2] at ih
    simp only [turnsG, List.foldl_cons]
    rw [e1, ih]
    simp [weave]
theorem weave_len (t : List α) : ∀ (es : Eds α) (a : Nat), WfG t.length a es → (weave t a es).length + (es.map (·.2.1)).sum = t.length - a + (es.map (·.2.2.length)).sum
  | [], a, h => by simp [weave]
  | (p, g, c) :: r, a, ⟨h1, h2, h3⟩ => by
    have := weave_len t r (p + g) h3
    simp [weave]; omega
/-- which element stands where afterwards -/
def hold (n : Nat) : Nat → Nat → Eds α → List (Nat × Nat)
  | a, now, [] => (List.range (n - a)).map fun i => (a + i, now + i)
  | a, now, (p, g, c) :: r => ((List.range (p - a)).map fun i => (a + i, now + i)) ++ hold n (p + g) (now + (p - a) + c.length) r
theorem hold_mem {n : Nat} : ∀ {es : Eds α} {a now k j : Nat}, WfG n a es → (k, j) ∈ hold n a now es → a ≤ k ∧ k < n ∧ now ≤ j
  | [], a, now, k, j, h, hm => by simp [hold] at hm; have h : a ≤ n := h; omega
  | (p, g, c) :: r, a, now, k, j, ⟨h1, h2, h3⟩, hm => by
    simp only [hold, List.mem_append, List.mem_map, List.mem_range, Prod.mk.injEq] at hm
    rcases hm with ⟨i, hi, rfl, rfl⟩ | hm
    · omega
    · have := hold_mem h3 hm; omega
theorem hold_sorted {n : Nat} : ∀ {es : Eds α} {a now : Nat}, WfG n a es → (hold n a now es).Pairwise fun x y => x.1 < y.1
  | [], a, now, h => by
    simp only [hold]
    rw [List.pairwise_map]
    exact (List.pairwise_lt_range).imp fun h => by omega
  | (p, g, c) :: r, a, now, ⟨h1, h2, h3⟩ => by
    simp only [hold]
    rw [List.pairwise_append]
    refine ⟨?_, hold_sorted h3, fun x hx y hy => ?_⟩
    · rw [List.pairwise_map]
      exact (List.pairwise_lt_range).imp fun h => by omega
    · simp only [List.mem_map, List.mem_range] at hx
      obtain ⟨i, hi, rfl⟩ := hx
      have := hold_mem (k := y.1) (j := y.2) h3 hy
      show a + i < y.1
      omega
/-- the same element at both places -/
theorem hold_at (t : List α) : ∀ {es : Eds α} {a now k j : Nat}, WfG t.length a es → (k, j) ∈ hold t.length a now es → (weave t a es)[j - now]? = t[k]? ∧ j - now < (weave t a es).length
  | [], a, now, k, j, h, hm => by
    simp [hold] at hm
    obtain ⟨i, hi, rfl, rfl⟩ := hm
    simp [weave]; omega
  | (p, g, c) :: r, a, now, k, j, ⟨h1, h2, h3⟩, hm => by
    simp only [hold, List.mem_append, List.mem_map, List.mem_range, Prod.mk.injEq] at hm
    have l : ((t.drop a).take (p - a)).length = p - a := by simp; omega
    rcases hm with ⟨i, hi, rfl, rfl⟩ | hm
    · simp only [weave]
      constructor
      · rw [List.append_assoc, List.getElem?_append_left (by omega), List.getElem?_take, if_pos (by omega), List.getElem?_drop]
        congr 1; omega
      · simp; omega
    · obtain ⟨b1, b2⟩ := hold_at t h3 hm
      have b3 := hold_mem h3 hm
      simp only [weave]
      constructor
      · rw [List.getElem?_append_right (by simp; omega)]
        rw [← b1]; congr 1; simp; omega
      · simp; omega
/-- and every other place is come -/
theorem hold_or (t : List α) : ∀ {es : Eds α} {a now i : Nat}, WfG t.length a es → i < (weave t a es).length → (∃ k, (k, now + i) ∈ hold t.length a now es) ∨ ∃ e ∈ es, ∃ x ∈ e.2.2, (weave t a es)[i]? = some x
  | [], a, now, i, h, hi => by
    simp [weave] at hi
    exact .inl ⟨a + i, by simp [hold]; exact hi⟩
  | (p, g, c) :: r, a, now, i, ⟨h1, h2, h3⟩, hi => by
    have l : ((t.drop a).take (p - a)).length = p - a := by simp; omega
    by_cases c1 : i < p - a
    · exact .inl ⟨a + i, by simp [hold]; exact .inl c1⟩
    by_cases c2 : i < p - a + c.length
    · refine .inr ⟨(p, g, c), by simp, c[i - (p - a)], by simp, ?_⟩
      simp only [weave, List.append_assoc]
      rw [List.getElem?_append_right (by omega), List.getElem?_append_left (by omega), l, List.getElem?_eq_getElem]
    · simp only [weave, List.length_append, l] at hi
      rcases hold_or t (now := now + (p - a) + c.length) (i := i - (p - a) - c.length) h3 (by omega) with ⟨k, hk⟩ | ⟨e, he, x, hx, q⟩
      · refine .inl ⟨k, ?_⟩
        simp only [hold, List.mem_append]
        refine .inr ?_
        rwa [show now + i = now + (p - a) + c.length + (i - (p - a) - c.length) by omega]
      · refine .inr ⟨e, by simp [he], x, hx, ?_⟩
        simp only [weave]
        rw [List.getElem?_append_right (by simp; omega), ← q]
        congr 1; simp; omega
/-- strictly rising firsts and the same members: the same list -/
theorem sorted_eq : ∀ {xs ys : List (Nat × Nat)}, xs.Pairwise (fun x y => x.1 < y.1) → ys.Pairwise (fun x y => x.1 < y.1) → (∀ p, p ∈ xs ↔ p ∈ ys) → xs = ys
  | [], [], _, _, _ => rfl
  | [], y :: ys, _, _, h => by have := (h y).mpr (by simp); simp at this
  | x :: xs, [], _, _, h => by have := (h x).mp (by simp); simp at this
  | x :: xs, y :: ys, hx, hy, h => by
    rw [List.pairwise_cons] at hx hy
    have e : x = y := by
      rcases List.mem_cons.mp ((h x).mp (by simp)) with e | e
      · exact e
      · rcases List.mem_cons.mp ((h y).mpr (by simp)) with e2 | e2
        · exact e2.symm
        · have := hy.1 x e; have := hx.1 y e2; omega
    subst e
    congr 1
    refine sorted_eq hx.2 hy.2 fun p => ?_
    constructor
    · intro hp
      rcases List.mem_cons.mp ((h p).mp (by simp [hp])) with e | e
      · have := hx.1 p hp; rw [e] at this; omega
      · exact e
    · intro hp
      rcases List.mem_cons.mp ((h p).mpr (by simp [hp])) with e | e
      · have := hy.1 p hp; rw [e] at this; omega
      · exact e
end K14
set_option Elab.async false
set_option linter.all false
set_option autoImplicit false
set_option maxRecDepth 100000
set_option maxHeartbeats 1000000
namespace Mp
open PySem PySem.Spec L2
open PyProof.Rows hiding St
theorem at_mid {G l : Hs} {c : Cell} : (G ++ c :: l)[G.length]? = some c := by simp
theorem set_mid {G l : Hs} {c d : Cell} : (G ++ c :: l).set G.length d = G ++ d :: l := by simp
theorem app_mid {G l : Hs} {ds : List D} {x : D} (hl : ds.length < 16777216) : appendM (.ref G.length) [x] (G ++ .lst ds :: l) = some (.non, G ++ .lst (ds ++ [x]) :: l) := by
  rw [app_s at_mid hl, set_mid]
theorem ext_mid {G l : Hs} {ds xs : List D} {x : D} (hx : Mp.listOf (G ++ .lst ds :: l) x = some xs) (hl : ds.length + xs.length ≤ 16777216) : extendM (.ref G.length) [x] (G ++ .lst ds :: l) = some (.non, G ++ .lst (ds ++ xs) :: l) := by
  rw [ext_s at_mid hx hl, set_mid]
theorem atI_end {α : Type} {xs : List α} (h : xs ≠ []) : atI xs (-1) = some (xs.getLast h) := by
  have := L2.atI_last xs.dropLast (xs.getLast h)
  rwa [List.dropLast_concat_getLast] at this
end Mp
namespace K14
open PySem PySem.Spec L2 Mp
open PyProof.Rows hiding St

theorem turns_G : ∀ (es : List Ed) (a now : Nat), turns a now es = turnsG a now es
  | [], _, _ => rfl
  | (p, g, c) :: r, a, now => by simp [turns, turnsG, turns_G r]
/-! 16 -/
def invs (t : List Nat) : Nat → Nat → List Ed → List Ed
  | _, _, [] => []
  | a, now, (p, g, c) :: r => (now + (p - a), c.length, (t.drop p).take g) :: invs t (p + g) (now + (p - a) + c.length) r
theorem cut_pg {t : List Nat} {p g : Nat} : cutN t (some (p : Int)) (some ((p : Int) + (g : Int))) = (t.drop p).take g := by
  have := cut_both t p (p + g)
  rw [Nat.add_sub_cancel_left] at this
  exact this
theorem for_invs {cl : Nat → List D → Hs → Rs} {v1 : D} {t : List Nat} {G l : Hs} (hl : t.length ≤ 5000) : ∀ (es : List Ed) (a now : Nat) (acc : List D) (o3 o4 o5 o6 o7 : Option D), (∀ e ∈ es, e.2.2.length ≤ 2000) → acc.length + es.length < 16777216 →
    ∃ u3 u4 u5 u6 u7, loopF (Tg.tp (Tg.cons (Tg.tp (Tg.cons (Tg.nm 3) (Tg.cons (Tg.nm 4) (Tg.cons (Tg.nm 5) Tg.nil)))) (Tg.cons (Tg.tp (Tg.cons (Tg.nm 6) (Tg.cons (Tg.nm 7) (Tg.cons (Tg.nm 4) Tg.nil)))) Tg.nil))) (evS cl (S.seq (S.drop (E.mth Mth.append (E.v 2) (E.cons (E.tup (E.cons (E.v 3) (E.cons (E.blt Blt.len (E.cons (E.v 5) E.nil)) (E.cons (E.sl false (E.v 0) (E.v 6) (E.bin Bop.add (E.v 6) (E.v 7))) E.nil)))) E.nil))) S.skip)) (List.zipWith (fun x y => D.tup [x, y]) ((turns a now es).map eD) (es.map eD))
      [some (.str t), some v1, some (.ref G.length), o3, o4, o5, o6, o7] (G ++ .lst acc :: l) = some (.nx [some (.str t), some v1, some (.ref G.length), u3, u4, u5, u6, u7] (G ++ .lst (acc ++ (invs t a now es).map eD) :: l))
  | [], a, now, acc, o3, o4, o5, o6, o7, _, _ => ⟨o3, o4, o5, o6, o7, by simp [loopF, turns, invs]⟩
  | (p, g, c) :: es, a, now, acc, o3, o4, o5, o6, o7, h2, h3 => by
    simp only [List.length_cons] at h3
    have hc : c.length ≤ 16777216 := by have := h2 (p, g, c) (by simp); simp at this; omega
    have ht : t.length ≤ 16777216 := by omega
    have hk : acc.length < 16777216 := by omega
    obtain ⟨u3, u4, u5, u6, u7, ih⟩ := for_invs (cl := cl) (v1 := v1) (G := G) (l := l) hl es (p + g) (now + (p - a) + c.length) (acc ++ [eD (now + (p - a), c.length, (t.drop p).take g)]) (some (.int (now + (p - a) : Nat))) (some (.str c)) (some (.str c)) (some (.int p)) (some (.int g)) (fun e he => h2 e (by simp [he])) (by simp; omega)
    refine ⟨u3, u4, u5, u6, u7, ?_⟩
    simp only [turns, List.map_cons, List.zipWith_cons_cons, loopF]
    have b : bindL (Tg.tp (Tg.cons (Tg.tp (Tg.cons (Tg.nm 3) (Tg.cons (Tg.nm 4) (Tg.cons (Tg.nm 5) Tg.nil)))) (Tg.cons (Tg.tp (Tg.cons (Tg.nm 6) (Tg.cons (Tg.nm 7) (Tg.cons (Tg.nm 4) Tg.nil)))) Tg.nil))) [D.tup [eD (now + (p - a), g, c), eD (p, g, c)]] [some (.str t), some v1, some (.ref G.length), o3, o4, o5, o6, o7] =
        some [some (.str t), some v1, some (.ref G.length), some (.int (now + (p - a) : Nat)), some (.str c), some (.str c), some (.int p), some (.int g)] := by
      simp [eD, dE]
    rw [b, Option.bind_some]
    have y : tupK [D.int ((now + (p - a) : Nat) : Int), .int c.length, .str ((t.drop p).take g)] (G ++ .lst acc :: l) = some (eD (now + (p - a), c.length, (t.drop p).take g), G ++ .lst acc :: l) := by
      rw [tupK_s, if_pos (by rw [sz]; simp)]; rfl
    rw [drop_s (d := .non) (G1 := G ++ .lst (acc ++ [eD (now + (p - a), c.length, (t.drop p).take g)]) :: l)]
    · rw [evS_skip, Option.bind_some]
      show loopF _ _ _ _ _ = _
      rw [ih]
      simp [invs]
    · simp only [ev_mth1, ev_tup1, ev_bin1, ev_blt1, ev_sl1, slF_s, isNil_v, isNil_bin, partD_s, partI_i, Mp.sl_str, blt_len, one_s, Mp.len_str, ev_cons1, ev_v1, ev_nil1, List.getElem?_cons_succ, List.getElem?_cons_zero, Option.bind_some, bnd_s, consK_s, argK_s, bin_addi, sz, hc, ht, if_true, Bool.false_eq_true, if_false, cut_pg, y]
      rw [show Mth.append.ty = .list from rfl, ref_ty at_mid, if_pos rfl]
      exact app_mid hk
theorem all_inverse_run {m : Nat} (hm : 7 ≤ m) {G : Hs} {t : List Nat} {es : List Ed} (hl : t.length ≤ 5000) (h : OkEs t es) : ∃ l, F m 16 [.str t, esD es] G = some (esD (invs t 0 0 es), G ++ l) := by
  have e := check_edits_run (m := m - 1) (by omega) (G := G) hl h
  have e2 := in_turn_run (m := m - 1) (by omega) (G := G ++ [.lst []]) hl h
  have hf := h.few
  obtain ⟨u3, u4, u5, u6, u7, hr⟩ := for_invs (cl := F (m - 1)) (v1 := esD es) (G := G) (l := [.lst ((turns 0 0 es).map eD)]) hl es 0 0 [] none none none none none (fun x hx => (h.each x hx).2.2) (by simp; omega)
  refine ⟨.lst ((invs t 0 0 es).map eD) :: [.lst ((turns 0 0 es).map eD)], run_ t16 rfl (by omega) ?_⟩
  show (evS (F (m - 1)) b16 [some (.str t), some (esD es), none, none, none, none, none, none] G).bind outD = _
  unfold b16
  rw [drop_s (d := .non) (G1 := G) (by simp [e]), set_s (d := .ref G.length) (G1 := G ++ [.lst []]) (by simp [sz])]
  simp only [List.set_cons_succ, List.set_cons_zero]
  rw [for_nx (ds := List.zipWith (fun x y => D.tup [x, y]) ((turns 0 0 es).map eD) (es.map eD)) (G1 := G ++ .lst [] :: [.lst ((turns 0 0 es).map eD)]) ?_ hr]
  · refine seq_ret ?_
    simp only [ev_blt1, ev_cons1, ev_nil1, ev_v1, List.getElem?_cons_succ, List.getElem?_cons_zero, Option.bind_some, bnd_s, consK_s, argK_s, blt_tuple, one_s, tup_r at_mid]
    rfl
  · simp only [ev_izip1, ev_call1, ev_cons1, ev_nil1, ev_v1, List.getElem?_cons_succ, List.getElem?_cons_zero, Option.bind_some, bnd_s, consK_s, argK_s, List.length_cons, List.length_nil]
    rw [if_pos trivial, e2, bnd_s, bnd_s]
    simp [zipK, esD]
/-! 18 to 22 -/
theorem turns_len {es : List Ed} : ∀ {a now : Nat}, (∀ e ∈ es, e.2.2.length ≤ 2000) → ∀ e ∈ turns a now es, e.2.2.length ≤ 2000 := by
  induction es with
  | nil => intro a now h e he; simp [turns] at he
  | cons e es ih =>
    intro a now h x hx
    obtain ⟨p, g, c⟩ := e
    simp only [turns, List.mem_cons] at hx
    rcases hx with rfl | hx
    · exact h (p, g, c) (by simp)
    · exact ih (fun e he => h e (by simp [he])) x hx
end K14
set_option Elab.async false
set_option linter.all false
set_option autoImplicit false
set_option maxRecDepth 100000
set_option maxHeartbeats 1000000
namespace K14
open PySem PySem.Spec L2 Mp
open PyProof.Rows hiding St

def pD (p : Nat × Nat) : D := .tup [.int p.1, .int p.2]
def psD (ps : List (Nat × Nat)) : D := .tup (ps.map pD)
def seg (a now n : Nat) : List (Nat × Nat) := (List.range n).map fun i => (a + i, now + i)
theorem hold_comp {cl : Nat → List D → Hs → Rs} {ς : Env'} {G : Hs} {a now b : Nat} {e : E} (h8 : 8 < ς.length) (ha : ς[4]? = some (some (.int a))) (h3 : ς[3]? = some (some (.int ((now : Int) - a)))) (hb : (ev cl e).1 ς G = some (.int b, G)) (hab : b ≤ 10000) (ha2 : a ≤ 10000) :
    (ev cl (E.comp false (Tg.nm 8) [8] (E.irng 2 (E.cons (E.v 4) (E.cons e E.nil))) E.yes (E.tup (E.cons (E.v 8) (E.cons (E.bin Bop.add (E.v 8) (E.v 3)) E.nil))))).1 ς G = some (.lst ((seg a now (b - a)).map pD), G) := by
  have rg : arity 2 rngK [D.int a, D.int b] G = some (.tup (rgN a 1 (b - a)), G) := by
    have : rgA [D.int (a : Int), D.int (b : Int)] = some ((a : Int), 1, b - a) := by
      rw [rgA_2, if_pos (by omega)]
      congr 3; omega
    exact rng2_s this
  simp only [ev_comp1, ev_irng1, ev_cons1, ev_nil1, ev_v1, ha, Option.bind_some, bnd_s, hb, consK_s, argK_s, rg]
  rw [loopC_map (f := fun d => match d with | .int i => .tup [.int i, .int (i + ((now : Int) - a))] | d => d)]
  · have em : (rgN (a : Int) 1 (b - a)).map (fun d => match d with | .int i => D.tup [.int i, .int (i + ((now : Int) - a))] | d => d) = (seg a now (b - a)).map pD := by
      simp only [rgN, seg, List.map_map]
      apply List.map_congr_left
      intro i hi
      have y1 : (a : Int) + (i : Nat) * 1 = ((a + i : Nat) : Int) := by omega
      have y2 : ((a + i : Nat) : Int) + ((now : Int) - a) = ((now + i : Nat) : Int) := by omega
      simp only [Function.comp, pD, y1, y2]
    rw [bnd_s, newD_f, em]
  · intro d hd
    unfold rgN at hd
    obtain ⟨i, hi, rfl⟩ := List.mem_map.mp hd
    refine ⟨_, bindL_nm, by simp, ?_⟩
    have q3 : ((wipeE ς [8]).set 8 (some (.int ((a : Int) + (i : Nat) * 1))))[3]? = some (some (.int ((now : Int) - a))) := by
      simp [wipeE, h3]
    have q8 : ((wipeE ς [8]).set 8 (some (.int ((a : Int) + (i : Nat) * 1))))[8]? = some (some (.int ((a : Int) + (i : Nat) * 1))) := by
      simp [wipeE, h8]
    simp only [ev_tup1, ev_cons1, ev_nil1, ev_bin1, ev_v1, q3, q8]
    simp [sz]
  · rw [sz]; simp [rgN]; omega
theorem for_hold {cl : Nat → List D → Hs → Rs} {v0 v1 : D} {G : Hs} {n : Nat} (hn : n ≤ 10000) : ∀ (es : List Ed) (a now : Nat) (acc : List D) (o5 o6 o7 o8 : Option D), Wf n a es → (∀ e ∈ es, e.2.2.length ≤ 2000) → acc.length + (n - a) < 16777216 →
    ∃ a' now' h' u5 u6 u7 u8, a' ≤ n ∧ hold n a now es = h' ++ seg a' now' (n - a') ∧ h'.length + (n - a') ≤ n - a ∧ loopF (Tg.tp (Tg.cons (Tg.nm 5) (Tg.cons (Tg.nm 6) (Tg.cons (Tg.nm 7) Tg.nil)))) (evS cl (S.seq (S.drop (E.mth Mth.extend (E.v 2) (E.cons (E.comp false (Tg.nm 8) [8] (E.irng 2 (E.cons (E.v 4) (E.cons (E.v 5) E.nil))) E.yes (E.tup (E.cons (E.v 8) (E.cons (E.bin Bop.add (E.v 8) (E.v 3)) E.nil)))) E.nil))) (S.seq (S.tgt (Tg.tp (Tg.cons (Tg.nm 3) (Tg.cons (Tg.nm 4) Tg.nil))) (E.tup (E.cons (E.bin Bop.sub (E.bin Bop.add (E.v 3) (E.blt Blt.len (E.cons (E.v 7) E.nil))) (E.v 6)) (E.cons (E.bin Bop.add (E.v 5) (E.v 6)) E.nil)))) S.skip))) (es.map eD)
      [some v0, some v1, some (.ref G.length), some (.int ((now : Int) - a)), some (.int a), o5, o6, o7, o8] (G ++ [.lst acc]) = some (.nx [some v0, some v1, some (.ref G.length), some (.int ((now' : Int) - a')), some (.int a'), u5, u6, u7, u8] (G ++ [.lst (acc ++ h'.map pD)]))
  | [], a, now, acc, o5, o6, o7, o8, h, _, _ => ⟨a, now, [], o5, o6, o7, o8, h, rfl, by simp, by simp [loopF]⟩
  | (p, g, c) :: es, a, now, acc, o5, o6, o7, o8, ⟨w1, w2, w3⟩, h2, h3 => by
    have hc : c.length ≤ 16777216 := by have := h2 (p, g, c) (by simp); simp at this; omega
    have hsl : ((seg a now (p - a)).map pD).length = p - a := by simp [seg]
    obtain ⟨a', now', h', u5, u6, u7, u8, i1, i2, i3, ih⟩ := for_hold (cl := cl) (v0 := v0) (v1 := v1) (G := G) hn es (p + g) (now + (p - a) + c.length) (acc ++ (seg a now (p - a)).map pD) (some (.int p)) (some (.int g)) (some (.str c)) o8 w3 (fun e he => h2 e (by simp [he])) (by rw [List.length_append, hsl]; omega)
    refine ⟨a', now', seg a now (p - a) ++ h', u5, u6, u7, u8, i1, ?_, by simp [seg]; omega, ?_⟩
    · simp only [hold, i2, List.append_assoc]; rfl
    have x2 : (now : Int) - a + c.length - g = ((now + (p - a) + c.length : Nat) : Int) - ((p + g : Nat) : Int) := by omega
    have x3 : (p : Int) + g = ((p + g : Nat) : Int) := by omega
    simp only [List.map_cons, loopF]
    have b : bindL (Tg.tp (Tg.cons (Tg.nm 5) (Tg.cons (Tg.nm 6) (Tg.cons (Tg.nm 7) Tg.nil)))) [eD (p, g, c)] [some v0, some v1, some (.ref G.length), some (.int ((now : Int) - a)), some (.int a), o5, o6, o7, o8] = some [some v0, some v1, some (.ref G.length), some (.int ((now : Int) - a)), some (.int a), some (.int p), some (.int g), some (.str c), o8] := by
      simp [eD, dE]
    rw [b, Option.bind_some]
    have hcmp := hold_comp (cl := cl) (ς := [some v0, some v1, some (.ref G.length), some (.int ((now : Int) - a)), some (.int a), some (.int p), some (.int g), some (.str c), o8]) (G := G ++ [.lst acc]) (a := a) (now := now) (b := p) (e := .v 5) (by simp) rfl rfl rfl (by omega) (by omega)
    rw [drop_s (d := .non) (G1 := G ++ [.lst (acc ++ (seg a now (p - a)).map pD)])]
    · rw [tgt_s (d := .tup [.int ((now : Int) - a + c.length - g), .int ((p : Int) + g)]) (G1 := G ++ [.lst (acc ++ (seg a now (p - a)).map pD)]) (by simp [sz, hc]) (by simp; rfl)]
      rw [evS_skip, Option.bind_some, x2, x3]
      show loopF _ _ _ _ _ = _
      rw [ih]
      simp
    · rw [ev_mth1, ev_v1]
      simp only [List.getElem?_cons_succ, List.getElem?_cons_zero, Option.bind_some, bnd_s]
      rw [show Mth.extend.ty = .list from rfl, ref_ty at_new, if_pos rfl]
      simp only [ev_cons1, hcmp, bnd_s, ev_nil1, consK_s, argK_s]
      exact ext_new rfl (by rw [hsl]; omega)
theorem hold_of_run {m : Nat} (hm : 6 ≤ m) {G : Hs} {t : List Nat} {es : List Ed} (hl : t.length ≤ 5000) (h : OkEs t es) : ∃ l, F m 28 [.str t, esD es] G = some (psD (hold t.length 0 0 es), G ++ l) := by
  have e := check_edits_run (m := m - 1) (by omega) (G := G) hl h
  have hf := h.few
  obtain ⟨a', now', h', u5, u6, u7, u8, i1, i2, i3, hr⟩ := for_hold (cl := F (m - 1)) (v0 := .str t) (v1 := esD es) (G := G) (by omega : t.length ≤ 10000) es 0 0 [] none none none none h.wf (fun x hx => (h.each x hx).2.2) (by simp; omega)
  refine ⟨[.lst ((hold t.length 0 0 es).map pD)], run_ t28 rfl (by omega) ?_⟩
  show (evS (F (m - 1)) b28 [some (.str t), some (esD es), none, none, none, none, none, none, none] G).bind outD = _
  unfold b28
  rw [drop_s (d := .non) (G1 := G) (by simp [e]), set_s (d := .ref G.length) (G1 := G ++ [.lst []]) (by simp [sz]), tgt_s (d := .tup [.int 0, .int 0]) (G1 := G ++ [.lst []]) (by simp [sz]) (by simp; rfl)]
  rw [for_nx (ds := es.map eD) (G1 := G ++ [.lst []]) (by simp [esD]) hr]
  have hcmp := hold_comp (cl := F (m - 1)) (ς := [some (.str t), some (esD es), some (.ref G.length), some (.int ((now' : Int) - a')), some (.int a'), u5, u6, u7, u8]) (G := G ++ [.lst ([] ++ h'.map pD)]) (a := a') (now := now') (b := t.length) (e := E.blt Blt.len (E.cons (E.v 0) E.nil)) (by simp) rfl rfl (by simp [sz]; omega) (by omega) (by omega)
  have hsl : ((seg a' now' (t.length - a')).map pD).length = t.length - a' := by simp [seg]
  rw [drop_s (d := .non) (G1 := G ++ [.lst ((hold t.length 0 0 es).map pD)])]
  · refine seq_ret ?_
    simp only [ev_blt1, ev_cons1, ev_nil1, ev_v1, List.getElem?_cons_succ, List.getElem?_cons_zero, Option.bind_some, bnd_s, consK_s, argK_s, blt_tuple, one_s, tup_r at_new]
    rfl
  · rw [ev_mth1, ev_v1]
    simp only [List.getElem?_cons_succ, List.getElem?_cons_zero, Option.bind_some, bnd_s]
    rw [show Mth.extend.ty = .list from rfl, ref_ty at_new, if_pos rfl]
    simp only [ev_cons1, hcmp, bnd_s, ev_nil1, consK_s, argK_s]
    refine (ext_new rfl (by rw [hsl]; simp; omega)).trans ?_
    rw [i2]; simp
end K14
set_option Elab.async false
set_option linter.all false
set_option autoImplicit false
set_option maxRecDepth 100000
set_option maxHeartbeats 1000000
namespace K14
open PySem PySem.Spec L2 Mp
open PyProof.Rows hiding St

/-! 17 -/
def endOf : List Ed → Nat
  | [] => 0
  | [(p, g, _)] => p + g
  | _ :: r => endOf r
theorem weave_end (t : List Nat) : ∀ (es : List Ed) (a : Nat), es ≠ [] → Wf t.length a es → a ≤ endOf es ∧ endOf es ≤ t.length ∧ ∃ x, weave t a es = x ++ t.drop (endOf es)
  | [], _, h, _ => absurd rfl h
  | [(p, g, c)], a, _, ⟨w1, w2, w3⟩ => ⟨by simp [endOf]; omega, by simp [endOf]; omega, (t.drop a).take (p - a) ++ c, by simp [weave, endOf]⟩
  | (p, g, c) :: e :: r, a, _, ⟨w1, w2, w3⟩ => by
    obtain ⟨h1, h2, x, h3⟩ := weave_end t (e :: r) (p + g) (by simp) w3
    refine ⟨by simp only [endOf]; omega, h2, (t.drop a).take (p - a) ++ c ++ x, ?_⟩
    simp only [weave, h3, List.append_assoc, endOf] at *
    rw [h3]
theorem weave_begin (t : List Nat) {e : Ed} {r : List Ed} (h : Wf t.length 0 (e :: r)) : ∃ y, weave t 0 (e :: r) = t.take e.1 ++ y := by
  obtain ⟨p, g, c⟩ := e
  exact ⟨c ++ weave t (p + g) r, by simp [weave]⟩
def oneFor (t : List Nat) : List Ed → Ed
  | [] => (0, 0, [])
  | e :: r => (e.1, endOf (e :: r) - e.1, ((weave t 0 (e :: r)).drop e.1).take ((weave t 0 (e :: r)).length - (t.length - endOf (e :: r)) - e.1))
theorem idxE0 {e : Ed} {G : Hs} : idxD (eD e) (.int 0) G = some (.int e.1, G) := rfl
theorem idxE1 {e : Ed} {G : Hs} : idxD (eD e) (.int 1) G = some (.int e.2.1, G) := rfl
theorem idxE2 {e : Ed} {G : Hs} : idxD (eD e) (.int 2) G = some (.str e.2.2, G) := rfl
theorem endOf_last : ∀ {es : List Ed} (h : es ≠ []), endOf es = (es.getLast h).1 + (es.getLast h).2.1
  | [(p, g, c)], _ => rfl
  | a :: b :: r, _ => by
    show endOf (b :: r) = _
    rw [endOf_last (es := b :: r) (by simp)]
    simp
/-! 29 -/
def costOf (es : List Ed) : Nat := (es.map fun e => e.2.1 + e.2.2.length).sum
theorem sum_cast (xs : List Nat) : (xs.map fun x : Nat => (x : Int)).sum = ((xs.sum : Nat) : Int) := by
  induction xs with
  | nil => rfl
  | cons x xs ih => simp [ih]
theorem cost_of_run {m : Nat} (hm : 1 ≤ m) {G : Hs} {es : List Ed} (h : ∀ e ∈ es, e.2.2.length ≤ 10000) (hl : es.length ≤ 10000) : F m 29 [esD es] G = some (.int (costOf es), G) := by
  refine run_ t29 rfl (by omega) ?_
  show (evS (F (m - 1)) b29 [some (esD es), none, none, none] G).bind outD = _
  unfold b29
  refine seq_ret ?_
  simp only [ev_blt1, ev_cons1, ev_nil1, ev_comp1, ev_iseq1, ev_v1, esD, List.getElem?_cons_zero, Option.bind_some, bnd_s, seq_tup, argK_s]
  rw [loopC_map (f := fun d => match d with | .tup [_, .int g, .str c] => .int (g + c.length) | d => d)]
  · have em : ((es.map eD).map fun d => match d with | .tup [_, .int g, .str c] => D.int (g + c.length) | d => d) = ((es.map fun e => e.2.1 + e.2.2.length).map fun x : Nat => (x : Int)).map D.int := by
      simp only [List.map_map]
      apply List.map_congr_left
      intro e he
      simp [eD, dE]
    rw [em]
    simp only [bnd_s, newD_f, consK_s, argK_s, blt_sum, one_s, sumI_s]
    rw [sum_cast]; rfl
  · intro d hd
    obtain ⟨e, he, rfl⟩ := List.mem_map.mp hd
    have hc : e.2.2.length ≤ 16777216 := by have := h e he; omega
    refine ⟨[some (.tup (es.map eD)), some (.int e.1), some (.int e.2.1), some (.str e.2.2)], by simp [eD, dE, wipeE], by simp, ?_⟩
    simp [eD, dE, sz, hc]
  · rw [sz]; simp; omega
end K14
set_option Elab.async false
set_option linter.all false
set_option autoImplicit false
set_option maxRecDepth 100000
set_option maxHeartbeats 1000000
namespace K14
open PySem PySem.Spec L2 Mp
open PyProof.Rows hiding St

/-! 30: the table of distances -/
def dist : List Nat → List Nat → Nat
  | [], b => b.length
  | x :: a, [] => a.length + 1
  | x :: a, y :: b => if y = x then dist a b else 1 + min (dist a (y :: b)) (dist (x :: a) b)
termination_by a b => a.length + b.length
theorem dist_nil (b : List Nat) : dist [] b = b.length := by rw [dist]
theorem dist_nil2 (a : List Nat) : dist a [] = a.length := by cases a <;> rw [dist] <;> rfl
theorem dist_cons (x y : Nat) (a b : List Nat) : dist (x :: a) (y :: b) = if y = x then dist a b else 1 + min (dist a (y :: b)) (dist (x :: a) b) := by rw [dist]
def rowOf (a b : List Nat) : List Nat := (List.range (b.length + 1)).map fun j => dist a (b.drop j)
def rowV (a b : List Nat) : D := .lst ((rowOf a b).map fun n : Nat => D.int (n : Int))
def rows (b : List Nat) : List Nat → List D
  | [] => [rowV [] b]
  | x :: a => rowV (x :: a) b :: rows b a
theorem rowOf_at {a b : List Nat} {j : Nat} (h : j ≤ b.length) : atI ((rowOf a b).map fun n : Nat => D.int (n : Int)) (j : Int) = some (.int (dist a (b.drop j) : Nat)) := by
  apply atI_nat
  have : j < b.length + 1 := by omega
  simp [rowOf, this]
def rowR (a b : List Nat) (i : Nat) : List D := (List.range i).map fun q => .int (dist a (b.drop (b.length - q)) : Nat)
theorem rowR_rev {a b : List Nat} : (rowR a b (b.length + 1)).reverse = (rowOf a b).map fun n : Nat => D.int (n : Int) := by
  apply List.ext_getElem
  · simp [rowR, rowOf]
  · intro i h1 h2
    simp [rowR, rowOf] at h1 h2 ⊢
    rw [show b.length - (b.length - i) = i by omega]
abbrev bInner : S := (S.seq (S.drop (E.mth Mth.append (E.v 5) (E.cons (E.ite (E.cmp Cop.eq (E.idx (E.v 1) (E.v 6)) (E.v 4)) (E.idx (E.v 2) (E.bin Bop.add (E.v 6) (E.k (D.int 1)))) (E.bin Bop.add (E.k (D.int 1)) (E.blt Blt.min2 (E.cons (E.idx (E.v 2) (E.v 6)) (E.cons (E.idx (E.v 5) (E.neg (E.k (D.int 1)))) E.nil))))) E.nil))) S.skip)
theorem for_inner {cl : Nat → List D → Hs → Rs} {v0 v3 : D} {a b : List Nat} {x : Nat} {G : Hs} (hb : b.length ≤ 5000) : ∀ (k i : Nat) (o : Option D), i + k = b.length →
    ∃ o', loopF (.nm 6) (evS cl bInner) (rgN ((k : Int) - 1) (-1) k) [some v0, some (.str b), some (rowV a b), some v3, some (.str [x]), some (.ref G.length), o] (G ++ [.lst (rowR (x :: a) b (i + 1))]) =
      some (.nx [some v0, some (.str b), some (rowV a b), some v3, some (.str [x]), some (.ref G.length), o'] (G ++ [.lst (rowR (x :: a) b (b.length + 1))]))
  | 0, i, o, h => ⟨o, by obtain rfl : i = b.length := by omega
                         rfl⟩
  | k + 1, i, o, h => by
    obtain ⟨o', ih⟩ := for_inner (cl := cl) (v0 := v0) (v3 := v3) (a := a) (x := x) (G := G) hb k (i + 1) (some (.int k)) (by omega)
    refine ⟨o', ?_⟩
    have er : rgN (((k + 1 : Nat) : Int) - 1) (-1) (k + 1) = .int k :: rgN ((k : Int) - 1) (-1) k := by
      unfold rgN
      rw [List.range_succ_eq_map, List.map_cons, List.map_map]
      congr 1
      · congr 1; omega
      · apply List.map_congr_left
        intro i _
        simp only [Function.comp]
        congr 1
        omega
    rw [er]
    have hk : k < b.length := by omega
    have f1 : b.length ≤ 16777216 := by omega
    have c1 : atI b (k : Int) = some b[k] := atS hk
    have c2 : atI ((rowOf a b).map fun n : Nat => D.int (n : Int)) ((k : Int) + 1) = some (.int (dist a (b.drop (k + 1)) : Nat)) := rowOf_at (j := k + 1) (by omega)
    have c3 : atI ((rowOf a b).map fun n : Nat => D.int (n : Int)) (k : Int) = some (.int (dist a (b.drop k) : Nat)) := rowOf_at (by omega)
    have hdk : b.drop k = b[k] :: b.drop (k + 1) := List.drop_eq_getElem_cons hk
    have hR : rowR (x :: a) b (i + 1) = rowR (x :: a) b i ++ [.int (dist (x :: a) (b.drop (k + 1)) : Nat)] := by
      unfold rowR
      rw [List.range_succ, List.map_append, List.map_cons, List.map_nil, show b.length - i = k + 1 by omega]
    have hR2 : rowR (x :: a) b (i + 1 + 1) = rowR (x :: a) b (i + 1) ++ [.int (dist (x :: a) (b.drop k) : Nat)] := by
      unfold rowR
      rw [List.range_succ, List.map_append, List.map_cons, List.map_nil, show b.length - (i + 1) = k by omega]
    have c4 : atI (rowR (x :: a) b (i + 1)) (-1) = some (.int (dist (x :: a) (b.drop (k + 1)) : Nat)) := by
      rw [hR]; exact L2.atI_last _ _
    have hl : (rowR (x :: a) b (i + 1)).length < 16777216 := by simp [rowR]; omega
    simp only [loopF, bindL_nm, Option.bind_some, List.set_cons_succ, List.set_cons_zero]
    rw [drop_s (d := .non) (G1 := G ++ [.lst (rowR (x :: a) b (i + 1 + 1))])]
    · rw [evS_skip, Option.bind_some]
      exact ih
    · rw [ev_mth1, ev_v1]
      simp only [List.getElem?_cons_succ, List.getElem?_cons_zero, Option.bind_some, bnd_s]
      rw [show Mth.append.ty = .list from rfl, ref_ty at_new, if_pos rfl]
      have key : (ev cl (E.ite (E.cmp Cop.eq (E.idx (E.v 1) (E.v 6)) (E.v 4)) (E.idx (E.v 2) (E.bin Bop.add (E.v 6) (E.k (D.int 1)))) (E.bin Bop.add (E.k (D.int 1)) (E.blt Blt.min2 (E.cons (E.idx (E.v 2) (E.v 6)) (E.cons (E.idx (E.v 5) (E.neg (E.k (D.int 1)))) E.nil)))))).1
          [some v0, some (.str b), some (rowV a b), some v3, some (.str [x]), some (.ref G.length), some (.int k)] (G ++ [.lst (rowR (x :: a) b (i + 1))]) = some (.int (dist (x :: a) (b.drop k) : Nat), G ++ [.lst (rowR (x :: a) b (i + 1))]) := by
        rw [ev_ite1, ev_cmp2]
        have t1 : (ev cl (E.idx (E.v 1) (E.v 6))).1 [some v0, some (.str b), some (rowV a b), some v3, some (.str [x]), some (.ref G.length), some (.int k)] (G ++ [.lst (rowR (x :: a) b (i + 1))]) = some (.str [b[k]], G ++ [.lst (rowR (x :: a) b (i + 1))]) := by
          simp [sz, f1, c1]
        rw [t1]
        by_cases hx : b[k] = x
        · have : dist (x :: a) (b.drop k) = dist a (b.drop (k + 1)) := by rw [hdk, dist_cons, if_pos hx]
          rw [this]
          simp [hx, rowV, c2]
        · have : dist (x :: a) (b.drop k) = 1 + min (dist a (b.drop k)) (dist (x :: a) (b.drop (k + 1))) := by rw [hdk, dist_cons, if_neg hx]
          rw [this]
          have hm : (if ((dist (x :: a) (b.drop (k + 1)) : Nat) : Int) < (dist a (b.drop k) : Nat) then ((dist (x :: a) (b.drop (k + 1)) : Nat) : Int) else (dist a (b.drop k) : Nat)) = ((min (dist a (b.drop k)) (dist (x :: a) (b.drop (k + 1))) : Nat) : Int) := by split <;> omega
          simp only [ev_v1, List.getElem?_cons_succ, List.getElem?_cons_zero, Option.bind_some, bnd_s, cmpD_s, cmp_eqS, Option.map_some, blB_b]
          rw [show ([b[k]] == [x]) = false by simp [hx], if_neg (by decide)]
          simp only [ev_bin1, ev_k1, ev_blt1, ev_cons1, ev_nil1, ev_idx1, ev_neg1, ev_v1, List.getElem?_cons_succ, List.getElem?_cons_zero, Option.bind_some, bnd_s, rowV, idx_lst, c3, Option.map_some, negD, idx_r at_new, c4, consK_s, argK_s, blt_min2, two_s, min2_s, hm, bin_addi]
          congr 2
      simp only [ev_cons1, key, bnd_s, ev_nil1, consK_s, argK_s]
      rw [hR2]
      exact app_new hl
abbrev bOuter : S := (S.seq (S.set 5 (E.lst true (E.cons (E.bin Bop.add (E.idx (E.v 2) (E.neg (E.k (D.int 1)))) (E.k (D.int 1))) E.nil))) (S.seq (S.for_ (Tg.nm 6) (E.irng 3 (E.cons (E.bin Bop.sub (E.blt Blt.len (E.cons (E.v 1) E.nil)) (E.k (D.int 1))) (E.cons (E.neg (E.k (D.int 1))) (E.cons (E.neg (E.k (D.int 1))) E.nil)))) bInner) (S.seq (S.set 2 (E.rev false (E.v 5))) (S.seq (S.drop (E.mth Mth.append (E.v 3) (E.cons (E.v 2) E.nil))) S.skip))))
theorem rev_r {G : Hs} {n : Nat} {ds : List D} (h : G[n]? = some (.lst ds)) : revD false (.ref n) G = some (.lst ds.reverse, G) := by
  simp [revD, Mp.roOf, Mp.listOf, h]
theorem rowOf_ne (a b : List Nat) : (rowOf a b).map (fun n : Nat => D.int (n : Int)) = ((List.range b.length).map fun j => D.int (dist a (b.drop j) : Nat)) ++ [.int (a.length : Int)] := by
  unfold rowOf
  rw [List.range_succ, List.map_append, List.map_append, List.map_map]
  simp [dist_nil2]
theorem app_at {G : Hs} {n : Nat} {ds : List D} {x : D} {l : Hs} (hl : ds.length < 16777216) : appendM (.ref G.length) [x] (G ++ .lst ds :: l) = some (.non, G ++ .lst (ds ++ [x]) :: l) := app_mid hl
theorem rgA_s {i j c : Int} {n : Nat} (h0 : c ≠ 0) (h1 : -1000000 ≤ i ∧ i ≤ 1000000) (h2 : -1000000 ≤ j ∧ j ≤ 1000000) (h3 : -1000000 ≤ c ∧ c ≤ 1000000) (h4 : n ≤ 1000000) (hn : Builtin.Range.rangeSize i j c = n) : rgA [.int i, .int j, .int c] = some (i, c, n) := by
  have s1 : Builtin.Range.small i j c = true := by
    unfold Builtin.Range.small
    rw [hn]
    have fit : ∀ z : Int, -10000000 ≤ z → z ≤ 10000000 → Builtin.Range.rangeFitsLong z = true := fun z z1 z2 => by
      simp only [Builtin.Range.rangeFitsLong, Bool.and_eq_true, decide_eq_true_eq]; omega
    have e1 : (if c > 0 then Builtin.Range.rangeFitsLong (j + (c - 1)) else Builtin.Range.rangeFitsLong (j + (c + 1))) = true := by
      split <;> exact fit _ (by omega) (by omega)
    rw [fit i (by omega) (by omega), fit j (by omega) (by omega), fit c (by omega) (by omega), fit n (by omega) (by omega), e1]
    simp
  show (if c ≠ 0 ∧ c.natAbs < 1073741824 ∧ Builtin.Range.small i j c = true ∧ 0 ≤ Builtin.Range.rangeSize i j c then some (i, c, (Builtin.Range.rangeSize i j c).toNat) else none) = _
  rw [hn, s1, if_pos ⟨h0, by omega, rfl, by omega⟩]
  simp
theorem rgA_dn {i j : Int} (h1 : -1000000 ≤ i ∧ i ≤ 1000000) (h2 : -1000000 ≤ j ∧ j ≤ 1000000) (h4 : (i - j).toNat ≤ 1000000) : rgA [.int i, .int j, .int (-1)] = some (i, -1, (i - j).toNat) := by
  refine rgA_s (by decide) h1 h2 (by decide) h4 ?_
  unfold Builtin.Range.rangeSize
  rw [if_neg (by decide)]
  split
  · rw [show -(-1 : Int) = 1 from rfl, Int.ediv_one]; omega
  · omega
theorem rg3_s {G : Hs} {n : Nat} (hn : n ≤ 10000) : arity 3 rngK [.int ((n : Int) - 1), .int (-1), .int (-1)] G = some (.tup (rgN ((n : Int) - 1) (-1) n), G) := by
  unfold arity rngK
  have : rgA [.int ((n : Int) - 1), .int (-1), .int (-1)] = some ((n : Int) - 1, -1, n) := by
    have e : ((n : Int) - 1 - (-1)).toNat = n := by omega
    rw [rgA_dn (by omega) (by omega) (by omega), e]
  rw [if_pos (by rfl), this]; rfl
theorem for_outer {cl : Nat → List D → Hs → Rs} {v0 : D} {b : List Nat} {G : Hs} (hb : b.length ≤ 5000) : ∀ (rest a : List Nat) (l : Hs) (o4 o5 o6 : Option D), rest.length + (rows b a).length ≤ 10000 →
    ∃ u4 u5 u6 l', loopF (.nm 4) (evS cl bOuter) (rest.map fun c => .str [c]) [some v0, some (.str b), some (rowV a b), some (.ref G.length), o4, o5, o6] (G ++ .lst (rows b a).reverse :: l) =
      some (.nx [some v0, some (.str b), some (rowV (rest.reverse ++ a) b), some (.ref G.length), u4, u5, u6] (G ++ .lst (rows b (rest.reverse ++ a)).reverse :: l'))
  | [], a, l, o4, o5, o6, _ => ⟨o4, o5, o6, l, rfl⟩
  | x :: rest, a, l, o4, o5, o6, h => by
    simp only [List.length_cons] at h
    obtain ⟨o', hi⟩ := for_inner (cl := cl) (v0 := v0) (v3 := .ref G.length) (a := a) (x := x) (G := G ++ .lst (rows b a).reverse :: l) hb b.length 0 o6 (by omega)
    obtain ⟨u4, u5, u6, l', ih⟩ := for_outer (cl := cl) (v0 := v0) (G := G) hb rest (x :: a) (l ++ [.lst (rowR (x :: a) b (b.length + 1))]) (some (.str [x])) (some (.ref (G ++ Cell.lst (rows b a).reverse :: l).length)) o' (by simp [rows]; omega)
    refine ⟨u4, u5, u6, l', ?_⟩
    rw [List.reverse_cons, List.append_assoc]
    refine Eq.trans ?_ ih
    have f1 : b.length ≤ 16777216 := by omega
    have c0 : atI ((rowOf a b).map fun n : Nat => D.int (n : Int)) (-1) = some (.int (a.length : Int)) := by
      rw [rowOf_ne]; exact L2.atI_last _ _
    have r1 : rowR (x :: a) b (0 + 1) = [.int ((a.length : Int) + 1)] := by
      simp [rowR, dist_nil2]
    have hl : (rows b a).reverse.length < 16777216 := by simp; omega
    simp only [List.map_cons, loopF, bindL_nm, Option.bind_some, List.set_cons_succ, List.set_cons_zero]
    rw [set_s (d := .ref (G ++ .lst (rows b a).reverse :: l).length) (G1 := (G ++ .lst (rows b a).reverse :: l) ++ [.lst (rowR (x :: a) b (0 + 1))])]
    · simp only [List.set_cons_succ, List.set_cons_zero]
      rw [for_nx (ds := rgN ((b.length : Int) - 1) (-1) b.length) (G1 := (G ++ .lst (rows b a).reverse :: l) ++ [.lst (rowR (x :: a) b (0 + 1))]) ?_ hi]
      · rw [set_s (d := rowV (x :: a) b) (G1 := (G ++ .lst (rows b a).reverse :: l) ++ [.lst (rowR (x :: a) b (b.length + 1))])]
        · simp only [List.set_cons_succ, List.set_cons_zero]
          have ea : ∀ c : List D, (G ++ Cell.lst (rows b a).reverse :: l) ++ [Cell.lst c] = G ++ Cell.lst (rows b a).reverse :: (l ++ [.lst c]) := fun c => by simp
          rw [drop_s (d := .non) (G1 := G ++ .lst (rows b (x :: a)).reverse :: (l ++ [.lst (rowR (x :: a) b (b.length + 1))]))]
          · rw [evS_skip, Option.bind_some]
          · rw [ea, ev_mth1, ev_v1]
            simp only [List.getElem?_cons_succ, List.getElem?_cons_zero, Option.bind_some, bnd_s]
            rw [show Mth.append.ty = .list from rfl, ref_ty at_mid, if_pos rfl]
            simp only [ev_cons1, ev_v1, ev_nil1, List.getElem?_cons_succ, List.getElem?_cons_zero, Option.bind_some, bnd_s, consK_s, argK_s, rows, List.reverse_cons]
            exact app_mid hl
        · rw [ev_rev1, ev_v1]
          simp only [List.getElem?_cons_succ, List.getElem?_cons_zero, Option.bind_some, bnd_s]
          rw [rev_r at_new, rowR_rev]; rfl
      · simp only [ev_irng1, ev_cons1, ev_bin1, ev_blt1, ev_v1, ev_k1, ev_nil1, ev_neg1, List.getElem?_cons_succ, List.getElem?_cons_zero, Option.bind_some, bnd_s, consK_s, argK_s, blt_len, one_s, Mp.len_str, sz, f1, if_true, bin_subi, negD, rg3_s (by omega : b.length ≤ 10000)]
    · simp only [ev_lst1, ev_cons1, ev_bin1, ev_idx1, ev_neg1, ev_v1, ev_k1, ev_nil1, List.getElem?_cons_succ, List.getElem?_cons_zero, Option.bind_some, bnd_s, rowV, negD, idx_lst, c0, Option.map_some, bin_addi, consK_s, argK_s, lstK_s, r1]
      rw [if_pos (by rw [sz]; simp), newD_t]
theorem rows_len (a b : List Nat) : (rows b a).length = a.length + 1 := by
  induction a with
  | nil => rfl
  | cons x a ih => simp [rows, ih]
theorem cost_rows_run {m : Nat} (hm : 1 ≤ m) {G : Hs} {a b : List Nat} (ha : a.length ≤ 4000) (hb : b.length ≤ 4000) : ∃ l, F m 30 [.str a, .str b] G = some (.lst (rows b a), G ++ l) := by
  obtain ⟨u4, u5, u6, l', hr⟩ := for_outer (cl := F (m - 1)) (v0 := .str a) (b := b) (G := G) (by omega) a.reverse [] [] none none none (by simp [rows]; omega)
  refine ⟨.lst (rows b (a.reverse.reverse ++ [])).reverse :: l', run_ t30 rfl (by omega) ?_⟩
  have f1 : a.length ≤ 16777216 := by omega
  have f2 : b.length ≤ 16777216 := by omega
  have er : rgN (b.length : Int) (-1) (b.length + 1) = (rowOf [] b).map fun n : Nat => D.int (n : Int) := by
    unfold rgN rowOf
    rw [List.map_map]
    apply List.map_congr_left
    intro i hi
    have := List.mem_range.mp hi
    simp only [Function.comp, dist_nil, List.length_drop]
    congr 1; omega
  have lr : lrgK false [.int (b.length : Int), .int (-1), .int (-1)] G = some (rowV [] b, G) := by
    have : rgA [.int (b.length : Int), .int (-1), .int (-1)] = some ((b.length : Int), -1, b.length + 1) := by
      have e : ((b.length : Int) - (-1)).toNat = b.length + 1 := by omega
      rw [rgA_dn (by omega) (by omega) (by omega), e]
    unfold lrgK
    rw [this, Option.bind_some, if_pos (by show b.length + 1 ≤ 2 ^ 24; omega), newD_f, er]; rfl
  show (evS (F (m - 1)) b30 [some (.str a), some (.str b), none, none, none, none, none] G).bind outD = _
  unfold b30
  rw [set_s (d := rowV [] b) (G1 := G) (by simp [sz, f2, negD, lr]), set_s (d := .ref G.length) (G1 := G ++ [.lst [rowV [] b]]) (by simp [sz])]
  simp only [List.set_cons_succ, List.set_cons_zero]
  have hr' := hr
  rw [for_nx (ds := a.reverse.map fun c => .str [c]) (G1 := G ++ [.lst [rowV [] b]]) (by simp [sz, f1]) hr]
  refine seq_ret ?_
  rw [ev_rev1, ev_v1]
  simp only [List.getElem?_cons_succ, List.getElem?_cons_zero, Option.bind_some, bnd_s]
  rw [rev_r at_mid]
  simp
end K14
set_option Elab.async false
set_option linter.all false
set_option autoImplicit false
set_option maxRecDepth 100000
set_option maxHeartbeats 1000000
namespace K14
open PySem PySem.Spec L2 Mp
open PyProof.Rows hiding St

/-! 31: the steps -/
abbrev Stp := Nat × Nat × Bool
def stD (s : Stp) : D := .tup [.int s.1, .int s.2.1, .bl s.2.2]
def stepsF (h t : Nat) : List Nat → List Nat → List Stp
  | [], [] => []
  | [], _ :: b => (h, t, false) :: stepsF h (t + 1) [] b
  | _ :: a, [] => (h, t, true) :: stepsF (h + 1) t a []
  | x :: a, y :: b => if x = y then stepsF (h + 1) (t + 1) a b else if dist a (y :: b) ≤ dist (x :: a) b then (h, t, true) :: stepsF (h + 1) t a (y :: b) else (h, t, false) :: stepsF h (t + 1) (x :: a) b
termination_by a b => a.length + b.length
theorem stepsF_len : ∀ (n h t : Nat) (a b : List Nat), a.length + b.length ≤ n → (stepsF h t a b).length = dist a b := by
  intro n
  induction n with
  | zero =>
    intro h t a b hn
    cases a <;> cases b <;> simp at hn
    rw [stepsF, dist_nil]; rfl
  | succ n ih =>
    intro h t a b hn
    cases a with
    | nil => cases b with
      | nil => rw [stepsF, dist_nil]; rfl
      | cons y b => rw [stepsF, List.length_cons, ih _ _ _ _ (by simp at hn ⊢; omega), dist_nil, dist_nil]; rfl
    | cons x a => cases b with
      | nil => rw [stepsF, List.length_cons, ih _ _ _ _ (by simp at hn ⊢; omega), dist_nil2, dist_nil2]; rfl
      | cons y b =>
        simp only [List.length_cons] at hn
        rw [stepsF, dist_cons]
        by_cases e : x = y
        · rw [if_pos e, if_pos e.symm, ih _ _ _ _ (by omega)]
        · rw [if_neg e, if_neg (show ¬ (y = x) from fun q => e q.symm)]
          split
          · rw [List.length_cons, ih _ _ _ _ (by simp; omega)]; omega
          · rw [List.length_cons, ih _ _ _ _ (by simp; omega)]; omega
theorem rows_at {a b : List Nat} : ∀ {h : Nat}, h ≤ a.length → (rows b a)[h]? = some (rowV (a.drop h) b) := by
  induction a with
  | nil => intro h hh; simp at hh; subst hh; rfl
  | cons x a ih =>
    intro h hh
    cases h with
    | zero => rfl
    | succ h => simp only [rows, List.getElem?_cons_succ, List.drop_succ_cons]; exact ih (by simpa using hh)
abbrev goesE : E := (E.or (E.cmp Cop.eq (E.v 5) (E.blt Blt.len (E.cons (E.v 1) E.nil))) (E.and (E.cmp Cop.lt (E.v 4) (E.blt Blt.len (E.cons (E.v 0) E.nil))) (E.cmp Cop.le (E.idx (E.idx (E.v 2) (E.bin Bop.add (E.v 4) (E.k (D.int 1)))) (E.v 5)) (E.idx (E.idx (E.v 2) (E.v 4)) (E.bin Bop.add (E.v 5) (E.k (D.int 1)))))))
abbrev bGo : S := (S.seq (S.set 6 goesE) (S.seq (S.drop (E.mth Mth.append (E.v 3) (E.cons (E.tup (E.cons (E.v 4) (E.cons (E.v 5) (E.cons (E.v 6) E.nil)))) E.nil))) (S.seq (S.tgt (Tg.tp (Tg.cons (Tg.nm 4) (Tg.cons (Tg.nm 5) Tg.nil))) (E.ite (E.v 6) (E.tup (E.cons (E.bin Bop.add (E.v 4) (E.k (D.int 1))) (E.cons (E.v 5) E.nil))) (E.tup (E.cons (E.v 4) (E.cons (E.bin Bop.add (E.v 5) (E.k (D.int 1))) E.nil))))) S.skip)))
abbrev sameE : E := (E.and (E.cmp Cop.lt (E.v 4) (E.blt Blt.len (E.cons (E.v 0) E.nil))) (E.and (E.cmp Cop.lt (E.v 5) (E.blt Blt.len (E.cons (E.v 1) E.nil))) (E.cmp Cop.eq (E.idx (E.v 0) (E.v 4)) (E.idx (E.v 1) (E.v 5)))))
abbrev bStep : S := (S.seq (S.ife sameE (S.seq (S.par2 4 5 (E.cons (E.bin Bop.add (E.v 4) (E.k (D.int 1))) (E.cons (E.bin Bop.add (E.v 5) (E.k (D.int 1))) E.nil))) S.skip) bGo) S.skip)
abbrev goE : E := (E.or (E.cmp Cop.lt (E.v 4) (E.blt Blt.len (E.cons (E.v 0) E.nil))) (E.cmp Cop.lt (E.v 5) (E.blt Blt.len (E.cons (E.v 1) E.nil))))
abbrev stE (a b : List Nat) (n h t : Nat) (o : Option D) : Env' := [some (.str a), some (.str b), some (.lst (rows b a)), some (.ref n), some (.int h), some (.int t), o]
variable {cl : Nat → List D → Hs → Rs} {a b : List Nat} {n h t : Nat} {o : Option D} {G : Hs}
theorem go_ev (ha : a.length ≤ 4000) (hb : b.length ≤ 4000) : (ev cl goE).2 (stE a b n h t o) G = some (decide (h < a.length ∨ t < b.length), G) := by
  have f1 : a.length ≤ 16777216 := by omega
  have f2 : b.length ≤ 16777216 := by omega
  by_cases h1 : h < a.length
  · simp [sz, f1, f2, h1]
  · simp [sz, f1, f2, h1]
theorem same_ev (ha : a.length ≤ 4000) (hb : b.length ≤ 4000) (hh : h ≤ a.length) (ht : t ≤ b.length) : (ev cl sameE).2 (stE a b n h t o) G = some (decide (∃ x, a[h]? = some x ∧ b[t]? = some x), G) := by
  have f1 : a.length ≤ 16777216 := by omega
  have f2 : b.length ≤ 16777216 := by omega
  by_cases h1 : h < a.length
  · by_cases h2 : t < b.length
    · have q1 := atS h1
      have q2 := atS h2
      have e : decide (∃ x, a[h]? = some x ∧ b[t]? = some x) = (a[h] == b[t]) := by
        rw [List.getElem?_eq_getElem h1, List.getElem?_eq_getElem h2]
        rw [Bool.eq_iff_iff]
        simp
        exact ⟨Eq.symm, Eq.symm⟩
      rw [e]
      simp [sz, f1, f2, h1, h2, q1, q2]
    · have e : b[t]? = none := List.getElem?_eq_none (by omega)
      simp [sz, f1, f2, h1, h2, e]
  · have e : a[h]? = none := List.getElem?_eq_none (by omega)
    simp [sz, f1, f2, h1, e]
theorem goes_ev (ha : a.length ≤ 4000) (hb : b.length ≤ 4000) (hh : h ≤ a.length) (ht : t ≤ b.length) : (ev cl goesE).1 (stE a b n h t o) G = some (.bl (decide (t = b.length ∨ (h < a.length ∧ dist (a.drop (h + 1)) (b.drop t) ≤ dist (a.drop h) (b.drop (t + 1))))), G) := by
  have f1 : a.length ≤ 16777216 := by omega
  have f2 : b.length ≤ 16777216 := by omega
  by_cases h1 : t = b.length
  · subst h1
    simp [sz, f1, f2]
  · have h1' : ¬ (t : Int) = b.length := by omega
    by_cases h2 : h < a.length
    · have r1 : atI (rows b a) ((h : Int) + 1) = some (rowV (a.drop (h + 1)) b) := atI_nat (j := h + 1) (rows_at (by omega))
      have r2 : atI (rows b a) (h : Int) = some (rowV (a.drop h) b) := atI_nat (j := h) (rows_at (by omega))
      have r3 : atI ((rowOf (a.drop (h + 1)) b).map fun n : Nat => D.int (n : Int)) (t : Int) = some (.int (dist (a.drop (h + 1)) (b.drop t) : Nat)) := rowOf_at (by omega)
      have r4 : atI ((rowOf (a.drop h) b).map fun n : Nat => D.int (n : Int)) ((t : Int) + 1) = some (.int (dist (a.drop h) (b.drop (t + 1)) : Nat)) := rowOf_at (j := t + 1) (by omega)
      generalize dist (a.drop (h + 1)) (b.drop t) = d1 at *
      generalize dist (a.drop h) (b.drop (t + 1)) = d2 at *
      simp [sz, f1, f2, h1, h1', h2, r1, r2, r3, r4, rowV]
    · have h2' : ¬ (h : Int) < a.length := by omega
      simp [sz, f1, f2, h1, h1', h2, h2']
theorem bGo_ev {ds : List D} {g : Bool} (hg : (ev cl goesE).1 (stE a b G.length h t o) (G ++ [.lst ds]) = some (.bl g, G ++ [.lst ds])) (hl : ds.length < 16777216) : evS cl bGo (stE a b G.length h t o) (G ++ [.lst ds]) =
    some (.nx (stE a b G.length (if g then h + 1 else h) (if g then t else t + 1) (some (.bl g))) (G ++ [.lst (ds ++ [stD (h, t, g)])])) := by
  rw [set_s hg]
  simp only [stE, List.set_cons_succ, List.set_cons_zero]
  rw [drop_s (d := .non) (G1 := G ++ [.lst (ds ++ [stD (h, t, g)])])]
  · cases g with
    | true => rw [tgt_s (d := .tup [.int ((h : Int) + 1), .int t]) (G1 := G ++ [.lst (ds ++ [stD (h, t, true)])]) (by simp [sz]) (by simp; rfl)]; rfl
    | false => rw [tgt_s (d := .tup [.int (h : Int), .int ((t : Int) + 1)]) (G1 := G ++ [.lst (ds ++ [stD (h, t, false)])]) (by simp [sz]) (by simp; rfl)]; rfl
  · rw [ev_mth1, ev_v1]
    simp only [List.getElem?_cons_succ, List.getElem?_cons_zero, Option.bind_some, bnd_s]
    rw [show Mth.append.ty = .list from rfl, ref_ty at_new, if_pos rfl]
    simp only [ev_tup1, ev_cons1, ev_v1, ev_nil1, List.getElem?_cons_succ, List.getElem?_cons_zero, Option.bind_some, bnd_s, consK_s, argK_s, tupK_s]
    rw [if_pos (by rw [sz]; simp), bnd_s, bnd_s, argK_s]
    exact app_new hl
theorem stepsF_go (hh : h ≤ a.length) (ht : t ≤ b.length) :
    (¬ (h < a.length ∨ t < b.length) → stepsF h t (a.drop h) (b.drop t) = []) ∧
    ((∃ x, a[h]? = some x ∧ b[t]? = some x) → h < a.length ∧ t < b.length ∧ stepsF h t (a.drop h) (b.drop t) = stepsF (h + 1) (t + 1) (a.drop (h + 1)) (b.drop (t + 1))) ∧
    ((h < a.length ∨ t < b.length) → ¬ (∃ x, a[h]? = some x ∧ b[t]? = some x) → (t = b.length ∨ (h < a.length ∧ dist (a.drop (h + 1)) (b.drop t) ≤ dist (a.drop h) (b.drop (t + 1)))) → h < a.length ∧ stepsF h t (a.drop h) (b.drop t) = (h, t, true) :: stepsF (h + 1) t (a.drop (h + 1)) (b.drop t)) ∧
    ((h < a.length ∨ t < b.length) → ¬ (∃ x, a[h]? = some x ∧ b[t]? = some x) → ¬ (t = b.length ∨ (h < a.length ∧ dist (a.drop (h + 1)) (b.drop t) ≤ dist (a.drop h) (b.drop (t + 1)))) → t < b.length ∧ stepsF h t (a.drop h) (b.drop t) = (h, t, false) :: stepsF h (t + 1) (a.drop h) (b.drop (t + 1))) := by
  by_cases h1 : h < a.length
  · have ea : a.drop h = a[h] :: a.drop (h + 1) := List.drop_eq_getElem_cons h1
    by_cases h2 : t < b.length
    · have eb : b.drop t = b[t] :: b.drop (t + 1) := List.drop_eq_getElem_cons h2
      have hx : (∃ x, a[h]? = some x ∧ b[t]? = some x) ↔ a[h] = b[t] := by
        rw [List.getElem?_eq_getElem h1, List.getElem?_eq_getElem h2]
        simp
        exact ⟨Eq.symm, Eq.symm⟩
      rw [hx]
      have h3 : ¬ t = b.length := by omega
      refine ⟨fun h => by omega, fun e => ⟨h1, h2, ?_⟩, fun _ e q => ⟨h1, ?_⟩, fun _ e q => ⟨h2, ?_⟩⟩
      · rw [ea, eb, stepsF, if_pos e]
      · have q := (q.resolve_left h3).2
        rw [eb, ea] at q ⊢
        rw [stepsF, if_neg e, if_pos q]
      · have q : ¬ dist (a.drop (h + 1)) (b.drop t) ≤ dist (a.drop h) (b.drop (t + 1)) := fun x => q (.inr ⟨h1, x⟩)
        rw [eb, ea] at q ⊢
        rw [stepsF, if_neg e, if_neg q]
    · have eb : b.drop t = [] := List.drop_of_length_le (by omega)
      have hx : ¬ (∃ x, a[h]? = some x ∧ b[t]? = some x) := by
        rintro ⟨x, _, q⟩
        rw [List.getElem?_eq_none (by omega)] at q; cases q
      refine ⟨fun h => by omega, fun e => absurd e hx, fun _ _ _ => ⟨h1, ?_⟩, fun _ _ q => absurd (.inl (by omega)) q⟩
      rw [eb, ea, stepsF]
  · have ea : a.drop h = [] := List.drop_of_length_le (by omega)
    have hx : ¬ (∃ x, a[h]? = some x ∧ b[t]? = some x) := by
      rintro ⟨x, q, _⟩
      rw [List.getElem?_eq_none (by omega)] at q; cases q
    by_cases h2 : t < b.length
    · have eb : b.drop t = b[t] :: b.drop (t + 1) := List.drop_eq_getElem_cons h2
      refine ⟨fun h => by omega, fun e => absurd e hx, fun _ _ q => by omega, fun _ _ q => ⟨h2, ?_⟩⟩
      rw [eb, ea, stepsF]
    · have eb : b.drop t = [] := List.drop_of_length_le (by omega)
      refine ⟨fun _ => ?_, fun e => absurd e hx, fun q => by omega, fun q => by omega⟩
      rw [ea, eb, stepsF]
theorem seq_ife_tt {cl : Nat → List D → Hs → Rs} {ς : Env'} {G G1 : Hs} {c : E} {x y r : S} (h : (ev cl c).2 ς G = some (true, G1)) : evS cl (.seq (.ife c x y) r) ς G = evS cl (.seq x r) ς G1 := by
  rw [evS_seq, evS_ife, h]; rfl
theorem seq_ife_ff {cl : Nat → List D → Hs → Rs} {ς : Env'} {G G1 : Hs} {c : E} {x y r : S} (h : (ev cl c).2 ς G = some (false, G1)) : evS cl (.seq (.ife c x y) r) ς G = evS cl (.seq y r) ς G1 := by
  rw [evS_seq, evS_ife, h]; rfl
theorem bStep_ev {ds : List D} (ha : a.length ≤ 4000) (hb : b.length ≤ 4000) (hh : h ≤ a.length) (ht : t ≤ b.length) (hgo : h < a.length ∨ t < b.length) (hl : ds.length < 16777216) :
    ∃ h' t' o' ds', h' ≤ a.length ∧ t' ≤ b.length ∧ (a.length - h') + (b.length - t') < (a.length - h) + (b.length - t) ∧ ds'.length ≤ ds.length + 1 ∧
      evS cl bStep (stE a b G.length h t o) (G ++ [.lst ds]) = some (.nx (stE a b G.length h' t' o') (G ++ [.lst ds'])) ∧ ds' ++ (stepsF h' t' (a.drop h') (b.drop t')).map stD = ds ++ (stepsF h t (a.drop h) (b.drop t)).map stD := by
  obtain ⟨s1, s2, s3, s4⟩ := stepsF_go hh ht
  by_cases e : ∃ x, a[h]? = some x ∧ b[t]? = some x
  · obtain ⟨h1, h2, q⟩ := s2 e
    refine ⟨h + 1, t + 1, o, ds, by omega, by omega, by omega, by omega, ?_, by rw [q]⟩
    rw [seq_ife_tt (by rw [same_ev ha hb hh ht, decide_eq_true e])]
    simp
  · by_cases g : t = b.length ∨ (h < a.length ∧ dist (a.drop (h + 1)) (b.drop t) ≤ dist (a.drop h) (b.drop (t + 1)))
    · obtain ⟨h1, q⟩ := s3 hgo e g
      refine ⟨h + 1, t, some (.bl true), ds ++ [stD (h, t, true)], by omega, by omega, by omega, by simp, ?_, by rw [q]; simp⟩
      rw [seq_ife_ff (by rw [same_ev ha hb hh ht, decide_eq_false e]), evS_seq, bGo_ev (g := true) (by rw [goes_ev ha hb hh ht, decide_eq_true g]) hl]
      rfl
    · obtain ⟨h1, q⟩ := s4 hgo e g
      refine ⟨h, t + 1, some (.bl false), ds ++ [stD (h, t, false)], by omega, by omega, by omega, by simp, ?_, by rw [q]; simp⟩
      rw [seq_ife_ff (by rw [same_ev ha hb hh ht, decide_eq_false e]), evS_seq, bGo_ev (g := false) (by rw [goes_ev ha hb hh ht, decide_eq_false g]) hl]
      rfl
theorem while_steps (ha : a.length ≤ 4000) (hb : b.length ≤ 4000) :
    ∃ ς' , loopW (ev cl goE).2 (evS cl bStep) 100000 (stE a b G.length 0 0 none) (G ++ [.lst []]) = some (.nx ς' (G ++ [.lst ((stepsF 0 0 a b).map stD)])) ∧ ∃ h t o, ς' = stE a b G.length h t o := by
  obtain ⟨ς', G', e, h', t', o', e1, e2⟩ := loopW_run (c := (ev cl goE).2) (f := evS cl bStep)
    (fun m ς G' => ∃ h t o ds, h ≤ a.length ∧ t ≤ b.length ∧ m = (a.length - h) + (b.length - t) ∧ ds.length + m ≤ 8000 ∧ ς = stE a b G.length h t o ∧ G' = G ++ [.lst ds] ∧ ds ++ (stepsF h t (a.drop h) (b.drop t)).map stD = (stepsF 0 0 a b).map stD)
    (fun ς G' => ∃ h t o, ς = stE a b G.length h t o ∧ G' = G ++ [.lst ((stepsF 0 0 a b).map stD)])
    (fun m ς G' ⟨h, t, o, ds, hh, ht, hm, hl, e1, e2, e3⟩ => by
      subst e1 e2
      refine ⟨decide (h < a.length ∨ t < b.length), _, go_ev ha hb, fun q => ⟨h, t, o, rfl, ?_⟩, fun q => ?_⟩
      · have := (stepsF_go hh ht).1 (of_decide_eq_false q)
        rw [this] at e3
        rw [← e3]; simp
      · obtain ⟨h', t', o', ds', p1, p2, p3, p4, p5, p6⟩ := bStep_ev (cl := cl) (o := o) (G := G) (ds := ds) ha hb hh ht (of_decide_eq_true q) (by omega)
        exact ⟨_, _, _, by omega, p5, h', t', o', ds', p1, p2, rfl, by omega, rfl, rfl, by rw [p6, e3]⟩)
    100000 (a.length + b.length) (stE a b G.length 0 0 none) (G ++ [.lst []]) ⟨0, 0, none, [], by omega, by omega, rfl, by simp; omega, rfl, rfl, by simp⟩ (by omega)
  exact ⟨ς', by rw [e, e2], h', t', o', e1⟩
theorem steps_of_run {m : Nat} (hm : 2 ≤ m) {G : Hs} {a b : List Nat} (ha : a.length ≤ 4000) (hb : b.length ≤ 4000) : ∃ l, F m 31 [.str a, .str b] G = some (.lst ((stepsF 0 0 a b).map stD), G ++ l) := by
  obtain ⟨l, e⟩ := cost_rows_run (m := m - 1) (by omega) (G := G) ha hb
  refine ⟨l ++ [.gone], run_ t31 rfl (by omega) ?_⟩
  rw [← List.append_assoc]
  generalize G ++ l = G2 at *
  obtain ⟨ς', e2, h, t, o, rfl⟩ := while_steps (cl := F (m - 1)) (G := G2) ha hb
  show (evS (F (m - 1)) b31 [some (.str a), some (.str b), none, none, none, none, none] G).bind outD = _
  unfold b31
  rw [seq_nx (ς' := [some (.str a), some (.str b), some (.lst (rows b a)), some (.ref G2.length), none, none, none]) (G1 := G2 ++ [.lst []])]
  · rw [tgt_s (d := .tup [.int 0, .int 0]) (G1 := G2 ++ [.lst []]) (by simp [sz]) (by simp; rfl)]
    rw [seq_nx (ς' := stE a b G2.length h t o) (G1 := G2 ++ [.lst ((stepsF 0 0 a b).map stD)]) ((evS_whl).trans e2)]
    refine seq_ret ?_
    rw [ev_frz1]
    simp only [List.getElem?_cons_succ, List.getElem?_cons_zero, Option.bind_some]
    rw [frz_r at_new, set_new]
  · simp only [evS_par2, ev_cons1, ev_call1, ev_v1, ev_nil1, ev_lst1, List.getElem?_cons_succ, List.getElem?_cons_zero, Option.bind_some, bnd_s, consK_s, argK_s]
    rw [if_pos (by rfl), e]
    simp [sz]
end K14
set_option Elab.async false
set_option linter.all false
set_option autoImplicit false
set_option maxRecDepth 100000
set_option maxHeartbeats 1000000
namespace K14
open PySem PySem.Spec L2 Mp
open PyProof.Rows hiding St

/-! 32 -/
@[simp] theorem evS_setIx {cl : Nat → List D → Hs → Rs} {ς : Env'} {G : Hs} {o i e : E} : evS cl (.setIx o i e) ς G = bnd ((ev cl e).1 ς G) fun d G1 => bnd ((ev cl o).1 ς G1) fun x G2 => bnd ((ev cl i).1 ς G2) fun y G3 => (setK x y d G3).bind fun G4 => some (.nx ς G4) := by rfl
theorem setK_last {G : Hs} {n : Nat} {ds : List D} {x d : D} (h : G[n]? = some (.lst (ds ++ [x]))) : setK (.ref n) (.int (-1)) d G = some (G.set n (.lst (ds ++ [d]))) := by
  have e : ixN (ds ++ [x]).length (-1) = some ds.length := by
    unfold ixN
    simp
    omega
  simp only [setK, h, e, Option.bind_some]
  simp
abbrev bEb : S := (S.seq (S.tgt (Tg.tp (Tg.cons (Tg.nm 7) (Tg.cons (Tg.nm 8) (Tg.cons (Tg.nm 9) Tg.nil)))) (E.ite (E.cmp Cop.gt (E.blt Blt.len (E.cons (E.v 3) E.nil)) (E.k (D.int 0))) (E.idx (E.v 3) (E.neg (E.k (D.int 1)))) (E.tup (E.cons (E.k (D.int 0)) (E.cons (E.neg (E.k (D.int 1))) (E.cons (E.k (D.str [])) E.nil)))))) (S.seq (S.set 10 (E.ite (E.v 6) (E.k (D.str [])) (E.idx (E.v 1) (E.v 5)))) (S.seq (S.ife (E.and (E.cmp Cop.ge (E.v 8) (E.k (D.int 0))) (E.cmp Cop.eq (E.bin Bop.add (E.v 7) (E.v 8)) (E.bin Bop.add (E.v 4) (E.v 2)))) (S.seq (S.setIx (E.v 3) (E.neg (E.k (D.int 1))) (E.tup (E.cons (E.v 7) (E.cons (E.bin Bop.add (E.v 8) (E.ite (E.v 6) (E.k (D.int 1)) (E.k (D.int 0)))) (E.cons (E.bin Bop.add (E.v 9) (E.v 10)) E.nil))))) S.skip) (S.seq (S.drop (E.mth Mth.append (E.v 3) (E.cons (E.tup (E.cons (E.bin Bop.add (E.v 4) (E.v 2)) (E.cons (E.ite (E.v 6) (E.k (D.int 1)) (E.k (D.int 0))) (E.cons (E.v 10) E.nil)))) E.nil))) S.skip)) S.skip)))
theorem costOf_app (a b : List Ed) : costOf (a ++ b) = costOf a + costOf b := by simp [costOf]
theorem costOf_one (p g : Nat) (c : List Nat) : costOf [(p, g, c)] = g + c.length := by simp [costOf]
theorem bEb_ev {cl : Nat → List D → Hs → Rs} {v0 : D} {b : List Nat} {more : Nat} {G : Hs} {es : List Ed} {h t : Nat} {g : Bool} {o7 o8 o9 o10 : Option D} (hb : b.length ≤ 4000) (ht : g = false → t < b.length) (hc : costOf es ≤ 9000) (hl : es.length ≤ 9000) :
    ∃ es' u7 u8 u9 u10, costOf es' = costOf es + 1 ∧ es'.length ≤ es.length + 1 ∧
    evS cl bEb [some v0, some (.str b), some (.int more), some (.ref G.length), some (.int h), some (.int t), some (.bl g), o7, o8, o9, o10] (G ++ [.lst (es.map eD)]) =
      some (.nx [some v0, some (.str b), some (.int more), some (.ref G.length), some (.int h), some (.int t), some (.bl g), u7, u8, u9, u10] (G ++ [.lst (es'.map eD)])) := by
  have f1 : b.length ≤ 16777216 := by omega
  have hlen : (es.map eD).length < 16777216 := by simp; omega
  obtain ⟨sg, hsl, hsg⟩ : ∃ sg : List Nat, sg.length = (if g then 0 else 1) ∧ ∀ (x7 x8 x9 : Option D) (G' : Hs), (ev cl (E.ite (E.v 6) (E.k (D.str [])) (E.idx (E.v 1) (E.v 5)))).1 [some v0, some (.str b), some (.int more), some (.ref G.length), some (.int h), some (.int t), some (.bl g), x7, x8, x9, o10] G' = some (.str sg, G') := by
    cases g with
    | true => exact ⟨[], rfl, fun x7 x8 x9 G' => by simp⟩
    | false => exact ⟨[b[t]'(ht rfl)], rfl, fun x7 x8 x9 G' => by simp [sz, f1, atS (ht rfl)]⟩
  have gb : ∀ (x7 x8 x9 x10 : Option D) (G' : Hs), (ev cl (E.ite (E.v 6) (E.k (D.int 1)) (E.k (D.int 0)))).1 [some v0, some (.str b), some (.int more), some (.ref G.length), some (.int h), some (.int t), some (.bl g), x7, x8, x9, x10] G' = some (.int (if g then 1 else 0), G') := by
    intro x7 x8 x9 x10 G'; cases g <;> simp
  have hap : ∀ (x7 x8 x9 : Option D), evS cl (S.seq (S.drop (E.mth Mth.append (E.v 3) (E.cons (E.tup (E.cons (E.bin Bop.add (E.v 4) (E.v 2)) (E.cons (E.ite (E.v 6) (E.k (D.int 1)) (E.k (D.int 0))) (E.cons (E.v 10) E.nil)))) E.nil))) S.skip)
      [some v0, some (.str b), some (.int more), some (.ref G.length), some (.int h), some (.int t), some (.bl g), x7, x8, x9, some (.str sg)] (G ++ [.lst (es.map eD)]) =
      some (.nx [some v0, some (.str b), some (.int more), some (.ref G.length), some (.int h), some (.int t), some (.bl g), x7, x8, x9, some (.str sg)] (G ++ [.lst ((es ++ [(h + more, if g then 1 else 0, sg)]).map eD)])) := by
    intro x7 x8 x9
    rw [drop_s (d := .non) (G1 := G ++ [.lst ((es ++ [(h + more, if g then 1 else 0, sg)]).map eD)])]
    · rfl
    · rw [ev_mth1, ev_v1]
      simp only [List.getElem?_cons_succ, List.getElem?_cons_zero, Option.bind_some, bnd_s]
      rw [show Mth.append.ty = .list from rfl, ref_ty at_new, if_pos rfl]
      simp only [ev_cons1, ev_tup1, gb, ev_bin1, ev_v1, ev_nil1, List.getElem?_cons_succ, List.getElem?_cons_zero, Option.bind_some, bnd_s, consK_s, argK_s, bin_addi, tupK_s]
      rw [if_pos (by rw [sz]; simp), bnd_s, bnd_s, argK_s, List.map_append]
      have : eD (h + more, if g then 1 else 0, sg) = .tup [.int ((h : Int) + more), .int (if g then 1 else 0), .str sg] := by
        cases g <;> rfl
      rw [List.map_cons, this]
      exact app_new hlen
  rcases List.eq_nil_or_concat es with rfl | ⟨pre, ⟨p, q, c⟩, rfl⟩
  · refine ⟨[] ++ [(h + more, if g then 1 else 0, sg)], some (.int 0), some (.int (-1)), some (.str []), some (.str sg), ?_, by simp, ?_⟩
    · rw [List.nil_append, costOf_one, hsl]; cases g <;> rfl
    · have e1 : (ev cl (E.ite (E.cmp Cop.gt (E.blt Blt.len (E.cons (E.v 3) E.nil)) (E.k (D.int 0))) (E.idx (E.v 3) (E.neg (E.k (D.int 1)))) (E.tup (E.cons (E.k (D.int 0)) (E.cons (E.neg (E.k (D.int 1))) (E.cons (E.k (D.str [])) E.nil)))))).1
          [some v0, some (.str b), some (.int more), some (.ref G.length), some (.int h), some (.int t), some (.bl g), o7, o8, o9, o10] (G ++ [.lst (([] : List Ed).map eD)]) = some (.tup [.int 0, .int (-1), .str []], G ++ [.lst (([] : List Ed).map eD)]) := by
        simp only [List.map_nil]
        simp [len_r at_new, negD, sz]
      rw [tgt_s e1 (ς' := [some v0, some (.str b), some (.int more), some (.ref G.length), some (.int h), some (.int t), some (.bl g), some (.int 0), some (.int (-1)), some (.str []), o10]) (by simp)]
      rw [set_s (hsg _ _ _ _)]
      simp only [List.set_cons_succ, List.set_cons_zero]
      rw [seq_ife_ff (G1 := G ++ [.lst (([] : List Ed).map eD)]) (by simp), evS_seq, hap]
      rfl
  · rw [List.concat_eq_append] at *
    have e1 : (ev cl (E.ite (E.cmp Cop.gt (E.blt Blt.len (E.cons (E.v 3) E.nil)) (E.k (D.int 0))) (E.idx (E.v 3) (E.neg (E.k (D.int 1)))) (E.tup (E.cons (E.k (D.int 0)) (E.cons (E.neg (E.k (D.int 1))) (E.cons (E.k (D.str [])) E.nil)))))).1
          [some v0, some (.str b), some (.int more), some (.ref G.length), some (.int h), some (.int t), some (.bl g), o7, o8, o9, o10] (G ++ [.lst ((pre ++ [(p, q, c)]).map eD)]) = some (eD (p, q, c), G ++ [.lst ((pre ++ [(p, q, c)]).map eD)]) := by
      have a1 : atI ((pre ++ [(p, q, c)]).map eD) (-1) = some (eD (p, q, c)) := by rw [List.map_append]; exact L2.atI_last _ _
      have a2 : (0 : Int) < ((pre ++ [(p, q, c)]).map eD).length := by simp
      generalize (pre ++ [(p, q, c)]).map eD = ds at *
      rw [ev_ite1, ev_cmp2]
      simp only [ev_blt1, ev_cons1, ev_v1, ev_nil1, ev_k1, ev_idx1, ev_neg1, List.getElem?_cons_succ, List.getElem?_cons_zero, Option.bind_some, bnd_s, consK_s, argK_s, blt_len, one_s, len_r at_new, cmpD_s, cmp_gtI, Option.map_some, blB_b]
      rw [decide_eq_true a2, if_pos rfl]
      simp only [negD, bnd_s, idx_r at_new, a1, Option.map_some]
    have hq : costOf (pre ++ [(p, q, c)]) = costOf pre + (q + c.length) := by rw [costOf_app, costOf_one]
    by_cases hp : p + q = h + more
    · refine ⟨pre ++ [(p, q + (if g then 1 else 0), c ++ sg)], some (.int p), some (.int q), some (.str c), some (.str sg), ?_, by simp, ?_⟩
      · rw [costOf_app, costOf_one, hq, List.length_append, hsl]; cases g <;> simp <;> omega
      · rw [tgt_s e1 (ς' := [some v0, some (.str b), some (.int more), some (.ref G.length), some (.int h), some (.int t), some (.bl g), some (.int p), some (.int q), some (.str c), o10]) (by simp [eD, dE])]
        rw [set_s (hsg _ _ _ _)]
        simp only [List.set_cons_succ, List.set_cons_zero]
        have hp' : (p : Int) + q = (h : Int) + more := by omega
        rw [seq_ife_tt (G1 := G ++ [.lst ((pre ++ [(p, q, c)]).map eD)]) (by simp [hp'])]
        have hcs : c.length + sg.length ≤ 16777216 := by rw [hsl]; split <;> omega
        have y : (ev cl (E.tup (E.cons (E.v 7) (E.cons (E.bin Bop.add (E.v 8) (E.ite (E.v 6) (E.k (D.int 1)) (E.k (D.int 0)))) (E.cons (E.bin Bop.add (E.v 9) (E.v 10)) E.nil))))).1 [some v0, some (.str b), some (.int more), some (.ref G.length), some (.int h), some (.int t), some (.bl g), some (.int p), some (.int q), some (.str c), some (.str sg)] (G ++ [.lst ((pre ++ [(p, q, c)]).map eD)]) =
            some (eD (p, q + (if g then 1 else 0), c ++ sg), G ++ [.lst ((pre ++ [(p, q, c)]).map eD)]) := by
          simp only [ev_tup1, ev_cons1, ev_bin1, gb, ev_v1, ev_nil1, List.getElem?_cons_succ, List.getElem?_cons_zero, Option.bind_some, bnd_s, consK_s, argK_s, bin_addi, bin_adds, tupK_s, sz, hcs, if_true]
          rw [if_pos (by simp)]
          cases g <;> rfl
        rw [evS_seq, evS_seq, evS_setIx, y, bnd_s, ev_v1]
        simp only [List.getElem?_cons_succ, List.getElem?_cons_zero, Option.bind_some, bnd_s, ev_neg1, ev_k1, negD]
        rw [setK_last (ds := pre.map eD) (x := eD (p, q, c)) (by rw [at_new]; simp), Option.bind_some, set_new]
        simp
    · refine ⟨(pre ++ [(p, q, c)]) ++ [(h + more, if g then 1 else 0, sg)], some (.int p), some (.int q), some (.str c), some (.str sg), ?_, by simp, ?_⟩
      · rw [costOf_app, costOf_one, hsl]; cases g <;> simp
      · rw [tgt_s e1 (ς' := [some v0, some (.str b), some (.int more), some (.ref G.length), some (.int h), some (.int t), some (.bl g), some (.int p), some (.int q), some (.str c), o10]) (by simp [eD, dE])]
        rw [set_s (hsg _ _ _ _)]
        simp only [List.set_cons_succ, List.set_cons_zero]
        have hp' : ¬ (p : Int) + q = (h : Int) + more := by omega
        rw [seq_ife_ff (G1 := G ++ [.lst ((pre ++ [(p, q, c)]).map eD)]) (by simp [hp']), evS_seq, hap]
        rfl
theorem for_eb {cl : Nat → List D → Hs → Rs} {v0 : D} {b : List Nat} {more : Nat} {G : Hs} (hb : b.length ≤ 4000) : ∀ (st : List Stp) (es : List Ed) (o4 o5 o6 o7 o8 o9 o10 : Option D), (∀ s ∈ st, s.2.2 = false → s.2.1 < b.length) → costOf es + st.length ≤ 9000 → es.length + st.length ≤ 9000 →
    ∃ es' ς', costOf es' = costOf es + st.length ∧ es'.length ≤ es.length + st.length ∧ ς'[3]? = some (some (D.ref G.length)) ∧ 
    loopF (Tg.tp (Tg.cons (Tg.nm 4) (Tg.cons (Tg.nm 5) (Tg.cons (Tg.nm 6) Tg.nil)))) (evS cl bEb) (st.map stD) [some v0, some (.str b), some (.int more), some (.ref G.length), o4, o5, o6, o7, o8, o9, o10] (G ++ [.lst (es.map eD)]) = some (.nx ς' (G ++ [.lst (es'.map eD)]))
  | [], es, o4, o5, o6, o7, o8, o9, o10, _, _, _ => ⟨es, _, rfl, Nat.le_refl _, rfl, rfl⟩
  | (h, t, g) :: st, es, o4, o5, o6, o7, o8, o9, o10, h1, h2, h3 => by
    simp only [List.length_cons] at h2 h3
    obtain ⟨es1, u7, u8, u9, u10, c1, c2, e⟩ := bEb_ev (cl := cl) (v0 := v0) (more := more) (G := G) (es := es) (h := h) (t := t) (g := g) (o7 := o7) (o8 := o8) (o9 := o9) (o10 := o10) hb (h1 (h, t, g) (by simp)) (by omega) (by omega)
    obtain ⟨es', ς', d1, d2, d3, ih⟩ := for_eb (cl := cl) (v0 := v0) (more := more) (G := G) hb st es1 (some (.int h)) (some (.int t)) (some (.bl g)) u7 u8 u9 u10 (fun s hs => h1 s (by simp [hs])) (by omega) (by omega)
    refine ⟨es', ς', by simp; omega, by simp; omega, d3, ?_⟩
    simp only [List.map_cons, loopF]
    have bb : bindL (Tg.tp (Tg.cons (Tg.nm 4) (Tg.cons (Tg.nm 5) (Tg.cons (Tg.nm 6) Tg.nil)))) [stD (h, t, g)] [some v0, some (.str b), some (.int more), some (.ref G.length), o4, o5, o6, o7, o8, o9, o10] = some [some v0, some (.str b), some (.int more), some (.ref G.length), some (.int h), some (.int t), some (.bl g), o7, o8, o9, o10] := by
      simp [stD]
    rw [bb, Option.bind_some, e, Option.bind_some]
    exact ih
theorem edits_by_run {m : Nat} (hm : 1 ≤ m) {G : Hs} {st : List Stp} {b : List Nat} {more : Nat} (hb : b.length ≤ 4000) (h1 : ∀ s ∈ st, s.2.2 = false → s.2.1 < b.length) (h2 : st.length ≤ 9000) :
    ∃ es l, costOf es = st.length ∧ es.length ≤ st.length ∧ F m 32 [.lst (st.map stD), .str b, .int more] G = some (esD es, G ++ l) := by
  obtain ⟨es', ς', d1, d2, d3, hr⟩ := for_eb (cl := F (m - 1)) (v0 := .lst (st.map stD)) (more := more) (G := G) hb st [] none none none none none none none h1 (by simp [costOf]; omega) (by simp; omega)
  refine ⟨es', [.lst (es'.map eD)], by rw [d1]; simp [costOf], by simpa using d2, run_ t32 rfl (by omega) ?_⟩
  show (evS (F (m - 1)) b32 [some (.lst (st.map stD)), some (.str b), some (.int more), none, none, none, none, none, none, none, none] G).bind outD = _
  unfold b32
  rw [set_s (d := .ref G.length) (G1 := G ++ [.lst []]) (by simp [sz])]
  simp only [List.set_cons_succ, List.set_cons_zero]
  rw [for_nx (ds := st.map stD) (G1 := G ++ [.lst []]) (by simp) hr]
  refine seq_ret ?_
  simp only [ev_blt1, ev_cons1, ev_nil1, ev_v1, d3, Option.bind_some, bnd_s, consK_s, argK_s, blt_tuple, one_s, tup_r at_new]
  rfl
theorem stepsF_in : ∀ (n h t : Nat) (a b : List Nat), a.length + b.length ≤ n → ∀ s ∈ stepsF h t a b, s.2.2 = false → s.2.1 < t + b.length := by
  intro n
  induction n with
  | zero =>
    intro h t a b hn
    cases a <;> cases b <;> simp at hn
    rw [stepsF]; simp
  | succ n ih =>
    intro h t a b hn
    cases a with
    | nil => cases b with
      | nil => rw [stepsF]; simp
      | cons y b =>
        rw [stepsF]
        intro s hs q
        rcases List.mem_cons.mp hs with rfl | hs
        · simp
        · have := ih _ _ _ _ (by simp at hn ⊢; omega) s hs q
          simp; omega
    | cons x a => cases b with
      | nil =>
        rw [stepsF]
        intro s hs q
        rcases List.mem_cons.mp hs with rfl | hs
        · cases q
        · have := ih _ _ _ _ (by simp at hn ⊢; omega) s hs q
          simpa using this
      | cons y b =>
        simp only [List.length_cons] at hn
        rw [stepsF]
        intro s hs q
        split at hs
        · have := ih _ _ _ _ (by omega) s hs q
          simp; omega
        · split at hs
          · rcases List.mem_cons.mp hs with rfl | hs
            · cases q
            · have := ih _ _ _ _ (by simp; omega) s hs q
              simpa using this
          · rcases List.mem_cons.mp hs with rfl | hs
            · simp
            · have := ih _ _ _ _ (by simp; omega) s hs q
              simp; omega
/-! 33 to 35 -/
theorem mul_s {i j : Int} {G : Hs} : binD .mul (.int i) (.int j) G = if (-(2 ^ 64) < i ∧ i < 2 ^ 64) ∨ (-(2 ^ 64) < j ∧ j < 2 ^ 64) then some (.int (i * j), G) else none := rfl
theorem le_sum : ∀ {xs : List Nat} {x : Nat}, x ∈ xs → x ≤ xs.sum
  | y :: ys, x, h => by
    rcases List.mem_cons.mp h with rfl | h
    · simp
    · have := le_sum h; simp; omega
theorem dist_le : ∀ (n : Nat) (a b : List Nat), a.length + b.length ≤ n → dist a b ≤ a.length + b.length := by
  intro n
  induction n with
  | zero =>
    intro a b hn
    cases a <;> cases b <;> simp at hn
    rw [dist_nil]; simp
  | succ n ih =>
    intro a b hn
    cases a with
    | nil => rw [dist_nil]; simp
    | cons x a => cases b with
      | nil => rw [dist_nil2]; simp
      | cons y b =>
        simp only [List.length_cons] at hn ⊢
        rw [dist_cons]
        split
        · have := ih a b (by omega); omega
        · have := ih a (y :: b) (by simp; omega)
          simp only [List.length_cons] at this; omega

theorem middle_of_run {m : Nat} (hm : 3 ≤ m) {G : Hs} {a b : List Nat} (ha : a.length ≤ 200) (hb : b.length ≤ 200) :
    ∃ k l : Nat, k + l ≤ a.length ∧ k + l ≤ b.length ∧ a.take k = b.take k ∧ a.drop (a.length - l) = b.drop (b.length - l) ∧
      F m 33 [.str a, .str b] G = some (.tup [.str ((a.drop k).take (a.length - k - l)), .str ((b.drop k).take (b.length - l - k)), .int k], G) := by
  obtain ⟨k, l, h1, h2, h3, h4, e⟩ := between_run (m := m - 1) (by omega) (G := G) (a := a) (b := b) (by omega) (by omega)
  refine ⟨k, l, h1, h2, h3, h4, run_ t33 rfl (by omega) ?_⟩
  have f1 : a.length ≤ 16777216 := by omega
  have hc : ((b.drop k).take (b.length - l - k)).length ≤ 16777216 := by simp; omega
  have hc2 : ((b.drop k).take (b.length - l - k)).length ≤ 200 := by simp; omega
  have hg : a.length - k - l ≤ 200 := by omega
  generalize (b.drop k).take (b.length - l - k) = come at *
  generalize a.length - k - l = gone at *
  have hm1 : (gone + 1) * (come.length + 1) ≤ 201 * 201 := Nat.mul_le_mul (by omega) (by omega)
  have hm2 : ¬ (60000 : Int) < ((gone : Int) + 1) * ((come.length : Int) + 1) := by
    have : (((gone + 1) * (come.length + 1) : Nat) : Int) = ((gone : Int) + 1) * ((come.length : Int) + 1) := by simp
    omega
  have hbm : ∀ G' : Hs, binD .mul (.int ((gone : Int) + 1)) (.int ((come.length : Int) + 1)) G' = some (.int (((gone : Int) + 1) * ((come.length : Int) + 1)), G') := by
    intro G'
    rw [mul_s, if_pos (by omega)]
  unfold dE at e
  simp [b33, e, sz, f1, hc, hbm, hm2, cut_pg]
theorem least_cost_run {m : Nat} (hm : 5 ≤ m) {G : Hs} {a b : List Nat} (ha : a.length ≤ 90) (hb : b.length ≤ 90) :
    ∃ k l : Nat, ∃ G', k + l ≤ a.length ∧ k + l ≤ b.length ∧ a.take k = b.take k ∧ a.drop (a.length - l) = b.drop (b.length - l) ∧
      F m 35 [.str a, .str b] G = some (.int (dist ((a.drop k).take (a.length - k - l)) ((b.drop k).take (b.length - l - k)) : Nat), G ++ G') := by
  obtain ⟨k, l, h1, h2, h3, h4, e⟩ := middle_of_run (m := m - 1 - 1) (by omega) (G := G) (a := a) (b := b) (by omega) (by omega)
  suffices hs : ∃ G', F m 35 [.str a, .str b] G = some (.int (dist ((a.drop k).take (a.length - k - l)) ((b.drop k).take (b.length - l - k)) : Nat), G ++ G') from let ⟨G', h⟩ := hs; ⟨k, l, G', h1, h2, h3, h4, h⟩
  have l1 : ((a.drop k).take (a.length - k - l)).length ≤ 90 := by simp; omega
  have l2 : ((b.drop k).take (b.length - l - k)).length ≤ 90 := by simp; omega
  generalize (a.drop k).take (a.length - k - l) = a' at *
  generalize (b.drop k).take (b.length - l - k) = b' at *
  obtain ⟨g1, e1⟩ := steps_of_run (m := m - 1 - 1) (by omega) (G := G) (a := a') (b := b') (by omega) (by omega)
  have hd : (stepsF 0 0 a' b').length = dist a' b' := stepsF_len _ 0 0 a' b' (Nat.le_refl _)
  have hdl : dist a' b' ≤ 180 := by have := dist_le _ a' b' (Nat.le_refl _); omega
  obtain ⟨es, g2, c1, c2, e2⟩ := edits_by_run (m := m - 1 - 1) (by omega) (G := G ++ g1) (st := stepsF 0 0 a' b') (b := b') (more := k) (by omega) (fun s hs q => by simpa using stepsF_in _ 0 0 a' b' (Nat.le_refl _) s hs q) (by omega)
  have hce : ∀ x ∈ es, x.2.2.length ≤ 10000 := by
    intro x hx
    have : x.2.1 + x.2.2.length ≤ costOf es := by
      unfold costOf
      exact le_sum (List.mem_map.mpr ⟨x, hx, rfl⟩)
    omega
  have e3 := cost_of_run (m := m - 1) (by omega) (G := (G ++ g1) ++ g2) (es := es) hce (by omega)
  have e4 : F (m - 1) 34 [.str a, .str b] G = some (esD es, (G ++ g1) ++ g2) := by
    refine run_ t34 rfl (by omega) ?_
    have few : ¬ (200 : Int) < es.length := by omega
    simp only [esD] at e2 ⊢
    simp [b34, e, e1, e2, few]
  refine ⟨g1 ++ g2, run_ t35 rfl (by omega) ?_⟩
  rw [← List.append_assoc, ← hd, ← c1]
  simp only [esD] at e4 e3
  simp only [List.append_assoc] at e4 e3 ⊢
  simp [b35, e4, e3]
end K14
set_option Elab.async false
set_option linter.all false
set_option autoImplicit false
set_option maxRecDepth 100000
set_option maxHeartbeats 1000000
namespace K14
open PySem PySem.Spec L2 Mp
open PyProof.Rows hiding St

theorem mod_s {i j : Int} {G : Hs} : binD .mod (.int i) (.int j) G = if 0 < j then some (.int (i % j), G) else none := rfl
theorem fdiv_s {i j : Int} {G : Hs} : binD .fdiv (.int i) (.int j) G = if 0 < j ∧ j < 1073741824 then some (.int (i / j), G) else none := rfl
theorem pow_18 {G : Hs} : binD .pow (.int 10) (.int 18) G = some (.int (10 ^ 18), G) := rfl
def iD (xs : List Int) : Cell := .lst (xs.map .int)
theorem app_i {xs : List Int} {x : Int} {G : Hs} {n : Nat} (h : G[n]? = some (iD xs)) (hl : xs.length ≤ 100000) : appendM (.ref n) [.int x] G = some (.non, G.set n (iD (xs ++ [x]))) := by
  rw [app_s h (by simp; omega)]; simp [iD]
abbrev b60 : S := (S.seq (S.ife (E.cmp Cop.gt (E.v 3) (E.k (D.int 0))) (S.seq (S.drop (E.mth Mth.append (E.v 1) (E.cons (E.bin Bop.mod (E.blt Blt.int (E.cons (E.v 3) E.nil)) (E.k (D.int 997))) E.nil))) (S.seq (S.set 3 (E.bin Bop.fdiv (E.v 3) (E.k (D.int 997)))) S.skip)) S.skip) S.skip)
variable {cl : Nat → List D → Hs → Rs}
theorem for_60 {v0 : D} : ∀ (ds : List D) (xs : List Int) (z : Int) (o2 o4 o5 o6 : Option D), xs.length + ds.length ≤ 100000 →
    ∃ xs' z' o5', xs'.length ≤ xs.length + ds.length ∧ loopF (.nm 5) (evS cl b60) ds [some v0, some (.ref 0), o2, some (.int z), o4, o5, o6] [iD xs] = some (.nx [some v0, some (.ref 0), o2, some (.int z'), o4, o5', o6] [iD xs'])
  | [], xs, z, o2, o4, o5, o6, _ => ⟨xs, z, o5, Nat.le_refl _, rfl⟩
  | d :: ds, xs, z, o2, o4, o5, o6, h => by
    simp only [List.length_cons] at h
    simp only [loopF, bindL_nm, Option.bind_some, List.set_cons_succ, List.set_cons_zero]
    by_cases hz : 0 < z
    · obtain ⟨xs', z', o5', h1, ih⟩ := for_60 (v0 := v0) ds (xs ++ [z % 997]) (z / 997) o2 o4 (some d) o6 (by simp; omega)
      refine ⟨xs', z', o5', by simp at h1 ⊢; omega, ?_⟩
      have ha := app_i (x := z % 997) (G := [iD xs]) (n := 0) (xs := xs) rfl (by omega)
      have ht : hasTy .list (.ref 0) [iD xs] = true := ref_ty (ds := xs.map .int) rfl
      rw [seq_ife_tt (G1 := [iD xs]) (by simp [hz])]
      rw [evS_seq, drop_s (d := .non) (G1 := [iD (xs ++ [z % 997])]) ?_, set_s (d := .int (z / 997)) (G1 := [iD (xs ++ [z % 997])]) (by simp [fdiv_s])]
      · simp only [List.set_cons_succ, List.set_cons_zero, evS_skip, Option.bind_some]
        exact ih
      · simp [mod_s, show Mth.append.ty = .list from rfl, ht]
        exact ha
    · obtain ⟨xs', z', o5', h1, ih⟩ := for_60 (v0 := v0) ds xs z o2 o4 (some d) o6 (by omega)
      refine ⟨xs', z', o5', by simp at h1 ⊢; omega, ?_⟩
      rw [seq_ife_ff (G1 := [iD xs]) (by simp [hz])]
      simpa using ih
abbrev bNum : S := (S.seq (S.set 3 (E.blt Blt.abs (E.cons (E.v 2) E.nil))) (S.seq (S.ife (E.cmp Cop.lt (E.v 3) (E.bin Bop.pow (E.k (D.int 10)) (E.k (D.int 18)))) (S.seq (S.set 4 (E.bin Bop.mod (E.blt Blt.int (E.cons (E.bin Bop.add (E.bin Bop.mul (E.v 3) (E.k (D.int 48271))) (E.k (D.int 11))) E.nil)) (E.k (D.int 2147483647)))) (S.seq (S.drop (E.mth Mth.append (E.v 1) (E.cons (E.bin Bop.mod (E.blt Blt.int (E.cons (E.bin Bop.add (E.bin Bop.mul (E.v 4) (E.k (D.int 69621))) (E.v 3)) E.nil)) (E.k (D.int 2147483629))) E.nil))) (S.seq (S.drop (E.mth Mth.append (E.v 1) (E.cons (E.bin Bop.mod (E.blt Blt.int (E.cons (E.bin Bop.add (E.v 4) (E.bin Bop.fdiv (E.v 3) (E.k (D.int 7)))) E.nil)) (E.k (D.int 1000003))) E.nil))) (S.seq (S.set 3 (E.k (D.int 0))) S.skip)))) S.skip) (S.seq (S.for_ (Tg.nm 5) (E.irng 1 (E.cons (E.k (D.int 60)) E.nil)) b60) S.skip)))
theorem for_num {v0 : D} : ∀ (ns : List Int) (xs : List Int) (o2 o3 o4 o5 o6 : Option D), xs.length + 70 * ns.length ≤ 50000 →
    ∃ xs' o2' o3' o4' o5', xs'.length ≤ xs.length + 70 * ns.length ∧ loopF (.nm 2) (evS cl bNum) (ns.map .int) [some v0, some (.ref 0), o2, o3, o4, o5, o6] [iD xs] = some (.nx [some v0, some (.ref 0), o2', o3', o4', o5', o6] [iD xs'])
  | [], xs, o2, o3, o4, o5, o6, _ => ⟨xs, o2, o3, o4, o5, Nat.le_refl _, rfl⟩
  | z :: ns, xs, o2, o3, o4, o5, o6, h => by
    simp only [List.length_cons] at h
    simp only [List.map_cons, loopF, bindL_nm, Option.bind_some, List.set_cons_succ, List.set_cons_zero]
    have hr : ∀ G : Hs, arity 1 rngK [.int 60] G = some (.tup (rgN 0 1 60), G) := fun G => rng1_s (q := (0, 1, 60)) (by rw [rgA_1, if_pos (by omega)]; rfl)
    have hrl : (rgN 0 1 60).length = 60 := by simp [rgN]
    have ht : ∀ xs, hasTy .list (.ref 0) [iD xs] = true := fun xs => ref_ty (ds := xs.map .int) rfl
    generalize hy : (if z < 0 then -z else z) = y
    have hs : ∀ o4 o5, (ev cl (E.blt Blt.abs (E.cons (E.v 2) E.nil))).1 [some v0, some (.ref 0), some (.int z), o3, o4, o5, o6] [iD xs] = some (.int y, [iD xs]) := by
      intro o4 o5; simp [hy]
    by_cases hz : y < 10 ^ 18
    · let f : Int := (y * 48271 + 11) % 2147483647
      let x1 : Int := (f * 69621 + y) % 2147483629
      let x2 : Int := (f + y / 7) % 1000003
      obtain ⟨xs1, z1, o5', h1, e60⟩ := for_60 (cl := cl) (v0 := v0) (rgN 0 1 60) (xs ++ [x1] ++ [x2]) 0 (some (.int z)) (some (.int f)) o5 o6 (by simp [hrl]; omega)
      obtain ⟨xs', o2', o3', o4', o5'', h2, ih⟩ := for_num (v0 := v0) ns xs1 (some (.int z)) (some (.int z1)) (some (.int f)) o5' o6 (by simp [hrl] at h1; omega)
      refine ⟨xs', o2', o3', o4', o5'', by simp [hrl] at h1 ⊢; omega, ?_⟩
      have ha1 := app_i (x := x1) (G := [iD xs]) (n := 0) (xs := xs) rfl (by omega)
      have ha2 := app_i (x := x2) (G := [iD (xs ++ [x1])]) (n := 0) (xs := xs ++ [x1]) rfl (by simp; omega)
      rw [set_s (hs _ _)]
      simp only [List.set_cons_succ, List.set_cons_zero]
      have hz' : y < 1000000000000000000 := hz
      rw [seq_ife_tt (G1 := [iD xs]) (by simp [pow_18, hz'])]
      rw [evS_seq, set_s (d := .int f) (G1 := [iD xs]) (by simp [mul_s, mod_s, f])]
      simp only [List.set_cons_succ, List.set_cons_zero]
      rw [drop_s (d := .non) (G1 := [iD (xs ++ [x1])]) ?_, drop_s (d := .non) (G1 := [iD (xs ++ [x1] ++ [x2])]) ?_, set_s (d := .int 0) (G1 := [iD (xs ++ [x1] ++ [x2])]) (by simp)]
      · simp only [List.set_cons_succ, List.set_cons_zero, evS_skip, Option.bind_some]
        rw [for_nx (ds := rgN 0 1 60) (G1 := [iD (xs ++ [x1] ++ [x2])]) (by simp [hr]) e60]
        rw [evS_skip, Option.bind_some]
        exact ih
      · simp [mod_s, fdiv_s, show Mth.append.ty = .list from rfl, ht]
        exact ha2.trans (by simp)
      · simp [mul_s, mod_s, show Mth.append.ty = .list from rfl, ht]
        exact ha1
    · obtain ⟨xs1, z1, o5', h1, e60⟩ := for_60 (cl := cl) (v0 := v0) (rgN 0 1 60) xs y (some (.int z)) o4 o5 o6 (by simp [hrl]; omega)
      obtain ⟨xs', o2', o3', o4', o5'', h2, ih⟩ := for_num (v0 := v0) ns xs1 (some (.int z)) (some (.int z1)) o4 o5' o6 (by simp [hrl] at h1; omega)
      refine ⟨xs', o2', o3', o4', o5'', by simp [hrl] at h1 ⊢; omega, ?_⟩
      rw [set_s (hs _ _)]
      simp only [List.set_cons_succ, List.set_cons_zero]
      have hz' : ¬ y < 1000000000000000000 := hz
      rw [seq_ife_ff (G1 := [iD xs]) (by simp [pow_18, hz'])]
      rw [evS_seq, evS_skip, Option.bind_some]
      show (evS cl _ _ _).bind _ = _
      rw [for_nx (ds := rgN 0 1 60) (G1 := [iD xs]) (by simp [hr]) e60]
      rw [evS_skip, Option.bind_some]
      exact ih
abbrev b900 : S := (S.seq (S.set 6 (E.bin Bop.mod (E.blt Blt.int (E.cons (E.bin Bop.add (E.bin Bop.mul (E.v 6) (E.k (D.int 48271))) (E.k (D.int 69621))) E.nil)) (E.k (D.int 2147483647)))) (S.seq (S.drop (E.mth Mth.append (E.v 1) (E.cons (E.bin Bop.fdiv (E.v 6) (E.k (D.int 5))) E.nil))) S.skip))
theorem for_900 {v0 : D} : ∀ (ds : List D) (xs : List Int) (z : Int) (o2 o3 o4 o5 : Option D), xs.length + ds.length ≤ 100000 →
    ∃ xs' ς', xs'.length ≤ xs.length + ds.length ∧ ς'[1]? = some (some (D.ref 0)) ∧ loopF (.nm 5) (evS cl b900) ds [some v0, some (.ref 0), o2, o3, o4, o5, some (.int z)] [iD xs] = some (.nx ς' [iD xs'])
  | [], xs, z, o2, o3, o4, o5, _ => ⟨xs, _, Nat.le_refl _, rfl, rfl⟩
  | d :: ds, xs, z, o2, o3, o4, o5, h => by
    simp only [List.length_cons] at h
    simp only [loopF, bindL_nm, Option.bind_some, List.set_cons_succ, List.set_cons_zero]
    let y : Int := (z * 48271 + 69621) % 2147483647
    obtain ⟨xs', ς', h1, h2, ih⟩ := for_900 (v0 := v0) ds (xs ++ [y / 5]) y o2 o3 o4 (some d) (by simp; omega)
    refine ⟨xs', ς', by simp at h1 ⊢; omega, h2, ?_⟩
    have ha := app_i (x := y / 5) (G := [iD xs]) (n := 0) (xs := xs) rfl (by omega)
    have ht : hasTy .list (.ref 0) [iD xs] = true := ref_ty (ds := xs.map .int) rfl
    rw [set_s (d := .int y) (G1 := [iD xs]) (by simp [mul_s, mod_s, y])]
    simp only [List.set_cons_succ, List.set_cons_zero]
    rw [drop_s (d := .non) (G1 := [iD (xs ++ [y / 5])]) ?_]
    · rw [evS_skip, Option.bind_some]
      exact ih
    · simp [fdiv_s, show Mth.append.ty = .list from rfl, ht]
      exact ha
theorem draws_run {m : Nat} (hm : 1 ≤ m) {mk : List D → D} (hmk : mk = .lst ∨ mk = .fz) {ns : List Int} (hn : ns.length ≤ 63) : ∃ xs G', F m 36 [mk (ns.map .int)] [] = some (.ref 1, [G', iD xs]) := by
  obtain ⟨xs1, o2, o3, o4, o5, h1, e1⟩ := for_num (cl := F (m - 1)) (v0 := mk (ns.map .int)) ns [] none none none none none (by simp; omega)
  have hr : ∀ G : Hs, arity 1 rngK [.int 900] G = some (.tup (rgN 0 1 900), G) := fun G => rng1_s (q := (0, 1, 900)) (by rw [rgA_1, if_pos (by omega)]; rfl)
  have hrl : (rgN 0 1 900).length = 900 := by simp [rgN]
  have hsq : ∀ G : Hs, seqK (mk (ns.map .int)) G = some (.tup (ns.map .int), G) := by rcases hmk with rfl | rfl <;> intro G <;> rfl
  have hle : ∀ G : Hs, lenD (mk (ns.map .int)) G = some (.int ns.length, G) := by
    intro G
    rcases hmk with rfl | rfl <;> simp [lenD, seqOf, Mp.roOf, Mp.listOf]
  have hix : ∀ (G : Hs) (k : Int), idxD (mk (ns.map .int)) (.int k) G = (atI (ns.map D.int) k).map fun d => (d, G) := by
    rcases hmk with rfl | rfl <;> intro G k <;> rfl
  generalize mk (ns.map .int) = v0 at *
  have hz : ∃ z : Int, evS (F (m - 1)) (S.ife (E.cmp Cop.gt (E.blt Blt.len (E.cons (E.v 0) E.nil)) (E.k (D.int 0))) (S.seq (S.set 6 (E.bin Bop.add (E.k (D.int 1)) (E.blt Blt.abs (E.cons (E.idx (E.v 0) (E.k (D.int 0))) E.nil)))) S.skip) S.skip)
      [some v0, some (.ref 0), o2, o3, o4, o5, some (.int 1)] [iD xs1] = some (.nx [some v0, some (.ref 0), o2, o3, o4, o5, some (.int z)] [iD xs1]) := by
    cases ns with
    | nil => exact ⟨1, by simp [hle]⟩
    | cons n ns =>
      have q : atI ((n :: ns).map D.int) 0 = some (.int n) := atI_nat (j := 0) rfl
      have q2 : (0 : Int) < ns.length + 1 := by omega
      simp only [List.map_cons] at q hix hle
      exact ⟨_, by simp [hle, hix, q, q2]; rfl⟩
  obtain ⟨z, ez⟩ := hz
  obtain ⟨xs2, ς', h2, h3, e2⟩ := for_900 (cl := F (m - 1)) (v0 := v0) (rgN 0 1 900) xs1 z o2 o3 o4 o5 (by simp [hrl] at h1 ⊢; omega)
  refine ⟨xs2.reverse, iD xs2, run_ t36 rfl (by omega) ?_⟩
  show (evS (F (m - 1)) b36 [some v0, none, none, none, none, none, none] []).bind outD = _
  unfold b36
  rw [set_s (d := .ref 0) (G1 := [iD []]) (by simp [sz]; rfl)]
  simp only [List.set_cons_succ, List.set_cons_zero]
  rw [for_nx (ds := ns.map .int) (G1 := [iD []]) (by simp [hsq]) e1, set_s (d := .int 1) (G1 := [iD xs1]) (by simp)]
  simp only [List.set_cons_succ, List.set_cons_zero]
  rw [seq_nx ez, for_nx (ds := rgN 0 1 900) (G1 := [iD xs1]) (by simp [hr]) e2]
  refine seq_ret ?_
  rw [ev_lrev1, ev_v1, h3]
  simp [lrevK, Mp.roOf, Mp.listOf, iD]
end K14
set_option Elab.async false
set_option linter.all false
set_option autoImplicit false
set_option maxRecDepth 100000
set_option maxHeartbeats 1000000
namespace K14
open PySem PySem.Spec L2 Mp
open PyProof.Rows hiding St

/-! the cell of draws -/
def Dr (dn : Nat) (G : Hs) : Prop := ∃ xs, G[dn]? = some (iD xs)
def Mv (dn : Nat) (G G' : Hs) : Prop := ∃ xs l, G' = G.set dn (iD xs) ++ l
variable {dn : Nat} {G G1 G2 G' : Hs}
theorem Dr.lt (h : Dr dn G) : dn < G.length := by
  obtain ⟨xs, e⟩ := h
  exact (List.getElem?_eq_some_iff.mp e).1
theorem Dr.refl (h : Dr dn G) : Mv dn G G := by
  obtain ⟨xs, e⟩ := h
  refine ⟨xs, [], ?_⟩
  obtain ⟨hl, e⟩ := List.getElem?_eq_some_iff.mp e
  rw [← e]; simp
theorem Mv.dr (h : Dr dn G) (h2 : Mv dn G G') : Dr dn G' := by
  obtain ⟨xs, l, rfl⟩ := h2
  have := h.lt
  refine ⟨xs, ?_⟩
  rw [List.getElem?_append_left (by simpa using this), List.getElem?_set_self this]
theorem Mv.tr (h : Dr dn G) (h1 : Mv dn G G1) (h2 : Mv dn G1 G2) : Mv dn G G2 := by
  obtain ⟨xs, l, rfl⟩ := h1
  obtain ⟨ys, r, rfl⟩ := h2
  have := h.lt
  refine ⟨ys, l ++ r, ?_⟩
  rw [List.set_append_left _ _ (by simpa using this), List.set_set, List.append_assoc]
theorem Mv.app (h : Mv dn G G1) {l : Hs} : Mv dn G (G1 ++ l) := by
  obtain ⟨xs, r, rfl⟩ := h
  exact ⟨xs, r ++ l, by rw [List.append_assoc]⟩
theorem Dr.app (h : Dr dn G) {l : Hs} : Dr dn (G ++ l) := by
  obtain ⟨xs, e⟩ := h
  exact ⟨xs, by rw [List.getElem?_append_left (List.getElem?_eq_some_iff.mp e).1, e]⟩
theorem Mv.at (h : Mv dn G G1) {n : Nat} {c : Cell} (hn : n ≠ dn) (e : G[n]? = some c) : G1[n]? = some c := by
  obtain ⟨xs, r, rfl⟩ := h
  have hl := (List.getElem?_eq_some_iff.mp e).1
  rw [List.getElem?_append_left (by simpa using hl), List.getElem?_set_ne (Ne.symm hn), e]
theorem Mv.len (h : Mv dn G G1) : G.length ≤ G1.length := by
  obtain ⟨xs, r, rfl⟩ := h
  simp
/-- a later cell of ours was written -/
theorem Mv.set (h : Mv dn G G1) (hd : Dr dn G) {c d : Cell} {k : Nat} (hk : G.length ≤ k) : Mv dn G (G1.set k d) := by
  obtain ⟨xs, r, rfl⟩ := h
  refine ⟨xs, r.set (k - G.length) d, ?_⟩
  rw [List.set_append_right _ _ (by simpa using hk)]; simp
theorem take_run {m : Nat} (hm : 1 ≤ m) (hd : Dr dn G) {b : Nat} (hb : 0 < b) : ∃ r G', r < b ∧ Mv dn G G' ∧ F m 37 [.ref dn, .int b] G = some (.int (r : Nat), G') := by
  obtain ⟨xs, e⟩ := hd
  have hlen := len_r e
  rcases List.eq_nil_or_concat xs with rfl | ⟨pre, z, rfl⟩
  · refine ⟨0, G, hb, Dr.refl ⟨_, e⟩, run_ t37 rfl (by omega) ?_⟩
    show (evS (F (m - 1)) b37 [some (.ref dn), some (.int b)] G).bind outD = _
    unfold b37
    simp at hlen
    simp [hlen]
  · rw [List.concat_eq_append] at e hlen
    have hz : 0 ≤ z % (b : Int) := Int.emod_nonneg _ (by omega)
    have hz2 : z % (b : Int) < b := Int.emod_lt_of_pos _ (by omega)
    refine ⟨(z % (b : Int)).toNat, G.set dn (iD pre), by omega, ⟨pre, [], by simp⟩, run_ t37 rfl (by omega) ?_⟩
    show (evS (F (m - 1)) b37 [some (.ref dn), some (.int b)] G).bind outD = _
    unfold b37
    have hl : ¬ ((((pre ++ [z]).map D.int).length : Nat) : Int) = 0 := by simp; omega
    have hb' : (0 : Int) < b := by omega
    have hpop : popM (.ref dn) [] G = some (.int z, G.set dn (iD pre)) := by
      simp only [popM, e, iD]
      simp
    have hty : hasTy .list (.ref dn) G = true := ref_ty e
    rw [seq_ife_f (G1 := G) (by
      simp only [ev_cmp2, ev_blt1, ev_cons1, ev_v1, ev_nil1, ev_k1, List.getElem?_cons_zero, Option.bind_some, bnd_s, consK_s, argK_s, blt_len, one_s, hlen, cmpD_s, cmp_eqI, Option.map_some, blB_b]
      simp only [beq_eq_false_iff_ne.mpr hl])]
    refine seq_ret ?_
    simp only [ev_bin1, ev_blt1, ev_cons1, ev_mth01, ev_v1, ev_nil1, List.getElem?_cons_zero, List.getElem?_cons_succ, Option.bind_some, bnd_s, show Mth.pop.ty = .list from rfl, hty, if_true, show Mth.pop.k = popM from rfl, hpop, consK_s, argK_s, blt_int, one_s, int_s, mod_s]
    rw [if_pos hb', Int.toNat_of_nonneg hz]
theorem take0_run {m : Nat} (hm : 1 ≤ m) (hd : Dr dn G) {b : Nat} (hb : 0 < b) : ∃ r G', r < b ∧ Mv dn G G' ∧ Dr dn G' ∧ F m 37 [.ref dn, .int b] G = some (.int (r : Nat), G') := by
  obtain ⟨r, G', h1, h2, h3⟩ := take_run hm hd hb
  exact ⟨r, G', h1, h2, h2.dr hd, h3⟩
/-! 39 -/
end K14
set_option Elab.async false
set_option linter.all false
set_option autoImplicit false
set_option maxRecDepth 100000
set_option maxHeartbeats 1000000
namespace K14
open PySem PySem.Spec L2 Mp
open PyProof.Rows hiding St

variable {dn : Nat} {G G1 G2 G' : Hs}
/-! 38 -/
theorem alike_int {m : Nat} (hm : 1 ≤ m) {i : Int} : F m 38 [.int i, .int i] G = some (.bl true, G) := by
  refine run_ t38 rfl (by omega) ?_
  show (evS (F (m - 1)) b38 [some (.int i), some (.int i), none] G).bind outD = _
  unfold b38
  rw [seq_ife_f (G1 := G) (by simp), seq_ife_f (G1 := G) (by simp; rfl), seq_ife_f (G1 := G) (by simp)]
  rw [seq_ife_t (G1 := G) (d := some (.bl true, G)) (by simp) (by simp)]
  rfl
theorem eqC_nil : eqC (.lst []) (.lst []) G = some true := by rfl
theorem alike_tup {m : Nat} (hm : 1 ≤ m) {ds : List D} (hl : ds.length ≤ 10000) (h : ∀ d ∈ ds, F (m - 1) 38 [d, d] G = some (.bl true, G)) : F m 38 [.tup ds, .tup ds] G = some (.bl true, G) := by
  refine run_ t38 rfl (by omega) ?_
  show (evS (F (m - 1)) b38 [some (.tup ds), some (.tup ds), none] G).bind outD = _
  unfold b38
  have hr : arity 1 rngK [.int (ds.length : Int)] G = some (.tup (rgN 0 1 ds.length), G) := rng1_s (q := (0, 1, ds.length)) (by rw [rgA_1, if_pos (by omega)]; simp)
  have hc : loopC (ev (F (m - 1)) (E.not (E.call 38 2 (E.cons (E.idx (E.v 0) (E.v 2)) (E.cons (E.idx (E.v 1) (E.v 2)) E.nil))))).2 (ev (F (m - 1)) (E.v 2)).1 (Tg.nm 2) [some (.tup ds), some (.tup ds), none] (rgN 0 1 ds.length) [] G = some ([], G) := by
    have := loopC_filter (c := (ev (F (m - 1)) (E.not (E.call 38 2 (E.cons (E.idx (E.v 0) (E.v 2)) (E.cons (E.idx (E.v 1) (E.v 2)) E.nil))))).2) (e := (ev (F (m - 1)) (E.v 2)).1) (t := Tg.nm 2) (ς := [some (.tup ds), some (.tup ds), none]) (G := G) (fun _ => false) id (ds := rgN 0 1 ds.length) (acc := []) (by
      intro d hd
      unfold rgN at hd
      obtain ⟨i, hi, rfl⟩ := List.mem_map.mp hd
      have hi := List.mem_range.mp hi
      have ha : atI ds (0 + (i : Nat) * 1 : Int) = some ds[i] := by
        rw [show (0 + (i : Nat) * 1 : Int) = (i : Int) by omega]
        exact atI_nat (List.getElem?_eq_getElem hi)
      have hc := h ds[i] (by simp)
      refine ⟨_, bindL_nm, ?_, fun q => by cases q⟩
      simp only [List.set_cons_succ, List.set_cons_zero, ev_not2, ev_call2, ev_cons1, ev_idx1, ev_v1, ev_nil1, List.getElem?_cons_zero, List.getElem?_cons_succ, Option.bind_some, bnd_s, idx_tup, ha, Option.map_some, consK_s, argK_s, List.length_cons, List.length_nil, if_true, hc, truD_b]
      rfl) (by rw [sz]; simp [rgN]; omega)
    rw [this]; simp
  rw [evS_seq, evS_ife]
  have c1 : (ev (F (m - 1)) (E.or (E.isi Ty.list (E.v 1)) (E.isi Ty.tuple (E.v 1)))).2 [some (.tup ds), some (.tup ds), none] G = some (true, G) := by simp
  rw [c1, bnd_s, if_pos rfl, seq_ife_f (G1 := G) (by simp; rfl)]
  have c2 : (ev (F (m - 1)) (E.and (E.cmp Cop.eq (E.blt Blt.len (E.cons (E.v 0) E.nil)) (E.blt Blt.len (E.cons (E.v 1) E.nil))) (E.cmp Cop.eq (E.comp false (Tg.nm 2) [2] (E.irng 1 (E.cons (E.blt Blt.len (E.cons (E.v 1) E.nil)) E.nil)) (E.not (E.call 38 2 (E.cons (E.idx (E.v 0) (E.v 2)) (E.cons (E.idx (E.v 1) (E.v 2)) E.nil)))) (E.v 2)) (E.lst false E.nil)))).1 [some (.tup ds), some (.tup ds), none] G = some (.bl true, G) := by
    rw [ev_and1]
    have k1 : (ev (F (m - 1)) (E.cmp Cop.eq (E.blt Blt.len (E.cons (E.v 0) E.nil)) (E.blt Blt.len (E.cons (E.v 1) E.nil)))).1 [some (.tup ds), some (.tup ds), none] G = some (.bl true, G) := by simp
    rw [k1, blB_b, bnd_s, if_pos rfl]
    simp only [ev_cmp1, ev_comp1, ev_irng1, ev_cons1, ev_blt1, ev_v1, ev_nil1, ev_lst1, List.getElem?_cons_zero, List.getElem?_cons_succ, Option.bind_some, bnd_s, consK_s, argK_s, blt_len, one_s, len_tup, hr, wipeE, List.set_cons_succ, List.set_cons_zero, hc, newD_f, lstK_s, List.length_nil, Nat.zero_le, if_true, cmpD_s]
    rfl
  rw [evS_seq, evS_ret, c2]
  rfl
theorem alike_pairs {m : Nat} (hm : 3 ≤ m) {ps : List (Nat × Nat)} (hl : ps.length ≤ 10000) : F m 38 [psD ps, psD ps] G = some (.bl true, G) := by
  refine alike_tup (by omega) (by simpa using hl) fun d hd => ?_
  obtain ⟨p, hp, rfl⟩ := List.mem_map.mp hd
  refine alike_tup (by omega) (by simp) fun d hd => ?_
  simp at hd
  rcases hd with rfl | rfl <;> exact alike_int (by omega)
/-! 42: names -/
def nsD (xs : List Nat) : D := .lst (xs.map fun x => .int (x : Nat))
theorem cutN_map {α β : Type} (f : α → β) (xs : List α) (lo hi : Option Int) : cutN (xs.map f) lo hi = (cutN xs lo hi).map f := by
  unfold cutN; simp
theorem addN {a b : List Nat} (h : a.length + b.length ≤ 16777216) : binD .add (nsD a) (nsD b) G = some (nsD (a ++ b), G) := by
  simp only [nsD, bin_addl, List.length_map]
  rw [if_pos (by rw [sz]; exact h), List.map_append]
end K14
set_option Elab.async false
set_option linter.all false
set_option autoImplicit false
set_option maxRecDepth 100000
set_option maxHeartbeats 1000000
/-! steps of the mini program, more of them -/
namespace Mp
open PySem PySem.Spec L2
open PyProof.Rows hiding St
section
variable {cl : Nat → List D → Hs → Rs} {ς : Env'} {G : Hs}
@[simp] theorem ev_dic0 : (ev cl .dic0).1 ς G = some (dicOf [], G) := by rfl
@[simp] theorem ev_row1 {a : E} : (ev cl (.row a)).1 ς G = bnd ((ev cl a).1 ς G) rowD := by rfl
@[simp] theorem ev_drow1 {a : E} : (ev cl (.drow a)).1 ς G = bnd ((ev cl a).1 ς G) dictRowD := by rfl
@[simp] theorem ev_repM1 {a b : E} : (ev cl (.repM a b)).1 ς G = bnd ((ev cl a).1 ς G) fun x G1 => bnd ((ev cl b).1 ς G1) fun y G2 => Mp.repM x y G2 := by rfl
@[simp] theorem blt_sorted {m : Bool} {ds : List D} : (Blt.sorted m).k ds G = one (sortD m) ds G := by rfl
theorem mk_pop : Mth.pop.k = popM := rfl
theorem mk_append : Mth.append.k = appendM := rfl
theorem mk_extend : Mth.extend.k = extendM := rfl
theorem mk_index : Mth.index.k = indexM := rfl
theorem mk_join : Mth.join.k = joinM := rfl
@[simp] theorem ty_row {i : List D} : tyD G (.row i) = some "tuple" := by rfl
@[simp] theorem len_row {ds : List D} : lenD (.row ds) G = some (.int ds.length, G) := by rfl
@[simp] theorem seq_row {ds : List D} : seqK (.row ds) G = some (.tup ds, G) := by rfl
@[simp] theorem len_fz {ds : List D} : lenD (.fz ds) G = some (.int ds.length, G) := by rfl
end
end Mp
namespace K14
open PySem PySem.Spec L2 Mp
open PyProof.Rows hiding St

section
variable {cl : Nat → List D → Hs → Rs} {ς : Env'} {G G1 G2 : Hs}
theorem ne_f {x y : D} {a b : E} (h1 : (ev cl a).1 ς G = some (x, G1)) (h2 : (ev cl b).1 ς G1 = some (y, G2)) (h : cmpB .ne x y G2 = some false) : (ev cl (.cmp .ne a b)).2 ς G = some (false, G2) := by
  rw [ev_cmp2, h1, bnd_s, h2, bnd_s, cmpD_s, h]; rfl
theorem cmp_t {o : Cop} {x y : D} {a b : E} {r : Bool} (h1 : (ev cl a).1 ς G = some (x, G1)) (h2 : (ev cl b).1 ς G1 = some (y, G2)) (h : cmpB o x y G2 = some r) : (ev cl (.cmp o a b)).2 ς G = some (r, G2) := by
  rw [ev_cmp2, h1, bnd_s, h2, bnd_s, cmpD_s, h]; rfl
theorem cmp_s {o : Cop} {x y : D} {a b : E} {r : Bool} (h1 : (ev cl a).1 ς G = some (x, G1)) (h2 : (ev cl b).1 ς G1 = some (y, G2)) (h : cmpB o x y G2 = some r) : (ev cl (.cmp o a b)).1 ς G = some (.bl r, G2) := by
  rw [ev_cmp1, h1, bnd_s, h2, bnd_s, cmpD_s, h]; rfl
theorem bin_s {o : Bop} {x y : D} {a b : E} {r : Rs} (h1 : (ev cl a).1 ς G = some (x, G1)) (h2 : (ev cl b).1 ς G1 = some (y, G2)) (h : binD o x y G2 = r) : (ev cl (.bin o a b)).1 ς G = r := by
  rw [ev_bin1, h1, bnd_s, h2, bnd_s, h]
theorem idx_s {x y : D} {a b : E} {r : Rs} (h1 : (ev cl a).1 ς G = some (x, G1)) (h2 : (ev cl b).1 ς G1 = some (y, G2)) (h : idxD x y G2 = r) : (ev cl (.idx a b)).1 ς G = r := by
  rw [ev_idx1, h1, bnd_s, h2, bnd_s, h]
theorem blt_s {b : Blt} {a : E} {ds : List D} {r : Rs} (h1 : (ev cl a).1 ς G = some (.tup ds, G1)) (h : b.k ds G1 = r) : (ev cl (.blt b a)).1 ς G = r := by
  rw [ev_blt1, h1, bnd_s, argK_s, h]
theorem call_t {f n : Nat} {a : E} {ds : List D} {b : Bool} (h1 : (ev cl a).1 ς G = some (.tup ds, G1)) (hl : ds.length = n) (h2 : cl f ds G1 = some (.bl b, G2)) : (ev cl (.call f n a)).2 ς G = some (b, G2) := by
  rw [ev_call2, h1, bnd_s, argK_s, if_pos hl, h2]; rfl
theorem call_s {f n : Nat} {a : E} {ds : List D} {r : Rs} (h1 : (ev cl a).1 ς G = some (.tup ds, G1)) (hl : ds.length = n) (h2 : cl f ds G1 = r) : (ev cl (.call f n a)).1 ς G = r := by
  rw [ev_call1, h1, bnd_s, argK_s, if_pos hl, h2]
theorem cons_s {a b : E} {x : D} {r : List D} (h1 : (ev cl a).1 ς G = some (x, G1)) (h2 : (ev cl b).1 ς G1 = some (.tup r, G2)) : (ev cl (.cons a b)).1 ς G = some (.tup (x :: r), G2) := by
  rw [ev_cons1, h1, bnd_s, h2, bnd_s, consK_s]
theorem nil_s : (ev cl .nil).1 ς G = some (.tup [], G) := rfl
theorem v_s {i : Nat} {d : D} (h : ς[i]? = some (some d)) : (ev cl (.v i)).1 ς G = some (d, G) := by
  rw [ev_v1, h]; rfl
theorem k_s {d : D} : (ev cl (.k d)).1 ς G = some (d, G) := rfl
theorem one_v {i : Nat} {d : D} (h : ς[i]? = some (some d)) : (ev cl (.cons (.v i) .nil)).1 ς G = some (.tup [d], G) := cons_s (v_s h) nil_s
theorem two_v {i j : Nat} {d e : D} (h : ς[i]? = some (some d)) (h2 : ς[j]? = some (some e)) : (ev cl (.cons (.v i) (.cons (.v j) .nil))).1 ς G = some (.tup [d, e], G) := cons_s (v_s h) (one_v h2)
theorem three_v {i j k : Nat} {d e f : D} (h : ς[i]? = some (some d)) (h2 : ς[j]? = some (some e)) (h3 : ς[k]? = some (some f)) : (ev cl (.cons (.v i) (.cons (.v j) (.cons (.v k) .nil)))).1 ς G = some (.tup [d, e, f], G) := cons_s (v_s h) (two_v h2 h3)
theorem four_v {i j k l : Nat} {d e f g : D} (h : ς[i]? = some (some d)) (h2 : ς[j]? = some (some e)) (h3 : ς[k]? = some (some f)) (h4 : ς[l]? = some (some g)) : (ev cl (.cons (.v i) (.cons (.v j) (.cons (.v k) (.cons (.v l) .nil))))).1 ς G = some (.tup [d, e, f, g], G) := cons_s (v_s h) (three_v h2 h3 h4)
theorem tup_s {a : E} {ds : List D} (h : (ev cl a).1 ς G = some (.tup ds, G1)) (hl : ds.length ≤ 10000) : (ev cl (.tup a)).1 ς G = some (.tup ds, G1) := by
  rw [ev_tup1, h, bnd_s, argK_s, tupK_s, if_pos (by rw [sz]; omega)]
theorem lst_s {a : E} {ds : List D} (h : (ev cl a).1 ς G = some (.tup ds, G1)) (hl : ds.length ≤ 10000) : (ev cl (.lst false a)).1 ς G = some (.lst ds, G1) := by
  rw [ev_lst1, h, bnd_s, argK_s, lstK_s, if_pos (by rw [sz]; omega), newD_f]
theorem lstM_s {a : E} {ds : List D} (h : (ev cl a).1 ς G = some (.tup ds, G1)) (hl : ds.length ≤ 10000) : (ev cl (.lst true a)).1 ς G = some (.ref G1.length, G1 ++ [.lst ds]) := by
  rw [ev_lst1, h, bnd_s, argK_s, lstK_s, if_pos (by rw [sz]; omega), newD_t]
theorem not_call_f {f n : Nat} {a : E} {ds : List D} (h1 : (ev cl a).1 ς G = some (.tup ds, G1)) (hl : ds.length = n) (h2 : cl f ds G1 = some (.bl true, G2)) : (ev cl (.not (.call f n a))).2 ς G = some (false, G2) := not_t (call_t h1 hl h2)
theorem par2_s {i j : Nat} {e : E} {a b : D} {r : S} (h : (ev cl e).1 ς G = some (.tup [a, b], G1)) : evS cl (.seq (.par2 i j e) r) ς G = evS cl r ((ς.set i (some a)).set j (some b)) G1 := by
  rw [evS_seq, evS_par2, h, bnd_s, p2K_s]; rfl
theorem par3_s {i j l : Nat} {e : E} {a b c : D} {r : S} (h : (ev cl e).1 ς G = some (.tup [a, b, c], G1)) : evS cl (.seq (.par3 i j l e) r) ς G = evS cl r (((ς.set i (some a)).set j (some b)).set l (some c)) G1 := by
  rw [evS_seq, evS_par3, h, bnd_s, p3K_s]; rfl
theorem set_v {i n : Nat} {d : Option D} (h : ς.length = n) (hi : i < n) : (ς.set i d)[i]? = some d := List.getElem?_set_self (by omega)
theorem set_o {i j : Nat} {d : Option D} (h : i ≠ j) : (ς.set i d)[j]? = ς[j]? := List.getElem?_set_ne h
theorem bind2 {i j : Nat} {a b : D} : bindL (Tg.tp (Tg.cons (Tg.nm i) (Tg.cons (Tg.nm j) Tg.nil))) [.tup [a, b]] ς = some ((ς.set i (some a)).set j (some b)) := by simp
theorem bind3 {i j k : Nat} {a b c : D} : bindL (Tg.tp (Tg.cons (Tg.nm i) (Tg.cons (Tg.nm j) (Tg.cons (Tg.nm k) Tg.nil)))) [.tup [a, b, c]] ς = some (((ς.set i (some a)).set j (some b)).set k (some c)) := by simp
theorem for_step {t : Tg} {f : FS} {d : D} {ds : List D} {ς1 ς' : Env'} {r : Option Res} (h1 : bindL t [d] ς = some ς1) (h2 : f ς1 G = some (.nx ς' G1)) (h3 : loopF t f ds ς' G1 = r) : loopF t f (d :: ds) ς G = r := by
  simp only [loopF, h1, Option.bind_some, h2]; exact h3
theorem wipe_len : ∀ {own : List Nat} {ς : Env'}, (wipeE ς own).length = ς.length
  | [], _ => rfl
  | v :: vs, ς => by simp [wipeE, wipe_len (own := vs)]
theorem wipe_at : ∀ {own : List Nat} {ς : Env'} {i : Nat}, i ∉ own → (wipeE ς own)[i]? = ς[i]?
  | [], _, _, _ => rfl
  | v :: vs, ς, i, h => by
    simp only [List.mem_cons, not_or] at h
    simp only [wipeE]
    rw [List.getElem?_set_ne (Ne.symm h.1), wipe_at h.2]
/-- a comprehension, item by item -/
theorem comp_map {own : List Nat} {t : Tg} {it c e : E} {ds : List D} (f : D → D) (hi : (ev cl it).1 ς G = some (.tup ds, G1)) (hl : ds.length ≤ 10000) (h : ∀ d ∈ ds, ∃ ς1, bindL t [d] (wipeE ς own) = some ς1 ∧ (ev cl c).2 ς1 G1 = some (true, G1) ∧ (ev cl e).1 ς1 G1 = some (f d, G1)) :
    (ev cl (E.comp false t own it c e)).1 ς G = some (.lst (ds.map f), G1) := by
  have hc := loopC_map (c := (ev cl c).2) (e := (ev cl e).1) (t := t) (ς := wipeE ς own) (G := G1) f (ds := ds) h (by rw [sz]; omega)
  rw [ev_comp1, hi, bnd_s, argK_s, hc, bnd_s, newD_f]
theorem comp_filter {own : List Nat} {t : Tg} {it c e : E} {ds : List D} (p : D → Bool) (f : D → D) (hi : (ev cl it).1 ς G = some (.tup ds, G1)) (hl : ds.length ≤ 10000) (h : ∀ d ∈ ds, ∃ ς1, bindL t [d] (wipeE ς own) = some ς1 ∧ (ev cl c).2 ς1 G1 = some (p d, G1) ∧ (p d = true → (ev cl e).1 ς1 G1 = some (f d, G1))) :
    (ev cl (E.comp false t own it c e)).1 ς G = some (.lst ((ds.filter p).map f), G1) := by
  have hc := loopC_filter (c := (ev cl c).2) (e := (ev cl e).1) (t := t) (ς := wipeE ς own) (G := G1) p f (ds := ds) (acc := []) h (by rw [sz]; simp; omega)
  rw [ev_comp1, hi, bnd_s, argK_s, hc, bnd_s, newD_f, List.nil_append]
theorem comp_none {own : List Nat} {i : Nat} {it c e : E} {ds : List D} (hi : (ev cl it).1 ς G = some (.tup ds, G1)) (hl : ds.length ≤ 10000) (h : ∀ d ∈ ds, (ev cl c).2 ((wipeE ς own).set i (some d)) G1 = some (false, G1)) :
    (ev cl (E.comp false (Tg.nm i) own it c e)).1 ς G = some (.lst [], G1) := by
  have := comp_filter (cl := cl) (own := own) (t := Tg.nm i) (it := it) (c := c) (e := e) (fun _ => false) id hi hl fun d hd => ⟨_, bindL_nm, h d hd, fun q => by cases q⟩
  rw [this]; simp
theorem rng1 {n : Nat} (hn : n ≤ 100000) : arity 1 rngK [.int (n : Nat)] G = some (.tup (rgN 0 1 n), G) := rng1_s (q := (0, 1, n)) (by rw [rgA_1, if_pos (by omega)]; simp)
theorem rgN_ns (n : Nat) : rgN 0 1 n = (List.range n).map fun x => D.int (x : Nat) := by
  unfold rgN
  apply List.map_congr_left
  intro i _
  congr 1; omega
theorem range_s {n : Nat} (hn : n ≤ 100000) : lrgK false [.int (n : Nat)] G = some (nsD (List.range n), G) := by
  unfold lrgK
  rw [rgA_1, if_pos (by omega)]
  simp only [Int.toNat_natCast, Option.bind_some]
  rw [rgN_ns]
  simp [nsD, sz]
  omega
theorem mth_s {b : Mth} {o a : E} {d : D} {ds : List D} {r : Rs} (h1 : (ev cl o).1 ς G = some (d, G1)) (ht : hasTy b.ty d G1 = true) (h2 : (ev cl a).1 ς G1 = some (.tup ds, G2)) (h : b.k d ds G2 = r) : (ev cl (.mth b o a)).1 ς G = r := by
  rw [ev_mth1, h1, bnd_s, if_pos ht, h2, bnd_s, argK_s, h]
theorem mth0_s {b : Mth} {o : E} {d : D} {r : Rs} (h1 : (ev cl o).1 ς G = some (d, G1)) (ht : hasTy b.ty d G1 = true) (h : b.k d [] G1 = r) : (ev cl (.mth0 b o)).1 ς G = r := by
  rw [ev_mth01, h1, bnd_s, if_pos ht, h]
theorem whl_nx {ς' : Env'} {n : Nat} {c : E} {b r : S} (h : loopW (ev cl c).2 (evS cl b) n ς G = some (.nx ς' G1)) : evS cl (.seq (.whl n c b) r) ς G = evS cl r ς' G1 := seq_nx (by rw [evS_whl]; exact h)
theorem ret_s {e : E} {d : D} {r : S} (h : (ev cl e).1 ς G = some (d, G1)) : evS cl (.seq (.ret e) r) ς G = some (.rt d G1) := by
  rw [evS_seq, evS_ret, h]; rfl
theorem aug_s {i : Nat} {o : Aop} {e : E} {d0 d z : D} {r : S} (h0 : ς[i]? = some (some d0)) (h : (ev cl e).1 ς G = some (d, G1)) (h2 : augK o d0 d G1 = some (z, G2)) : evS cl (.seq (.aug i o e) r) ς G = evS cl r (ς.set i (some z)) G2 := by
  rw [evS_seq, evS_aug, h0]
  simp only [Option.bind_some, h, bnd_s, h2]
end
theorem lenS {G : Hs} {cs : List Nat} (h : cs.length ≤ 16777216) : Blt.len.k [.str cs] G = some (.int cs.length, G) := by
  rw [blt_len, one_s, Mp.len_str, if_pos (by rw [sz]; exact h)]
theorem min2k {G : Hs} {i j : Int} : Blt.min2.k [.int i, .int j] G = some (.int (if j < i then j else i), G) := by rw [blt_min2, two_s, min2_s]
theorem lenL {G : Hs} {ds : List D} : Blt.len.k [.lst ds] G = some (.int ds.length, G) := by rw [blt_len, one_s, len_lst]
theorem lenT {G : Hs} {ds : List D} : Blt.len.k [.tup ds] G = some (.int ds.length, G) := by rw [blt_len, one_s, len_tup]
theorem lenN {G : Hs} {xs : List Nat} : Blt.len.k [nsD xs] G = some (.int xs.length, G) := by unfold nsD; rw [lenL, List.length_map]
theorem ne_nil {G : Hs} : cmpB .ne (.lst []) (.lst []) G = some false := by rfl
theorem ne_str {G : Hs} {s : List Nat} : cmpB .ne (.str s) (.str s) G = some false := by simp
end K14
set_option Elab.async false
set_option linter.all false
set_option autoImplicit false
set_option maxRecDepth 100000
set_option maxHeartbeats 2000000
namespace K14
open PySem PySem.Spec L2 Mp
open PyProof.Rows hiding St

/-! ### pieces -/
inductive Pc where
  | leaf (s : List Nat)
  | pair (l r : Pc)
namespace Pc
def txt : Pc → List Nat
  | leaf s => s
  | pair l r => l.txt ++ r.txt
def long (p : Pc) : Nat := p.txt.length
def ends : Pc → Int
  | leaf s => Txt.count ⟨s.toArray⟩ ⟨#[10]⟩
  | pair l r => l.ends + r.ends
def deep : Pc → Nat
  | leaf _ => 0
  | pair l r => 1 + max l.deep r.deep
def ok : Pc → Prop
  | leaf _ => True
  | pair l r => 0 < l.long ∧ 0 < r.long ∧ l.ok ∧ r.ok
theorem long_pair {l r : Pc} : (pair l r).long = l.long + r.long := by simp [long, txt]
theorem deep_le : ∀ {p : Pc}, p.ok → 0 < p.long → p.deep + 1 ≤ p.long
  | leaf s, _, h => h
  | pair l r, ⟨h1, h2, h3, h4⟩, _ => by
    have a := deep_le h3 h1
    have b := deep_le h4 h2
    rw [long_pair]
    simp only [deep]
    omega
end Pc
def pcD : Pc → D
  | .leaf s => .tup [.str [108, 101, 97, 102], .str s]
  | .pair l r => .tup [.str [112, 97, 105, 114], pcD l, pcD r, .int ((Pc.pair l r).long : Nat), .int (l.ends + r.ends), .int ((Pc.pair l r).deep : Nat)]
theorem at2_0 {a b : D} : atI [a, b] 0 = some a := rfl
theorem at2_1 {a b : D} : atI [a, b] 1 = some b := rfl
theorem at6_0 {a b c d e f : D} : atI [a, b, c, d, e, f] 0 = some a := rfl
theorem at6_1 {a b c d e f : D} : atI [a, b, c, d, e, f] 1 = some b := rfl
theorem at6_2 {a b c d e f : D} : atI [a, b, c, d, e, f] 2 = some c := rfl
theorem at6_3 {a b c d e f : D} : atI [a, b, c, d, e, f] 3 = some d := rfl
theorem at6_4 {a b c d e f : D} : atI [a, b, c, d, e, f] 4 = some e := rfl
theorem at6_5 {a b c d e f : D} : atI [a, b, c, d, e, f] 5 = some f := rfl
theorem leaf_of_run {m : Nat} (hm : 1 ≤ m) {G : Hs} {s : List Nat} : F m 20 [.str s] G = some (pcD (.leaf s), G) := by
  refine run_ t20 rfl hm ?_
  simp [b20, pcD, sz]
theorem kindL {p : Pc} : (∃ s, p = .leaf s) ∨ ∃ l r, p = .pair l r := by cases p <;> simp
theorem long_of_run {m : Nat} (hm : 1 ≤ m) {G : Hs} {p : Pc} (hl : p.long ≤ 5000) : F m 21 [pcD p] G = some (.int (p.long : Nat), G) := by
  refine run_ t21 rfl hm ?_
  cases p with
  | leaf s =>
    have h1 : s.length ≤ 16777216 := by have : s.length ≤ 5000 := hl; omega
    simp [b21, pcD, at2_0, at2_1, sz, h1, Pc.long, Pc.txt]
  | pair l r => simp [b21, pcD, at6_0, at6_3, sz]
theorem ends_of_run {m : Nat} (hm : 1 ≤ m) {G : Hs} {p : Pc} : F m 22 [pcD p] G = some (.int p.ends, G) := by
  refine run_ t22 rfl hm ?_
  cases p with
  | leaf s =>
    have e : countM (.str s) [.str [10]] G = some (.int (Txt.count ⟨s.toArray⟩ ⟨#[10]⟩), G) := rfl
    have e2 : hasTy .str (.str s) G = true := rfl
    simp [b22, pcD, at2_0, at2_1, Mth.ty, Mth.k, e, e2, Pc.ends]
  | pair l r => simp [b22, pcD, at6_0, at6_4, Pc.ends]
theorem deep_of_run {m : Nat} (hm : 1 ≤ m) {G : Hs} {p : Pc} : F m 23 [pcD p] G = some (.int (p.deep : Nat), G) := by
  refine run_ t23 rfl hm ?_
  cases p with
  | leaf s => simp [b23, pcD, at2_0, Pc.deep]
  | pair l r => simp [b23, pcD, at6_0, at6_5]
theorem pair_of_run {m : Nat} (hm : 2 ≤ m) {G : Hs} {l r : Pc} (h1 : l.long ≤ 5000) (h2 : r.long ≤ 5000) : F m 24 [pcD l, pcD r] G = some (pcD (.pair l r), G) := by
  refine run_ t24 rfl (by omega) ?_
  have e1 := deep_of_run (m := m - 1) (by omega) (G := G) (p := l)
  have e2 := deep_of_run (m := m - 1) (by omega) (G := G) (p := r)
  have e3 := long_of_run (m := m - 1) (by omega) (G := G) h1
  have e4 := long_of_run (m := m - 1) (by omega) (G := G) h2
  have e5 := ends_of_run (m := m - 1) (by omega) (G := G) (p := l)
  have e6 := ends_of_run (m := m - 1) (by omega) (G := G) (p := r)
  simp [b24, e1, e2, e3, e4, e5, e6, sz]
  simp only [pcD, Pc.long_pair, Pc.deep]
  congr 1
  have e : (1 + if l.deep < r.deep then (r.deep : Int) else (l.deep : Int)) = ((1 + max l.deep r.deep : Nat) : Int) := by
    split <;> omega
  simp [e]
theorem idxP0 {p : Pc} {G : Hs} : idxD (pcD p) (.int 0) G = some (.str (match p with | .leaf _ => [108, 101, 97, 102] | _ => [112, 97, 105, 114]), G) := by cases p <;> rfl
theorem idxP1 {l r : Pc} {G : Hs} : idxD (pcD (.pair l r)) (.int 1) G = some (pcD l, G) := rfl
theorem idxP2 {l r : Pc} {G : Hs} : idxD (pcD (.pair l r)) (.int 2) G = some (pcD r, G) := rfl
theorem idxL1 {s : List Nat} {G : Hs} : idxD (pcD (.leaf s)) (.int 1) G = some (.str s, G) := rfl
/-- what is asked of pieces that are joined -/
structure Jo (l r p : Pc) : Prop where
  txt : p.txt = l.txt ++ r.txt
  ok : p.ok
theorem Jo.long {l r p : Pc} (h : Jo l r p) : p.long = l.long + r.long := by simp [Pc.long, h.txt]
theorem evened_run {m : Nat} (hm : 3 ≤ m) {G : Hs} {l r : Pc} (hl : l.ok) (hr : r.ok) (h1 : 0 < l.long) (h2 : 0 < r.long) (hs : l.long + r.long ≤ 5000) : ∃ p, F m 25 [pcD l, pcD r] G = some (pcD p, G) ∧ Jo l r p := by
  have dp : ∀ p : Pc, F (m - 1) 23 [pcD p] G = some (.int (p.deep : Nat), G) := fun p => deep_of_run (by omega)
  have pr : ∀ {a b : Pc}, a.long ≤ 5000 → b.long ≤ 5000 → F (m - 1) 24 [pcD a, pcD b] G = some (pcD (.pair a b), G) := fun h1 h2 => pair_of_run (by omega) h1 h2
  by_cases c1 : r.deep + 1 < l.deep
  · cases l with
    | leaf s => simp [Pc.deep] at c1
    | pair a i =>
      obtain ⟨a1, a2, a3, a4⟩ := hl
      rw [Pc.long_pair] at hs h1
      have i1 : (((r.deep : Int) + 1 < ((Pc.pair a i).deep : Int)) : Prop) := by omega
      by_cases c2 : i.deep ≤ a.deep
      · refine ⟨.pair a (.pair i r), run_ t25 rfl (by omega) ?_, ⟨by simp [Pc.txt], ?_⟩⟩
        · have i2 : (i.deep : Int) ≤ (a.deep : Int) := by omega
          have q1 := pr (a := i) (b := r) (by omega) (by omega)
          have q2 := pr (a := a) (b := .pair i r) (by omega) (by rw [Pc.long_pair]; omega)
          simp [b25, dp, i1, i2, idxP1, idxP2, q1, q2]
        · exact ⟨a1, by rw [Pc.long_pair]; omega, a3, a2, h2, a4, hr⟩
      · cases i with
        | leaf s => simp [Pc.deep] at c2
        | pair b c =>
          obtain ⟨b1, b2, b3, b4⟩ := a4
          rw [Pc.long_pair] at hs a2
          have i2 : ¬ (((Pc.pair b c).deep : Int) ≤ (a.deep : Int)) := by omega
          refine ⟨.pair (.pair a b) (.pair c r), run_ t25 rfl (by omega) ?_, ⟨by simp [Pc.txt], ?_⟩⟩
          · have q1 := pr (a := a) (b := b) (by omega) (by omega)
            have q2 := pr (a := c) (b := r) (by omega) (by omega)
            have q3 := pr (a := .pair a b) (b := .pair c r) (by rw [Pc.long_pair]; omega) (by rw [Pc.long_pair]; omega)
            simp [b25, dp, i1, i2, idxP1, idxP2, q1, q2, q3]
          · exact ⟨by rw [Pc.long_pair]; omega, by rw [Pc.long_pair]; omega, ⟨a1, b1, a3, b3⟩, ⟨b2, h2, b4, hr⟩⟩
  · have n1 : ¬ (((r.deep : Int) + 1 < (l.deep : Int))) := by omega
    by_cases c3 : l.deep + 1 < r.deep
    · cases r with
      | leaf s => simp [Pc.deep] at c3
      | pair i a =>
        obtain ⟨a1, a2, a3, a4⟩ := hr
        rw [Pc.long_pair] at hs h2
        have i1 : (((l.deep : Int) + 1 < ((Pc.pair i a).deep : Int)) : Prop) := by omega
        by_cases c2 : i.deep ≤ a.deep
        · refine ⟨.pair (.pair l i) a, run_ t25 rfl (by omega) ?_, ⟨by simp [Pc.txt], ?_⟩⟩
          · have i2 : (i.deep : Int) ≤ (a.deep : Int) := by omega
            have q1 := pr (a := l) (b := i) (by omega) (by omega)
            have q2 := pr (a := .pair l i) (b := a) (by rw [Pc.long_pair]; omega) (by omega)
            simp [b25, dp, n1, i1, i2, idxP1, idxP2, q1, q2]
          · exact ⟨by rw [Pc.long_pair]; omega, a2, ⟨h1, a1, hl, a3⟩, a4⟩
        · cases i with
          | leaf s => simp [Pc.deep] at c2
          | pair b c =>
            obtain ⟨b1, b2, b3, b4⟩ := a3
            rw [Pc.long_pair] at hs a1
            have i2 : ¬ (((Pc.pair b c).deep : Int) ≤ (a.deep : Int)) := by omega
            refine ⟨.pair (.pair l b) (.pair c a), run_ t25 rfl (by omega) ?_, ⟨by simp [Pc.txt], ?_⟩⟩
            · have q1 := pr (a := l) (b := b) (by omega) (by omega)
              have q2 := pr (a := c) (b := a) (by omega) (by omega)
              have q3 := pr (a := .pair l b) (b := .pair c a) (by rw [Pc.long_pair]; omega) (by rw [Pc.long_pair]; omega)
              simp [b25, dp, n1, i1, i2, idxP1, idxP2, q1, q2, q3]
            · exact ⟨by rw [Pc.long_pair]; omega, by rw [Pc.long_pair]; omega, ⟨h1, b1, hl, b3⟩, ⟨b2, a2, b4, a4⟩⟩
    · have n3 : ¬ (((l.deep : Int) + 1 < (r.deep : Int))) := by omega
      refine ⟨.pair l r, run_ t25 rfl (by omega) ?_, ⟨rfl, h1, h2, hl, hr⟩⟩
      have q1 := pr (a := l) (b := r) (by omega) (by omega)
      simp [b25, dp, n1, n3, q1]
end K14
set_option Elab.async false
set_option linter.all false
set_option autoImplicit false
set_option maxRecDepth 100000
set_option maxHeartbeats 2000000
namespace K14
open PySem PySem.Spec L2 Mp
open PyProof.Rows hiding St

theorem put_together_run : ∀ (k m : Nat), ∀ {G : Hs} {l r : Pc}, l.long + r.long ≤ k → k + 5 ≤ m → k ≤ 5000 → l.ok → r.ok → ∃ p, F m 26 [pcD l, pcD r] G = some (pcD p, G) ∧ Jo l r p := by
  intro k
  induction k with
  | zero =>
    intro m G l r hk hm hz hl hr
    have z1 : l.long = 0 := by omega
    have z2 : r.long = 0 := by omega
    have lg : ∀ p : Pc, p.long ≤ 5000 → F (m - 1) 21 [pcD p] G = some (.int (p.long : Nat), G) := fun p h => long_of_run (by omega) h
    refine ⟨r, run_ t26 rfl (by omega) ?_, by rw [List.eq_nil_of_length_eq_zero z1]; rfl, hr⟩
    simp [b26, lg l (by omega), z1]
  | succ k ih =>
    intro m G l r hk hm hz hl hr
    have lg : ∀ p : Pc, p.long ≤ 5000 → F (m - 1) 21 [pcD p] G = some (.int (p.long : Nat), G) := fun p h => long_of_run (by omega) h
    have dp : ∀ p : Pc, F (m - 1) 23 [pcD p] G = some (.int (p.deep : Nat), G) := fun p => deep_of_run (by omega)
    by_cases z1 : l.long = 0
    · refine ⟨r, run_ t26 rfl (by omega) ?_, by rw [List.eq_nil_of_length_eq_zero z1]; rfl, hr⟩
      simp [b26, lg l (by omega), z1]
    by_cases z2 : r.long = 0
    · refine ⟨l, run_ t26 rfl (by omega) ?_, by rw [List.eq_nil_of_length_eq_zero z2]; simp, hl⟩
      simp [b26, lg l (by omega), lg r (by omega), z1, z2]
    have y1 : 0 < l.long := by omega
    have y2 : 0 < r.long := by omega
    have go : ∀ q : Pc × Pc, True := fun _ => trivial
    by_cases c0 : ∃ s t, l = .leaf s ∧ r = .leaf t ∧ s.length + t.length ≤ 16
    · obtain ⟨s, t, rfl, rfl, hst⟩ := c0
      refine ⟨.leaf (s ++ t), run_ t26 rfl (by omega) ?_, rfl, trivial⟩
      have e1 : ((Pc.leaf s).long : Int) + ((Pc.leaf t).long : Int) ≤ 16 := by
        have : s.length + t.length ≤ 16 := hst
        simp only [Pc.long, Pc.txt]; omega
      have e2 := leaf_of_run (m := m - 1) (by omega) (G := G) (s := s ++ t)
      have e3 : s.length + t.length ≤ 16777216 := by omega
      simp [b26, lg (.leaf s) (by omega), lg (.leaf t) (by omega), z1, z2, idxP0, idxL1, e1, e2, e3, sz]
    -- the first test that is no leaf pair
    have t1 : (ev (F (m - 1)) (E.and (E.cmp Cop.eq (E.idx (E.v 0) (E.k (D.int 0))) (E.k (D.str [108, 101, 97, 102]))) (E.and (E.cmp Cop.eq (E.idx (E.v 1) (E.k (D.int 0))) (E.k (D.str [108, 101, 97, 102]))) (E.cmp Cop.le (E.bin Bop.add (E.call 21 1 (E.cons (E.v 0) E.nil)) (E.call 21 1 (E.cons (E.v 1) E.nil))) (E.k (D.int 16)))))).2 [some (pcD l), some (pcD r)] G = some (false, G) := by
      cases l with
      | pair a b => simp [idxP0]
      | leaf s => cases r with
        | pair a b => simp [idxP0]
        | leaf t =>
          have e1 : ¬ (((Pc.leaf s).long : Int) + ((Pc.leaf t).long : Int) ≤ 16) := by
            intro h
            exact c0 ⟨s, t, rfl, rfl, by simp only [Pc.long, Pc.txt] at h; omega⟩
          simp [idxP0, lg (.leaf s) (by omega), lg (.leaf t) (by omega), e1]
    have t0 : (ev (F (m - 1)) (E.or (E.cmp Cop.eq (E.call 21 1 (E.cons (E.v 0) E.nil)) (E.k (D.int 0))) (E.cmp Cop.eq (E.call 21 1 (E.cons (E.v 1) E.nil)) (E.k (D.int 0))))).2 [some (pcD l), some (pcD r)] G = some (false, G) := by
      simp [lg l (by omega), lg r (by omega), z1, z2]
    by_cases c1 : r.deep + 1 < l.deep
    · cases l with
      | leaf s => simp [Pc.deep] at c1
      | pair a b =>
        obtain ⟨a1, a2, a3, a4⟩ := hl
        rw [Pc.long_pair] at hk y1
        obtain ⟨q, e1, jq⟩ := ih (m - 1) (G := G) (l := b) (r := r) (by omega) (by omega) (by omega) a4 hr
        obtain ⟨p, e2, jp⟩ := evened_run (m := m - 1) (by omega) (G := G) (l := a) (r := q) a3 jq.ok a1 (by rw [jq.long]; omega) (by rw [jq.long]; omega)
        refine ⟨p, run_ t26 rfl (by omega) ?_, by rw [jp.txt, jq.txt]; simp [Pc.txt], jp.ok⟩
        have i1 : (((r.deep : Int) + 1 < ((Pc.pair a b).deep : Int)) : Prop) := by omega
        show (evS (F (m - 1)) b26 [some (pcD (.pair a b)), some (pcD r)] G).bind outD = _
        unfold b26
        rw [seq_ife_f t0, seq_ife_f t1]
        simp [dp, i1, idxP1, idxP2, e1, e2]
    · have n1 : ¬ (((r.deep : Int) + 1 < (l.deep : Int))) := by omega
      by_cases c3 : l.deep + 1 < r.deep
      · cases r with
        | leaf s => simp [Pc.deep] at c3
        | pair a b =>
          obtain ⟨a1, a2, a3, a4⟩ := hr
          rw [Pc.long_pair] at hk y2
          obtain ⟨q, e1, jq⟩ := ih (m - 1) (G := G) (l := l) (r := a) (by omega) (by omega) (by omega) hl a3
          obtain ⟨p, e2, jp⟩ := evened_run (m := m - 1) (by omega) (G := G) (l := q) (r := b) jq.ok a4 (by rw [jq.long]; omega) a2 (by rw [jq.long]; omega)
          refine ⟨p, run_ t26 rfl (by omega) ?_, by rw [jp.txt, jq.txt]; simp [Pc.txt], jp.ok⟩
          have i1 : (((l.deep : Int) + 1 < ((Pc.pair a b).deep : Int)) : Prop) := by omega
          show (evS (F (m - 1)) b26 [some (pcD l), some (pcD (.pair a b))] G).bind outD = _
          unfold b26
          rw [seq_ife_f t0, seq_ife_f t1]
          simp [dp, n1, i1, idxP1, idxP2, e1, e2]
      · have n3 : ¬ (((l.deep : Int) + 1 < (r.deep : Int))) := by omega
        refine ⟨.pair l r, run_ t26 rfl (by omega) ?_, rfl, y1, y2, hl, hr⟩
        have q1 := pair_of_run (m := m - 1) (by omega) (G := G) (l := l) (r := r) (by omega) (by omega)
        show (evS (F (m - 1)) b26 [some (pcD l), some (pcD r)] G).bind outD = _
        unfold b26
        rw [seq_ife_f t0, seq_ife_f t1]
        simp [dp, n1, n3, q1]
theorem long_take {s : List Nat} {p : Nat} : (Pc.leaf (s.take p)).long ≤ s.length := by simp [Pc.long, Pc.txt]; omega
theorem parted_run : ∀ (p : Pc) (m : Nat) {G : Hs} {k : Nat}, p.ok → k ≤ p.long → p.long + 7 ≤ m → p.long ≤ 5000 → ∃ a b, F m 27 [pcD p, .int (k : Nat)] G = some (.tup [pcD a, pcD b], G) ∧ a.txt = p.txt.take k ∧ b.txt = p.txt.drop k ∧ a.ok ∧ b.ok
  | .leaf s, m, G, k, hp, hk, hm, hl => by
    refine ⟨.leaf (s.take k), .leaf (s.drop k), run_ t27 rfl (by omega) ?_, rfl, rfl, trivial, trivial⟩
    have h1 : s.length ≤ 16777216 := by have : s.length ≤ 5000 := hl; omega
    have e1 := leaf_of_run (m := m - 1) (by omega) (G := G) (s := s.take k)
    have e2 := leaf_of_run (m := m - 1) (by omega) (G := G) (s := s.drop k)
    simp [b27, idxP0, idxL1, cut_to, cut_from, sz, h1, e1, e2]
  | .pair l r, m, G, k, hp, hk, hm, hl => by
    obtain ⟨h1, h2, h3, h4⟩ := hp
    rw [Pc.long_pair] at hk hm hl
    have lg := long_of_run (m := m - 1) (by omega) (G := G) (p := l) (by omega)
    have t0 : (ev (F (m - 1)) (E.cmp Cop.eq (E.idx (E.v 0) (E.k (D.int 0))) (E.k (D.str [108, 101, 97, 102])))).2 ([pcD (.pair l r), .int (k : Nat)].map some ++ List.replicate (7 - 2) none) G = some (false, G) := by simp [idxP0]
    have tb : bindL (Tg.tp (Tg.cons (Tg.nm 2) (Tg.cons (Tg.nm 3) (Tg.cons (Tg.nm 4) (Tg.cons (Tg.nm 2) (Tg.cons (Tg.nm 2) (Tg.cons (Tg.nm 2) Tg.nil))))))) [pcD (.pair l r)] ([pcD (.pair l r), .int (k : Nat)].map some ++ List.replicate (7 - 2) none) =
        some [some (pcD (.pair l r)), some (.int (k : Nat)), some (.int ((Pc.pair l r).deep : Nat)), some (pcD l), some (pcD r), none, none] := by
      rw [pcD]; simp
    by_cases c : k ≤ l.long
    · obtain ⟨a, b, e1, a1, b1, ao, bo⟩ := parted_run l (m - 1) (G := G) (k := k) h3 c (by omega) (by omega)
      have lb : b.long ≤ l.long := by simp [Pc.long, b1]
      obtain ⟨q, e2, jq⟩ := put_together_run (b.long + r.long) (m - 1) (G := G) (l := b) (r := r) (Nat.le_refl _) (by omega) (by omega) bo h4
      refine ⟨a, q, run_ t27 rfl (by omega) ?_, ?_, ?_, ao, jq.ok⟩
      · have i1 : (k : Int) ≤ (l.long : Int) := by omega
        unfold b27
        rw [seq_ife_f t0, tgt_s (v_s rfl) tb]
        simp [lg, i1, e1, e2, sz]
      · rw [a1, Pc.txt, List.take_append_of_le_length c]
      · rw [jq.txt, b1, Pc.txt, List.drop_append_of_le_length c]
    · obtain ⟨a, b, e1, a1, b1, ao, bo⟩ := parted_run r (m - 1) (G := G) (k := k - l.long) h4 (by omega) (by omega) (by omega)
      have la : a.long ≤ r.long := by simp [Pc.long, a1]; omega
      obtain ⟨q, e2, jq⟩ := put_together_run (l.long + a.long) (m - 1) (G := G) (l := l) (r := a) (Nat.le_refl _) (by omega) (by omega) h3 ao
      refine ⟨q, b, run_ t27 rfl (by omega) ?_, ?_, ?_, jq.ok, bo⟩
      · have i1 : ¬ ((k : Int) ≤ (l.long : Int)) := by omega
        have i2 : (k : Int) - (l.long : Int) = ((k - l.long : Nat) : Int) := by omega
        unfold b27
        rw [seq_ife_f t0, tgt_s (v_s rfl) tb]
        simp [lg, i1, i2, e1, e2, sz]
      · have : l.txt.length ≤ k := by have : l.long < k := by omega
                                      exact Nat.le_of_lt this
        rw [jq.txt, a1, Pc.txt, List.take_append, List.take_of_length_le this]; rfl
      · have : l.txt.length ≤ k := by have : l.long < k := by omega
                                      exact Nat.le_of_lt this
        rw [b1, Pc.txt, List.drop_append, List.drop_of_length_le this]; rfl
theorem made_of_run : ∀ (n : Nat) (s : List Nat) (m : Nat) {G : Hs}, s.length ≤ n → n + 6 ≤ m → n ≤ 5000 → ∃ p, F m 39 [.str s] G = some (pcD p, G) ∧ p.txt = s ∧ p.ok
  | 0, s, m, G, h, hm, hz => by
    have : s = [] := List.eq_nil_of_length_eq_zero (by omega)
    subst this
    refine ⟨.leaf [], run_ t39 rfl (by omega) ?_, rfl, trivial⟩
    have e1 := leaf_of_run (m := m - 1) (by omega) (G := G) (s := [])
    simp [b39, sz, e1]
  | n + 1, s, m, G, h, hm, hz => by
    have h1 : s.length ≤ 16777216 := by omega
    by_cases c : s.length ≤ 16
    · refine ⟨.leaf s, run_ t39 rfl (by omega) ?_, rfl, trivial⟩
      have e1 := leaf_of_run (m := m - 1) (by omega) (G := G) (s := s)
      have i1 : (s.length : Int) ≤ 16 := by omega
      simp [b39, sz, h1, i1, e1]
    · have i1 : ¬ ((s.length : Int) ≤ 16) := by omega
      have ed : (s.length : Int) / 2 = ((s.length / 2 : Nat) : Int) := by omega
      obtain ⟨a, e1, a1, ao⟩ := made_of_run n (s.take (s.length / 2)) (m - 1) (G := G) (by rw [List.length_take]; omega) (by omega) (by omega)
      obtain ⟨b, e2, b1, bo⟩ := made_of_run n (s.drop (s.length / 2)) (m - 1) (G := G) (by rw [List.length_drop]; omega) (by omega) (by omega)
      have la : a.long = s.length / 2 := by simp [Pc.long, a1]; omega
      have lb : b.long = s.length - s.length / 2 := by simp [Pc.long, b1]
      obtain ⟨q, e3, jq⟩ := put_together_run (n + 1) (m - 1) (G := G) (l := a) (r := b) (by omega) (by omega) (by omega) ao bo
      refine ⟨q, run_ t39 rfl (by omega) ?_, by rw [jq.txt, a1, b1, List.take_append_drop], jq.ok⟩
      have fd : binD .fdiv (.int (s.length : Nat)) (.int 2) G = some (.int ((s.length / 2 : Nat) : Int), G) := by rw [fdiv_s, if_pos (by decide), ed]
      clear ed la lb a1 b1 jq
      generalize s.length / 2 = hf at fd e1 e2
      simp [b39, sz, h1, i1, fd, cut_to, cut_from, e1, e2, e3]
theorem pieces_of_run {s : List Nat} {m : Nat} {G : Hs} (hm : s.length + 7 ≤ m) (hz : s.length ≤ 5000) : ∃ p, F m 40 [.str s] G = some (pcD p, G) ∧ p.txt = s ∧ p.ok := by
  obtain ⟨p, e, h⟩ := made_of_run s.length s (m - 1) (G := G) (Nat.le_refl _) (by omega) hz
  refine ⟨p, run_ t40 rfl (by omega) ?_, h⟩
  simp [b40, e]
end K14
set_option Elab.async false
set_option linter.all false
set_option autoImplicit false
set_option maxRecDepth 100000
set_option maxHeartbeats 2000000
namespace K14
open PySem PySem.Spec L2 Mp
open PyProof.Rows hiding St

namespace Pc
def nodes : Pc → Nat
  | leaf _ => 1
  | pair l r => 1 + l.nodes + r.nodes
theorem nodes_le : ∀ {p : Pc}, p.ok → 0 < p.long → p.nodes + 1 ≤ 2 * p.long
  | leaf s, _, h => by simp only [nodes]; omega
  | pair l r, ⟨h1, h2, h3, h4⟩, _ => by
    have a := nodes_le h3 h1
    have b := nodes_le h4 h2
    rw [long_pair]; simp only [nodes]; omega
theorem nodes_pos : ∀ {p : Pc}, 0 < p.nodes
  | leaf s => by simp [nodes]
  | pair l r => by simp only [nodes]; omega
end Pc
def nodesL (ps : List Pc) : Nat := (ps.map Pc.nodes).sum
theorem nodesL_len : ∀ ps : List Pc, ps.length ≤ nodesL ps
  | [] => Nat.le_refl _
  | p :: ps => by
    have := nodesL_len ps
    have h := Pc.nodes_pos (p := p)
    simp only [nodesL, List.map_cons, List.sum_cons, List.length_cons] at *; omega
abbrev bTx : S := (S.seq (S.set 3 (E.mth0 Mth.pop (E.v 2))) (S.seq (S.ife (E.cmp Cop.eq (E.idx (E.v 3) (E.k (D.int 0))) (E.k (D.str [108, 101, 97, 102]))) (S.seq (S.drop (E.mth Mth.append (E.v 1) (E.cons (E.idx (E.v 3) (E.k (D.int 1))) E.nil))) S.skip) (S.seq (S.drop (E.mth Mth.extend (E.v 2) (E.cons (E.lst false (E.cons (E.idx (E.v 3) (E.k (D.int 2))) (E.cons (E.idx (E.v 3) (E.k (D.int 1))) E.nil))) E.nil))) S.skip)) S.skip))
abbrev gTx (G : Hs) (ts : List (List Nat)) (ps : List Pc) : Hs := G ++ [.lst (ts.map .str), .lst (ps.map pcD)]
theorem gTx0 {G : Hs} {ts : List (List Nat)} {ps : List Pc} : (gTx G ts ps)[G.length]? = some (.lst (ts.map .str)) := by simp [gTx]
theorem gTx1 {G : Hs} {ts : List (List Nat)} {ps : List Pc} : (gTx G ts ps)[G.length + 1]? = some (.lst (ps.map pcD)) := by
  rw [gTx, List.getElem?_append_right (by omega)]; simp
theorem gTx_s0 {G : Hs} {ts us : List (List Nat)} {ps : List Pc} : (gTx G ts ps).set G.length (.lst (us.map .str)) = gTx G us ps := by simp [gTx]
theorem gTx_s1 {G : Hs} {ts : List (List Nat)} {ps qs : List Pc} : (gTx G ts ps).set (G.length + 1) (.lst (qs.map pcD)) = gTx G ts qs := by
  rw [gTx, List.set_append_right _ _ (by omega)]; simp
theorem pop_r {G : Hs} {n : Nat} {ds : List D} {d : D} (h : G[n]? = some (.lst (ds ++ [d]))) : popM (.ref n) [] G = some (d, G.set n (.lst ds)) := by
  unfold popM
  simp [h]
theorem text_of_run {m : Nat} (hm : 1 ≤ m) {G : Hs} {p : Pc} (hp : p.ok) (hl : p.long ≤ 5000) : ∃ l, F m 41 [pcD p] G = some (.str p.txt, G ++ l) := by
  have hn : p.nodes ≤ 10001 := by
    by_cases z : 0 < p.long
    · have := Pc.nodes_le hp z; omega
    · cases p with
      | leaf s => simp [Pc.nodes]
      | pair l r => have := hp.1; rw [Pc.long_pair] at z; omega
  let st : Option D → Env' := fun o => [some (pcD p), some (.ref G.length), some (.ref (G.length + 1)), o]
  have key := loopW_run (c := (ev (F (m - 1)) (E.cmp Cop.gt (E.blt Blt.len (E.cons (E.v 2) E.nil)) (E.k (D.int 0)))).2) (f := evS (F (m - 1)) bTx)
    (I := fun k ς G' => ∃ ts ps o, ς = st o ∧ G' = gTx G ts ps ∧ ts.flatten ++ (ps.reverse.map Pc.txt).flatten = p.txt ∧ k = nodesL ps ∧ ts.length + nodesL ps ≤ 10001)
    (Q := fun ς G' => ∃ ts o, ς = st o ∧ G' = gTx G ts [] ∧ ts.flatten = p.txt) ?_ 100000 (nodesL [p]) (st none) (gTx G [] [p]) ⟨[], [p], none, rfl, rfl, by simp, rfl, by simpa [nodesL] using hn⟩ (by simp [nodesL]; omega)
  · obtain ⟨ς', G', e1, ts, o, rfl, rfl, ht⟩ := key
    refine ⟨[.lst (ts.map .str), .lst []], run_ t41 rfl hm ?_⟩
    show (evS (F (m - 1)) b41 [some (pcD p), none, none, none] G).bind outD = _
    unfold b41
    rw [set_s (d := .ref G.length) (G1 := G ++ [.lst []]) (lstM_s nil_s (by simp))]
    rw [set_s (d := .ref (G.length + 1)) (G1 := gTx G [] [p]) (by
      have := lstM_s (cl := F (m - 1)) (ς := [some (pcD p), some (.ref G.length), none, none]) (G := G ++ [.lst []]) (one_v (i := 0) (d := pcD p) rfl) (by simp)
      rw [List.length_append] at this
      simpa [gTx] using this)]
    refine (congrArg (fun z => Option.bind z outD) (whl_nx e1)).trans ?_
    have ej : (ev (F (m - 1)) (E.mth Mth.join (E.k (D.str [])) (E.cons (E.v 1) E.nil))).1 (st o) (gTx G ts []) = some (.str p.txt, gTx G ts []) := by
      refine mth_s k_s rfl (one_v (i := 1) (d := .ref G.length) rfl) ?_
      show joinM (.str []) [.ref G.length] _ = _
      have es : seqOf (gTx G ts []) (.ref G.length) = some (ts.map .str) := by
        simp [Mp.seqOf, Mp.roOf, Mp.listOf, gTx0]
      have ed : strsD (ts.map D.str) = some ts := by
        clear ht es e1
        induction ts with
        | nil => rfl
        | cons t r ih => simp [strsD, ih]
      have el : (ts.map (·.length)).sum ≤ 16777216 := by
        have : (ts.map (·.length)).sum = p.txt.length := by rw [← ht, List.length_flatten]
        have h2 : p.txt.length ≤ 5000 := hl
        omega
      unfold joinM
      simp only [es, ed, Option.bind_some, if_pos el, ht]
    exact seq_ret ej
  · rintro k ς G' ⟨ts, ps, o, rfl, rfl, ht, rfl, hb⟩
    have hlen : (ev (F (m - 1)) (E.cmp Cop.gt (E.blt Blt.len (E.cons (E.v 2) E.nil)) (E.k (D.int 0)))).2 (st o) (gTx G ts ps) = some (decide ((0 : Int) < (ps.length : Nat)), gTx G ts ps) := by
      refine cmp_t (blt_s (one_v (i := 2) (d := .ref (G.length + 1)) rfl) ?_) k_s cmp_gtI
      rw [blt_len, one_s, len_r gTx1, List.length_map]
    refine ⟨_, _, hlen, fun h0 => ?_, fun h1 => ?_⟩
    · have : ps = [] := by
        cases ps with
        | nil => rfl
        | cons a b => simp only [List.length_cons, decide_eq_false_iff_not] at h0; omega
      subst this
      exact ⟨ts, o, rfl, rfl, by simpa using ht⟩
    · have hne : ps ≠ [] := by rintro rfl; simp at h1
      obtain ⟨qs, q, rfl⟩ : ∃ qs q, ps = qs ++ [q] := ⟨ps.dropLast, ps.getLast hne, (List.dropLast_concat_getLast hne).symm⟩
      have hpop : (ev (F (m - 1)) (E.mth0 Mth.pop (E.v 2))).1 (st o) (gTx G ts (qs ++ [q])) = some (pcD q, gTx G ts qs) := by
        have h1 : (gTx G ts (qs ++ [q]))[G.length + 1]? = some (.lst (qs.map pcD ++ [pcD q])) := by rw [gTx1]; simp
        refine mth0_s (v_s (i := 2) (d := .ref (G.length + 1)) rfl) (ref_ty h1) ?_
        rw [mk_pop, pop_r h1, gTx_s1]
      have nq : nodesL (qs ++ [q]) = nodesL qs + q.nodes := by simp [nodesL]
      have hs : (st o).set 3 (some (pcD q)) = st (some (pcD q)) := rfl
      rw [nq] at hb
      have hqs := nodesL_len qs
      cases q with
      | leaf s =>
        refine ⟨nodesL qs, st (some (pcD (.leaf s))), gTx G (ts ++ [s]) qs, by rw [nq]; simp [Pc.nodes], ?_, ts ++ [s], qs, _, rfl, rfl, ?_, rfl, ?_⟩
        · rw [set_s hpop, hs, seq_nx (ς' := st (some (pcD (.leaf s)))) (G1 := gTx G (ts ++ [s]) qs)]
          · rfl
          · rw [evS_ife, cmp_t (r := true) (idx_s (v_s (i := 3) rfl) k_s idxP0) k_s (by simp), bnd_s, if_pos rfl]
            have : (ev (F (m - 1)) (E.mth Mth.append (E.v 1) (E.cons (E.idx (E.v 3) (E.k (D.int 1))) E.nil))).1 (st (some (pcD (.leaf s)))) (gTx G ts qs) = some (.non, gTx G (ts ++ [s]) qs) := by
              refine mth_s (v_s (i := 1) (d := .ref G.length) rfl) (ref_ty gTx0) (cons_s (idx_s (v_s (i := 3) rfl) k_s idxL1) nil_s) ?_
              rw [mk_append, app_s gTx0 (by rw [List.length_map]; omega), ← gTx_s0 (ts := ts)]
              simp
            rw [drop_s this, evS_skip]
        · rw [← ht]; simp [Pc.txt]
        · simp [Pc.nodes] at hb; simp; omega
      | pair a b =>
        refine ⟨nodesL (qs ++ [b, a]), st (some (pcD (.pair a b))), gTx G ts (qs ++ [b, a]), by rw [nq]; simp [nodesL, Pc.nodes]; omega, ?_, ts, qs ++ [b, a], _, rfl, rfl, ?_, rfl, ?_⟩
        · rw [set_s hpop, hs, seq_nx (ς' := st (some (pcD (.pair a b)))) (G1 := gTx G ts (qs ++ [b, a]))]
          · rfl
          · rw [evS_ife, cmp_t (r := false) (idx_s (v_s (i := 3) rfl) k_s idxP0) k_s (by simp), bnd_s, if_neg (by decide)]
            have : (ev (F (m - 1)) (E.mth Mth.extend (E.v 2) (E.cons (E.lst false (E.cons (E.idx (E.v 3) (E.k (D.int 2))) (E.cons (E.idx (E.v 3) (E.k (D.int 1))) E.nil))) E.nil))).1 (st (some (pcD (.pair a b)))) (gTx G ts qs) = some (.non, gTx G ts (qs ++ [b, a])) := by
              refine mth_s (v_s (i := 2) (d := .ref (G.length + 1)) rfl) (ref_ty gTx1) (cons_s (lst_s (cons_s (idx_s (v_s (i := 3) rfl) k_s idxP2) (cons_s (idx_s (v_s (i := 3) rfl) k_s idxP1) nil_s)) (by simp)) nil_s) ?_
              rw [mk_extend, ext_s (xs := [pcD b, pcD a]) gTx1 rfl (by rw [List.length_map]; simp only [List.length_cons, List.length_nil]; omega), ← gTx_s1 (ps := qs)]
              simp
            rw [drop_s this, evS_skip]
        · rw [← ht]; simp [Pc.txt]
        · simp [nodesL, Pc.nodes] at hb ⊢; omega
end K14
set_option Elab.async false
set_option linter.all false
set_option autoImplicit false
set_option maxRecDepth 100000
set_option maxHeartbeats 2000000
namespace K14
open PySem PySem.Spec L2 Mp
open PyProof.Rows hiding St

theorem mul_st {a : List Nat} {n : Int} {G : Hs} : binD .mul (.str a) (.int n) G = if -(2 ^ 62) ≤ n ∧ n < 2 ^ 62 ∧ a.length * n.toNat ≤ sizeLine then some (.str (List.replicate n.toNat a).flatten, G) else none := rfl
theorem rep_len (n : Nat) : (List.replicate n [32]).flatten.length = n := by
  rw [List.length_flatten]; simp
theorem edited_run {m : Nat} {G : Hs} {p : Pc} {e : Ed} (hp : p.ok) (ok : okE p.txt e.1 e.2.1 e.2.2) (hm : p.long + e.2.2.length + 9 ≤ m) (hl : p.long + e.2.2.length ≤ 5000) : ∃ q, F m 42 [pcD p, eD e] G = some (pcD q, G) ∧ q.txt = putE p.txt e ∧ q.ok := by
  obtain ⟨pl, g, c⟩ := e
  obtain ⟨o1, o2, o3, o4⟩ := ok
  simp only at *
  have lp : p.txt.length = p.long := rfl
  have e0 := long_of_run (m := m - 1) (by omega) (G := G) (p := p) (by omega)
  have e1 := is_edit_run (m := m - 1) (by omega) (G := G) (t := (List.replicate p.long [32]).flatten) (p := pl) (g := g) (c := c) (by rw [rep_len]; omega) ⟨by rw [rep_len]; omega, o2, by rw [rep_len]; omega, o4⟩
  obtain ⟨a, b, e2, a1, b1, ao, bo⟩ := parted_run p (m - 1) (G := G) (k := pl) hp (by omega) (by omega) (by omega)
  have la : a.long = pl := by show a.txt.length = pl; rw [a1, List.length_take]; omega
  have lb : b.long = p.long - pl := by simp [Pc.long, b1]
  obtain ⟨b', d, e3, -, d1, -, dO⟩ := parted_run b (m - 1) (G := G) (k := g) bo (by omega) (by omega) (by omega)
  have ld : d.long = p.long - pl - g := by show d.txt.length = _; rw [d1, List.length_drop]; show b.long - g = _; omega
  obtain ⟨cp, e4, c1, co⟩ := made_of_run c.length c (m - 1) (G := G) (Nat.le_refl _) (by omega) (by omega)
  have lc : cp.long = c.length := by simp [Pc.long, c1]
  obtain ⟨q1, e5, j1⟩ := put_together_run (a.long + cp.long) (m - 1) (G := G) (l := a) (r := cp) (Nat.le_refl _) (by omega) (by omega) ao co
  obtain ⟨q2, e6, j2⟩ := put_together_run (q1.long + d.long) (m - 1) (G := G) (l := q1) (r := d) (Nat.le_refl _) (by rw [j1.long]; omega) (by rw [j1.long]; omega) j1.ok dO
  refine ⟨q2, run_ t42 rfl (by omega) ?_, ?_, j2.ok⟩
  · have mul : binD .mul (.str [32]) (.int (p.long : Nat)) G = some (.str (List.replicate p.long [32]).flatten, G) := by
      rw [mul_st]
      have e1 : ((p.long : Nat) : Int).toNat = p.long := Int.toNat_natCast _
      rw [e1, if_pos ⟨by omega, by omega, by rw [sz, List.length_singleton]; omega⟩]
    show (evS (F (m - 1)) b42 [some (pcD p), some (dE pl g c), none, none, none, none, none] G).bind outD = _
    unfold dE at e1 ⊢
    unfold b42
    rw [seq_ife_f (G1 := G)]
    · simp [e2, e3, e4, e5, e6, at2_1]
    · refine or_ff (G1 := G) (not_t (x := true) ?_) (or_ff (G1 := G) ?_ (not_call_f (cons_s (bin_s k_s (call_s (one_v rfl) rfl e0) mul) (one_v rfl)) rfl e1))
      · simp
      · simp
  · show q2.txt = p.txt.take pl ++ c ++ p.txt.drop (pl + g)
    rw [j2.txt, j1.txt, a1, c1, d1, b1, List.drop_drop]
end K14
set_option Elab.async false
set_option linter.all false
set_option autoImplicit false
set_option maxRecDepth 100000
set_option maxHeartbeats 1000000
namespace K14
open PySem PySem.Spec L2 Mp
open PyProof.Rows hiding St

/-! ### the distance and common sublists -/
theorem dist_sub : ∀ (n : Nat) (a b w : List Nat), a.length + b.length ≤ n → w.Sublist a → w.Sublist b → dist a b + 2 * w.length ≤ a.length + b.length := by
  intro n
  induction n with
  | zero =>
    intro a b w hn h1 h2
    have := h1.length_le; have := h2.length_le
    have hd := dist_le _ a b (Nat.le_refl _)
    omega
  | succ n ih =>
    intro a b w hn h1 h2
    cases a with
    | nil =>
      have := h1.length_le
      rw [dist_nil]; simp at this ⊢; subst this; simp
    | cons x a => cases b with
      | nil =>
        have := h2.length_le
        rw [dist_nil2]; simp at this ⊢; subst this; simp
      | cons y b =>
        simp only [List.length_cons] at hn ⊢
        rw [dist_cons]
        cases w with
        | nil =>
          split
          · have := dist_le _ a b (Nat.le_refl _); simp; omega
          · have := dist_le _ a (y :: b) (Nat.le_refl _)
            simp only [List.length_cons] at this
            simp; omega
        | cons z w =>
          split
          · have := ih a b w (by omega) (by simpa using h1.tail) (by simpa using h2.tail)
            simp only [List.length_cons]; omega
          · rename_i hne
            by_cases hz : z = x
            · have hzy : z ≠ y := fun e => hne (e.symm.trans hz)
              have h3 : (z :: w).Sublist b := by
                cases h2 with
                | cons _ h => exact h
                | cons_cons _ h => exact absurd rfl hzy
              have := ih (x :: a) b (z :: w) (by simp; omega) h1 h3
              simp only [List.length_cons] at this ⊢
              omega
            · have h3 : (z :: w).Sublist a := by
                cases h1 with
                | cons _ h => exact h
                | cons_cons _ h => exact absurd rfl hz
              have := ih a (y :: b) (z :: w) (by simp; omega) h3 h2
              simp only [List.length_cons] at this ⊢
              omega
/-- an equal head taken off -/

theorem dist_ex : ∀ (n : Nat) (a b : List Nat), a.length + b.length ≤ n → ∃ w : List Nat, w.Sublist a ∧ w.Sublist b ∧ dist a b + 2 * w.length = a.length + b.length := by
  intro n
  induction n with
  | zero =>
    intro a b hn
    have ha : a = [] := List.eq_nil_of_length_eq_zero (by omega)
    subst ha
    exact ⟨[], List.nil_sublist _, List.nil_sublist _, by rw [dist_nil]; simp⟩
  | succ n ih =>
    intro a b hn
    cases a with
    | nil => exact ⟨[], List.nil_sublist _, List.nil_sublist _, by rw [dist_nil]; simp⟩
    | cons x a => cases b with
      | nil => exact ⟨[], List.nil_sublist _, List.nil_sublist _, by rw [dist_nil2]; simp⟩
      | cons y b =>
        simp only [List.length_cons] at hn ⊢
        rw [dist_cons]
        split
        · rename_i h
          subst h
          obtain ⟨w, h1, h2, h3⟩ := ih a b (by omega)
          exact ⟨y :: w, h1.cons_cons _, h2.cons_cons _, by simp only [List.length_cons]; omega⟩
        · obtain ⟨w, h1, h2, h3⟩ := ih a (y :: b) (by simp only [List.length_cons]; omega)
          obtain ⟨w', h1', h2', h3'⟩ := ih (x :: a) b (by simp only [List.length_cons]; omega)
          simp only [List.length_cons] at h3 h3'
          by_cases c : dist a (y :: b) ≤ dist (x :: a) b
          · exact ⟨w, h1.cons _, h2, by omega⟩
          · exact ⟨w', h1', h2'.cons _, by omega⟩
theorem dist_le_of {a b w : List Nat} (h1 : w.Sublist a) (h2 : w.Sublist b) : dist a b + 2 * w.length ≤ a.length + b.length := dist_sub _ a b w (Nat.le_refl _) h1 h2
theorem dist_has (a b : List Nat) : ∃ w : List Nat, w.Sublist a ∧ w.Sublist b ∧ dist a b + 2 * w.length = a.length + b.length := dist_ex _ a b (Nat.le_refl _)
theorem dist_comm (a b : List Nat) : dist a b = dist b a := by
  obtain ⟨w, h1, h2, h3⟩ := dist_has a b
  obtain ⟨w', h1', h2', h3'⟩ := dist_has b a
  have := dist_le_of h2 h1
  have := dist_le_of h2' h1'
  omega
theorem sub_meet {α : Type} : ∀ {s w1 w2 : List α}, w1.Sublist s → w2.Sublist s → ∃ w : List α, w.Sublist w1 ∧ w.Sublist w2 ∧ w1.length + w2.length ≤ w.length + s.length
  | [], w1, w2, h1, h2 => by
    cases h1; cases h2
    exact ⟨[], List.nil_sublist _, List.nil_sublist _, by simp⟩
  | x :: s, w1, w2, h1, h2 => by
    cases h1 with
    | cons _ h1 => cases h2 with
      | cons _ h2 =>
        obtain ⟨w, a, b, c⟩ := sub_meet h1 h2
        exact ⟨w, a, b, by simp only [List.length_cons]; omega⟩
      | cons_cons _ h2 =>
        obtain ⟨w, a, b, c⟩ := sub_meet h1 h2
        exact ⟨w, a, b.cons _, by simp only [List.length_cons]; omega⟩
    | cons_cons _ h1 => cases h2 with
      | cons _ h2 =>
        obtain ⟨w, a, b, c⟩ := sub_meet h1 h2
        exact ⟨w, a.cons _, b, by simp only [List.length_cons]; omega⟩
      | cons_cons _ h2 =>
        obtain ⟨w, a, b, c⟩ := sub_meet h1 h2
        exact ⟨x :: w, a.cons_cons _, b.cons_cons _, by simp only [List.length_cons]; omega⟩
theorem dist_tri (a b c : List Nat) : dist a c ≤ dist a b + dist b c := by
  obtain ⟨w1, h1, h2, h3⟩ := dist_has a b
  obtain ⟨w2, k1, k2, k3⟩ := dist_has b c
  obtain ⟨w, m1, m2, m3⟩ := sub_meet h2 k1
  have := dist_le_of (m1.trans h1) (m2.trans k2)
  have := h1.length_le
  have := k2.length_le
  omega
theorem dist_map {f : Nat → Nat} : ∀ (n : Nat) (a b : List Nat), a.length + b.length ≤ n → (∀ x ∈ a, ∀ y ∈ b, f x = f y → x = y) → dist (a.map f) (b.map f) = dist a b := by
  intro n
  induction n with
  | zero =>
    intro a b hn _
    have ha : a = [] := List.eq_nil_of_length_eq_zero (by omega)
    subst ha
    rw [List.map_nil, dist_nil, dist_nil, List.length_map]
  | succ n ih =>
    intro a b hn h
    cases a with
    | nil => rw [List.map_nil, dist_nil, dist_nil, List.length_map]
    | cons x a => cases b with
      | nil => rw [List.map_nil, dist_nil2, dist_nil2, List.length_map]
      | cons y b =>
        simp only [List.length_cons] at hn
        rw [List.map_cons, List.map_cons, dist_cons, dist_cons]
        have e : (f y = f x) ↔ y = x := ⟨fun e => (h x (by simp) y (by simp) e.symm).symm, fun e => by rw [e]⟩
        have e1 := ih a b (by omega) fun x hx y hy => h x (by simp [hx]) y (by simp [hy])
        have e2 := ih a (y :: b) (by simp only [List.length_cons]; omega) fun x hx z hz => h x (by simp [hx]) z hz
        have e3 := ih (x :: a) b (by simp only [List.length_cons]; omega) fun z hz y hy => h z hz y (by simp [hy])
        rw [List.map_cons] at e2 e3
        by_cases c : y = x
        · rw [if_pos (e.mpr c), if_pos c, e1]
        · rw [if_neg fun z => c (e.mp z), if_neg c, e2, e3]
theorem dist_inj {f : Nat → Nat} {a b : List Nat} (h : ∀ x ∈ a, ∀ y ∈ b, f x = f y → x = y) : dist (a.map f) (b.map f) = dist a b := dist_map _ a b (Nat.le_refl _) h
/-! ends -/
theorem dist_app1 (a b : List Nat) (c : Nat) : dist (a ++ [c]) (b ++ [c]) ≤ dist a b := by
  obtain ⟨w, h1, h2, h3⟩ := dist_has a b
  have := dist_le_of (h1.append (List.Sublist.refl [c])) (h2.append (List.Sublist.refl [c]))
  simp only [List.length_append, List.length_singleton] at this
  omega
theorem dist_more (a b : List Nat) (c : Nat) : dist (a ++ [c]) b ≤ dist a b + 1 := by
  obtain ⟨w, h1, h2, h3⟩ := dist_has a b
  have := dist_le_of (h1.trans (List.sublist_append_left a [c])) h2
  simp only [List.length_append, List.length_singleton] at this
  omega
theorem dist_less (a b : List Nat) (c : Nat) : dist a b ≤ dist (a ++ [c]) b + 1 := by
  obtain ⟨w, h1, h2, h3⟩ := dist_has (a ++ [c]) b
  obtain ⟨w1, w2, rfl, k1, k2⟩ := List.sublist_append_iff.mp h1
  have := dist_le_of k1 ((List.sublist_append_left w1 w2).trans h2)
  have := k2.length_le
  simp only [List.length_append, List.length_singleton] at *
  omega
end K14
set_option Elab.async false
set_option linter.all false
set_option autoImplicit false
set_option maxRecDepth 100000
set_option maxHeartbeats 1000000
/-! the table into which numbers are put one by one -/
namespace K14
open PySem PySem.Spec L2 Mp
open PyProof.Rows hiding St

def bump (z : Nat) : List Nat → List Nat × Option Nat
  | [] => ([z], none)
  | y :: r => if z < y then (z :: r, some y) else (y :: (bump z r).1, (bump z r).2)
theorem bump_none {z : Nat} : ∀ {r : List Nat}, (bump z r).2 = none → (bump z r).1 = r ++ [z] ∧ ∀ x ∈ r, ¬ z < x
  | [], _ => ⟨rfl, by simp⟩
  | y :: r, h => by
    unfold bump at h ⊢
    by_cases c : z < y
    · rw [if_pos c] at h; cases h
    · rw [if_neg c] at h ⊢
      obtain ⟨h1, h2⟩ := bump_none (r := r) h
      exact ⟨by simp only [h1]; rfl, fun x hx => by rcases List.mem_cons.mp hx with rfl | hx; exact c; exact h2 x hx⟩
theorem bump_some {z y : Nat} : ∀ {r : List Nat}, (bump z r).2 = some y → ∃ A B, r = A ++ y :: B ∧ (bump z r).1 = A ++ z :: B ∧ z < y ∧ ∀ a ∈ A, ¬ z < a
  | [], h => by cases h
  | x :: r, h => by
    unfold bump at h ⊢
    by_cases c : z < x
    · rw [if_pos c] at h ⊢
      cases h
      exact ⟨[], r, rfl, rfl, c, by simp⟩
    · rw [if_neg c] at h ⊢
      obtain ⟨A, B, e1, e2, h3, h4⟩ := bump_some (r := r) h
      exact ⟨x :: A, B, by rw [e1]; rfl, by simp only [e2]; rfl, h3, fun a ha => by rcases List.mem_cons.mp ha with rfl | ha; exact c; exact h4 a ha⟩
def ins : List (List Nat) → Nat → List (List Nat)
  | [], z => [[z]]
  | r :: rs, z => match (bump z r).2 with
    | none => (bump z r).1 :: rs
    | some y => (bump z r).1 :: ins rs y
def table (row : List Nat) : List (List Nat) := row.foldl ins []
/-- what is kept -/
structure Tb (P : List (List Nat)) : Prop where
  row : ∀ r ∈ P, r.Pairwise (· < ·)
  ne : ∀ r ∈ P, r ≠ []
theorem Tb.tail {r : List Nat} {P : List (List Nat)} (h : Tb (r :: P)) : Tb P := ⟨fun x hx => h.row x (by simp [hx]), fun x hx => h.ne x (by simp [hx])⟩
theorem ins_perm : ∀ (P : List (List Nat)) (z : Nat), (ins P z).flatten.Perm (z :: P.flatten)
  | [], z => by simp [ins]
  | r :: rs, z => by
    unfold ins
    cases e : (bump z r).2 with
    | none =>
      simp only [List.flatten_cons, (bump_none e).1, List.append_assoc, List.singleton_append]
      exact List.perm_middle
    | some y =>
      obtain ⟨A, B, e1, e2, h3, h4⟩ := bump_some e
      simp only [List.flatten_cons, e2]
      have ih := ins_perm rs y
      rw [e1]
      calc (A ++ z :: B ++ (ins rs y).flatten).Perm (A ++ z :: B ++ y :: rs.flatten) := ih.append_left _
        _ |>.Perm (z :: (A ++ y :: B ++ rs.flatten)) := by
          simp only [List.append_assoc, List.cons_append]
          refine List.perm_middle.trans (List.Perm.cons _ ?_)
          refine (List.Perm.append_left A ?_)
          exact List.perm_middle
theorem sorted_ins {z : Nat} {r : List Nat} (hr : r.Pairwise (· < ·)) (hz : z ∉ r) : (bump z r).1.Pairwise (· < ·) := by
  cases e : (bump z r).2 with
  | none =>
    obtain ⟨h1, h2⟩ := bump_none e
    rw [h1, List.pairwise_append]
    refine ⟨hr, by simp, fun a ha b hb => ?_⟩
    rw [List.mem_singleton.mp hb]
    have := h2 a ha
    have : a ≠ z := fun q => hz (q ▸ ha)
    omega
  | some y =>
    obtain ⟨A, B, e1, e2, h3, h4⟩ := bump_some e
    rw [e2]
    rw [e1, List.pairwise_append, List.pairwise_cons] at hr
    rw [List.pairwise_append, List.pairwise_cons]
    refine ⟨hr.1, ⟨fun b hb => Nat.lt_trans h3 (hr.2.1.1 b hb), hr.2.1.2⟩, fun a ha b hb => ?_⟩
    rcases List.mem_cons.mp hb with rfl | hb
    · have := h4 a ha
      have : a ≠ b := fun q => hz (by rw [e1]; simp [← q, ha])
      omega
    · exact hr.2.2 a ha b (by simp [hb])
theorem ins_tb : ∀ (P : List (List Nat)) (z : Nat), Tb P → (z :: P.flatten).Nodup → Tb (ins P z)
  | [], z, _, _ => ⟨by simp [ins], by simp [ins]⟩
  | r :: rs, z, h, hn => by
    have hz : z ∉ r := fun q => by
      rw [List.nodup_cons] at hn
      exact hn.1 (by simp [q])
    have s1 := sorted_ins (h.row r (by simp)) hz
    unfold ins
    cases e : (bump z r).2 with
    | none =>
      refine ⟨fun x hx => ?_, fun x hx => ?_⟩
      · rcases List.mem_cons.mp hx with rfl | hx
        · exact s1
        · exact h.row x (by simp [hx])
      · rcases List.mem_cons.mp hx with rfl | hx
        · rw [(bump_none e).1]; simp
        · exact h.ne x (by simp [hx])
    | some y =>
      obtain ⟨A, B, e1, e2, h3, h4⟩ := bump_some e
      have hy : (y :: rs.flatten).Nodup := by
        rw [List.nodup_cons, List.flatten_cons, List.nodup_append] at hn
        obtain ⟨-, -, n2, n3⟩ := hn
        rw [List.nodup_cons]
        exact ⟨fun q => n3 y (by rw [e1]; simp) y q rfl, n2⟩
      have ih := ins_tb rs y h.tail hy
      refine ⟨fun x hx => ?_, fun x hx => ?_⟩
      · rcases List.mem_cons.mp hx with rfl | hx
        · exact s1
        · exact ih.row x hx
      · rcases List.mem_cons.mp hx with rfl | hx
        · rw [e2]; simp
        · exact ih.ne x hx
/-! ### rows that go down -/
def Le (s t : List Nat) : Prop := ∀ d : List Nat, d.Sublist s → d.Pairwise (· > ·) → ∃ d' : List Nat, d'.Sublist t ∧ d'.Pairwise (· > ·) ∧ d'.length = d.length
theorem Le.refl (s : List Nat) : Le s s := fun d h1 h2 => ⟨d, h1, h2, rfl⟩
theorem Le.trans {s t u : List Nat} (h : Le s t) (g : Le t u) : Le s u := fun d h1 h2 => by
  obtain ⟨d1, a1, a2, a3⟩ := h d h1 h2
  obtain ⟨d2, b1, b2, b3⟩ := g d1 a1 a2
  exact ⟨d2, b1, b2, by omega⟩
/-- a part of it exchanged -/
theorem Le.mid {u v s t : List Nat} (h : ∀ d : List Nat, d.Sublist s → d.Pairwise (· > ·) → ∃ d' : List Nat, d'.Sublist t ∧ d'.Pairwise (· > ·) ∧ d'.length = d.length ∧ (∀ x ∈ d', ∃ y ∈ d, x ≤ y) ∧ ∀ x ∈ d', ∃ y ∈ d, y ≤ x) : Le (u ++ (s ++ v)) (u ++ (t ++ v)) := by
  intro d h1 h2
  obtain ⟨du, d2, rfl, k1, k2⟩ := List.sublist_append_iff.mp h1
  obtain ⟨ds, dv, rfl, k3, k4⟩ := List.sublist_append_iff.mp k2
  rw [List.pairwise_append, List.pairwise_append] at h2
  obtain ⟨p1, ⟨p2, p3, p4⟩, p5⟩ := h2
  obtain ⟨d', q1, q2, q3, q4, q5⟩ := h ds k3 p2
  refine ⟨du ++ (d' ++ dv), k1.append (q1.append k4), ?_, by simp [q3]⟩
  rw [List.pairwise_append, List.pairwise_append]
  refine ⟨p1, ⟨q2, p3, fun a ha b hb => ?_⟩, fun a ha b hb => ?_⟩
  · obtain ⟨y, hy, hl⟩ := q5 a ha
    have := p4 y hy b hb
    show b < a
    omega
  · rcases List.mem_append.mp hb with hb | hb
    · obtain ⟨y, hy, hl⟩ := q4 b hb
      have := p5 a ha y (by simp [hy])
      show b < a
      omega
    · exact p5 a ha b (by simp [hb])
/-- up and down at once: one at most -/
theorem one_of {d r : List Nat} (h1 : d.Sublist r) (h2 : r.Pairwise (· < ·)) (h3 : d.Pairwise (· > ·)) : d = [] ∨ ∃ e ∈ r, d = [e] := by
  match d, h1, h3 with
  | [], _, _ => exact .inl rfl
  | [e], h1, _ => exact .inr ⟨e, h1.subset (by simp), rfl⟩
  | e :: f :: d, h1, h3 =>
    have a := h2.sublist h1
    rw [List.pairwise_cons] at a h3
    have b := a.1 f (by simp)
    have c := h3.1 f (by simp)
    exact absurd b (by show ¬ e < f; have : f < e := c; omega)
theorem swap1 {A B : List Nat} {y z : Nat} (hr : (A ++ y :: B).Pairwise (· < ·)) (hzy : z < y) (hA : ∀ a ∈ A, a < z) (u v : List Nat) : Le (u ++ ((A ++ y :: B ++ [z]) ++ v)) (u ++ ((y :: (A ++ z :: B)) ++ v)) := by
  refine Le.mid fun d h1 h2 => ?_
  obtain ⟨e1, e2, rfl, k1, k2⟩ := List.sublist_append_iff.mp h1
  rw [List.pairwise_append] at h2
  obtain ⟨p1, p2, p3⟩ := h2
  have id_ : ∀ d : List Nat, d.Sublist (y :: (A ++ z :: B)) → d.Pairwise (· > ·) → d.length = (e1 ++ e2).length → d = e1 ++ e2 → ∃ d' : List Nat, d'.Sublist (y :: (A ++ z :: B)) ∧ d'.Pairwise (· > ·) ∧ d'.length = (e1 ++ e2).length ∧ (∀ x ∈ d', ∃ y ∈ e1 ++ e2, x ≤ y) ∧ ∀ x ∈ d', ∃ y ∈ e1 ++ e2, y ≤ x :=
    fun d a b c e => ⟨d, a, b, c, fun x hx => ⟨x, e ▸ hx, Nat.le_refl _⟩, fun x hx => ⟨x, e ▸ hx, Nat.le_refl _⟩⟩
  rcases one_of k1 hr p1 with rfl | ⟨e, he, rfl⟩
  · refine id_ e2 ?_ p2 (by simp) (by simp)
    refine k2.trans ?_
    exact (List.singleton_sublist.mpr (by simp))
  · have k2' : e2 = [] ∨ e2 = [z] := by
      cases k2 with
      | cons _ h => cases h; exact .inl rfl
      | cons_cons _ h => cases h; exact .inr rfl
    rcases k2' with rfl | rfl
    · refine id_ [e] (List.singleton_sublist.mpr ?_) (by simp) (by simp) (by simp)
      simp only [List.mem_append, List.mem_cons] at he ⊢
      rcases he with h | h | h
      · exact .inr (.inl h)
      · exact .inl h
      · exact .inr (.inr (.inr h))
    · have hez : z < e := p3 e (by simp) z (by simp)
      have hye : y ≤ e := by
        rcases List.mem_append.mp he with h | h
        · have := hA e h; omega
        · rcases List.mem_cons.mp h with rfl | h
          · exact Nat.le_refl _
          · rw [List.pairwise_append, List.pairwise_cons] at hr
            exact Nat.le_of_lt (hr.2.1.1 e h)
      refine ⟨[y, z], (List.singleton_sublist.mpr (by simp)).cons_cons _, by simp [hzy], by simp, fun x hx => ?_, fun x hx => ?_⟩
      · refine ⟨e, by simp, ?_⟩
        simp only [List.mem_cons, List.not_mem_nil, or_false] at hx
        rcases hx with rfl | rfl <;> omega
      · refine ⟨z, by simp, ?_⟩
        simp only [List.mem_cons, List.not_mem_nil, or_false] at hx
        rcases hx with rfl | rfl <;> omega
theorem swap2 {A B : List Nat} {y z : Nat} (hr : (A ++ y :: B).Pairwise (· < ·)) (hzy : z < y) (hA : ∀ a ∈ A, a < z) (u v : List Nat) : Le (u ++ ((y :: (A ++ z :: B)) ++ v)) (u ++ ((A ++ y :: B ++ [z]) ++ v)) := by
  have hr2 : (A ++ z :: B).Pairwise (· < ·) := by
    rw [List.pairwise_append, List.pairwise_cons] at hr ⊢
    refine ⟨hr.1, ⟨fun b hb => Nat.lt_trans hzy (hr.2.1.1 b hb), hr.2.1.2⟩, fun a ha b hb => ?_⟩
    rcases List.mem_cons.mp hb with rfl | hb
    · exact hA a ha
    · exact hr.2.2 a ha b (by simp [hb])
  refine Le.mid fun d h1 h2 => ?_
  have id_ : d.Sublist (A ++ y :: B ++ [z]) → ∃ d' : List Nat, d'.Sublist (A ++ y :: B ++ [z]) ∧ d'.Pairwise (· > ·) ∧ d'.length = d.length ∧ (∀ x ∈ d', ∃ y ∈ d, x ≤ y) ∧ ∀ x ∈ d', ∃ y ∈ d, y ≤ x :=
    fun a => ⟨d, a, h2, rfl, fun x hx => ⟨x, hx, Nat.le_refl _⟩, fun x hx => ⟨x, hx, Nat.le_refl _⟩⟩
  have one : ∀ e ∈ A ++ z :: B, [e].Sublist (A ++ y :: B ++ [z]) := fun e he => List.singleton_sublist.mpr (by
    simp only [List.mem_append, List.mem_cons, List.not_mem_nil, or_false] at he ⊢
    rcases he with h | h | h
    · exact .inl (.inl h)
    · exact .inr h
    · exact .inl (.inr (.inr h)))
  cases h1 with
  | cons _ h =>
    rcases one_of h hr2 h2 with rfl | ⟨e, he, rfl⟩
    · exact id_ (List.nil_sublist _)
    · exact id_ (one e he)
  | cons_cons _ h =>
    rename_i e2
    rw [List.pairwise_cons] at h2
    rcases one_of h hr2 h2.2 with rfl | ⟨e, he, rfl⟩
    · exact id_ (List.singleton_sublist.mpr (by simp))
    · have hey : e < y := h2.1 e (by simp)
      have hez : e ≤ z := by
        rcases List.mem_append.mp he with h | h
        · exact Nat.le_of_lt (hA e h)
        · rcases List.mem_cons.mp h with rfl | h
          · exact Nat.le_refl _
          · rw [List.pairwise_append, List.pairwise_cons] at hr
            have := hr.2.1.1 e h
            omega
      refine ⟨[y, z], ?_, by simp [hzy], by simp, fun x hx => ?_, fun x hx => ?_⟩
      · rw [List.append_assoc]
        refine List.Sublist.trans ?_ (List.sublist_append_right A _)
        exact (List.sublist_append_right B [z]).cons_cons y
      · refine ⟨y, by simp, ?_⟩
        simp only [List.mem_cons, List.not_mem_nil, or_false] at hx
        rcases hx with rfl | rfl <;> omega
      · refine ⟨e, by simp, ?_⟩
        simp only [List.mem_cons, List.not_mem_nil, or_false] at hx
        rcases hx with rfl | rfl <;> omega
/-- the rows, from the last one on -/
def word (P : List (List Nat)) : List Nat := P.reverse.flatten
theorem word_cons {r : List Nat} {P : List (List Nat)} : word (r :: P) = word P ++ r := by simp [word]
theorem ins_word : ∀ (P : List (List Nat)) (z : Nat) (v : List Nat), Tb P → (z :: P.flatten).Nodup → Le (word P ++ z :: v) (word (ins P z) ++ v) ∧ Le (word (ins P z) ++ v) (word P ++ z :: v)
  | [], z, v, _, _ => by
    have e : word (ins [] z) ++ v = word [] ++ z :: v := by simp [ins, word]
    rw [e]; exact ⟨Le.refl _, Le.refl _⟩
  | r :: rs, z, v, h, hn => by
    have hz : z ∉ r := fun q => by
      rw [List.nodup_cons] at hn
      exact hn.1 (by simp [q])
    unfold ins
    cases e : (bump z r).2 with
    | none =>
      have : word ((bump z r).1 :: rs) ++ v = word (r :: rs) ++ z :: v := by rw [word_cons, word_cons, (bump_none e).1]; simp
      simp only [this]
      exact ⟨Le.refl _, Le.refl _⟩
    | some y =>
      obtain ⟨A, B, e1, e2, h3, h4⟩ := bump_some e
      have hy : (y :: rs.flatten).Nodup := by
        rw [List.nodup_cons, List.flatten_cons, List.nodup_append] at hn
        obtain ⟨-, -, n2, n3⟩ := hn
        rw [List.nodup_cons]
        exact ⟨fun q => n3 y (by rw [e1]; simp) y q rfl, n2⟩
      have hA : ∀ a ∈ A, a < z := fun a ha => by
        have := h4 a ha
        have : a ≠ z := fun q => hz (by rw [e1, ← q]; simp [ha])
        omega
      have hr := h.row r (by simp)
      rw [e1] at hr
      obtain ⟨i1, i2⟩ := ins_word rs y ((A ++ z :: B) ++ v) h.tail hy
      have s1 := swap1 hr h3 hA (word rs) v
      have s2 := swap2 hr h3 hA (word rs) v
      have w1 : word (r :: rs) ++ z :: v = word rs ++ ((A ++ y :: B ++ [z]) ++ v) := by rw [word_cons, e1]; simp
      have w2 : word ((bump z r).1 :: ins rs y) ++ v = word (ins rs y) ++ ((A ++ z :: B) ++ v) := by rw [word_cons, e2]; simp
      have w3 : word rs ++ ((y :: (A ++ z :: B)) ++ v) = word rs ++ y :: ((A ++ z :: B) ++ v) := by simp
      simp only [w1, w2]
      rw [w3] at s1 s2
      exact ⟨s1.trans i1, i2.trans s2⟩
theorem table_word : ∀ (row : List Nat) (P : List (List Nat)), Tb P → (P.flatten ++ row).Nodup → Le (word P ++ row) (word (row.foldl ins P)) ∧ Le (word (row.foldl ins P)) (word P ++ row) ∧ Tb (row.foldl ins P) ∧ (row.foldl ins P).flatten.Perm (P.flatten ++ row)
  | [], P, h, _ => by simp only [List.foldl_nil, List.append_nil]; exact ⟨Le.refl _, Le.refl _, h, List.Perm.refl _⟩
  | z :: row, P, h, hn => by
    have p1 : (z :: P.flatten).Nodup := by
      have : (P.flatten ++ z :: row).Perm ((z :: P.flatten) ++ row) := List.perm_middle
      exact (List.nodup_append.mp (this.nodup_iff.mp hn)).1
    obtain ⟨a1, a2⟩ := ins_word P z row h p1
    have pp := ins_perm P z
    have hn2 : ((ins P z).flatten ++ row).Nodup := by
      have : ((ins P z).flatten ++ row).Perm (P.flatten ++ z :: row) := (pp.append_right row).trans List.perm_middle.symm
      exact this.nodup_iff.mpr hn
    obtain ⟨b1, b2, b3, b4⟩ := table_word row (ins P z) (ins_tb P z h p1) hn2
    exact ⟨a1.trans b1, b2.trans a2, b3, b4.trans ((pp.append_right row).trans List.perm_middle.symm)⟩
end K14
set_option Elab.async false
set_option linter.all false
set_option autoImplicit false
set_option maxRecDepth 100000
set_option maxHeartbeats 1000000
/-! how many lines the table has, how long the first one is -/
namespace K14
open PySem PySem.Spec L2 Mp
open PyProof.Rows hiding St

abbrev hd (r : List Nat) : Nat := r.headD 0
def Hp_ (P : List (List Nat)) : Prop := P.Pairwise fun r s => ∀ x ∈ s, hd r < x
theorem ins_mem {P : List (List Nat)} {z : Nat} {r : List Nat} {x : Nat} (hr : r ∈ ins P z) (hx : x ∈ r) : x = z ∨ x ∈ P.flatten := by
  have := (ins_perm P z).mem_iff.mp (List.mem_flatten.mpr ⟨r, hr, hx⟩)
  exact List.mem_cons.mp this
theorem ins_hp : ∀ (P : List (List Nat)) (z : Nat), Tb P → Hp_ P → (z :: P.flatten).Nodup → Hp_ (ins P z)
  | [], z, _, _, _ => by simp [ins, Hp_]
  | r :: rs, z, h, hp, hn => by
    have hz : z ∉ r := fun q => by
      rw [List.nodup_cons] at hn
      exact hn.1 (by simp [q])
    unfold Hp_ at hp ⊢
    rw [List.pairwise_cons] at hp
    obtain ⟨hp1, hp2⟩ := hp
    unfold ins
    cases e : (bump z r).2 with
    | none =>
      have e1 := (bump_none e).1
      simp only [List.pairwise_cons, e1]
      refine ⟨fun s hs x hx => ?_, hp2⟩
      have hne := h.ne r (by simp)
      cases r with
      | nil => exact absurd rfl hne
      | cons a r => exact hp1 s hs x hx
    | some y =>
      obtain ⟨A, B, e1, e2, h3, h4⟩ := bump_some e
      have hy : (y :: rs.flatten).Nodup := by
        rw [List.nodup_cons, List.flatten_cons, List.nodup_append] at hn
        obtain ⟨-, -, n2, n3⟩ := hn
        rw [List.nodup_cons]
        exact ⟨fun q => n3 y (by rw [e1]; simp) y q rfl, n2⟩
      simp only [List.pairwise_cons, e2]
      have hle : hd (A ++ z :: B) ≤ hd r ∧ hd (A ++ z :: B) < y := by
        rw [e1]
        cases A with
        | nil => exact ⟨Nat.le_of_lt h3, h3⟩
        | cons a A =>
          have hr := h.row r (by simp)
          rw [e1, List.cons_append, List.pairwise_cons] at hr
          exact ⟨Nat.le_refl _, hr.1 y (by simp)⟩
      refine ⟨fun s hs x hx => ?_, ins_hp rs y h.tail hp2 hy⟩
      rcases ins_mem hs hx with rfl | hm
      · exact hle.2
      · obtain ⟨t, ht, hxt⟩ := List.mem_flatten.mp hm
        exact Nat.lt_of_le_of_lt hle.1 (hp1 t ht x hxt)
theorem table_hp : ∀ (row : List Nat) (P : List (List Nat)), Tb P → Hp_ P → (P.flatten ++ row).Nodup → Hp_ (row.foldl ins P)
  | [], P, _, hp, _ => hp
  | z :: row, P, h, hp, hn => by
    have p1 : (z :: P.flatten).Nodup := by
      have : (P.flatten ++ z :: row).Perm ((z :: P.flatten) ++ row) := List.perm_middle
      exact (List.nodup_append.mp (this.nodup_iff.mp hn)).1
    have hn2 : ((ins P z).flatten ++ row).Nodup := by
      have : ((ins P z).flatten ++ row).Perm (P.flatten ++ z :: row) := ((ins_perm P z).append_right row).trans List.perm_middle.symm
      exact this.nodup_iff.mpr hn
    exact table_hp row (ins P z) (ins_tb P z h p1) (ins_hp P z h hp p1) hn2
theorem hd_mem {r : List Nat} (h : r ≠ []) : hd r ∈ r := by cases r with | nil => exact absurd rfl h | cons a r => simp
theorem col_sub : ∀ (P : List (List Nat)), (∀ r ∈ P, r ≠ []) → ((P.map hd).reverse).Sublist (word P)
  | [], _ => by simp [word]
  | r :: rs, h => by
    rw [List.map_cons, List.reverse_cons, word_cons]
    exact (col_sub rs fun x hx => h x (by simp [hx])).append (List.singleton_sublist.mpr (hd_mem (h r (by simp))))
theorem col_dec {P : List (List Nat)} (h : ∀ r ∈ P, r ≠ []) (hp : Hp_ P) : ((P.map hd).reverse).Pairwise (· > ·) := by
  rw [List.pairwise_reverse]
  rw [List.pairwise_map]
  exact hp.imp_of_mem fun {r s} hr hs q => q _ (hd_mem (h s hs))
theorem word_le : ∀ (P : List (List Nat)) (d : List Nat), (∀ r ∈ P, r.Pairwise (· < ·)) → d.Sublist (word P) → d.Pairwise (· > ·) → d.length ≤ P.length
  | [], d, _, h, _ => by
    have : d = [] := by simpa [word] using h
    simp [this]
  | r :: rs, d, hs, h, hd' => by
    rw [word_cons] at h
    obtain ⟨d1, d2, rfl, k1, k2⟩ := List.sublist_append_iff.mp h
    rw [List.pairwise_append] at hd'
    have a := word_le rs d1 (fun x hx => hs x (by simp [hx])) k1 hd'.1
    have b : d2.length ≤ 1 := by
      rcases one_of k2 (hs r (by simp)) hd'.2.1 with rfl | ⟨e, _, rfl⟩ <;> simp
    simp only [List.length_append, List.length_cons]; omega
theorem table_facts {row : List Nat} (hn : row.Nodup) : Le row (word (table row)) ∧ Le (word (table row)) row ∧ Tb (table row) ∧ (table row).flatten.Perm row ∧ Hp_ (table row) := by
  have t0 : Tb [] := ⟨fun r h => by simp at h, fun r h => by simp at h⟩
  obtain ⟨a, b, c, d⟩ := table_word row [] t0 (by simpa using hn)
  have e : word [] ++ row = row := rfl
  rw [e] at a b
  exact ⟨a, b, c, d, table_hp row [] t0 List.Pairwise.nil (by simpa using hn)⟩
theorem down_le {row d : List Nat} (hn : row.Nodup) (h1 : d.Sublist row) (h2 : d.Pairwise (· > ·)) : d.length ≤ (table row).length := by
  obtain ⟨a, b, c, _, _⟩ := table_facts hn
  obtain ⟨d', q1, q2, q3⟩ := a d h1 h2
  rw [← q3]
  exact word_le _ d' c.row q1 q2
theorem down_ex {row : List Nat} (hn : row.Nodup) : ∃ d : List Nat, d.Sublist row ∧ d.Pairwise (· > ·) ∧ d.length = (table row).length := by
  obtain ⟨a, b, c, _, hp⟩ := table_facts hn
  obtain ⟨d', q1, q2, q3⟩ := b _ (col_sub _ c.ne) (col_dec c.ne hp)
  exact ⟨d', q1, q2, by rw [q3]; simp⟩
/-! ### the first line -/
def pat (r : List Nat) (z : Nat) : List Nat := (bump z r).1
theorem table_first : ∀ (row r : List Nat) (rs : List (List Nat)), ∃ rs', row.foldl ins (r :: rs) = row.foldl pat r :: rs'
  | [], r, rs => ⟨rs, rfl⟩
  | z :: row, r, rs => by
    have : ∃ rs1, ins (r :: rs) z = pat r z :: rs1 := by
      unfold ins pat
      cases (bump z r).2 with
      | none => exact ⟨rs, rfl⟩
      | some y => exact ⟨ins rs y, rfl⟩
    obtain ⟨rs1, e⟩ := this
    rw [List.foldl_cons, List.foldl_cons, e]
    exact table_first row (pat r z) rs1
theorem table_head {z : Nat} {row : List Nat} : ∃ rs', table (z :: row) = (z :: row).foldl pat [] :: rs' := by
  unfold table
  rw [List.foldl_cons, List.foldl_cons]
  exact table_first row [z] []
structure Pt (pr r : List Nat) : Prop where
  inc : r.Pairwise (· < ·)
  mem : ∀ x ∈ r, x ∈ pr
  piles : ∃ ps : List (List Nat), r = ps.map hd ∧ (∀ q ∈ ps, q ≠ [] ∧ q.Sublist pr ∧ q.Pairwise (· < ·)) ∧ (ps.map List.length).sum = pr.length
  has : ∀ (j : Nat) x, r[j]? = some x → ∃ c : List Nat, (x :: c).Sublist pr ∧ (x :: c).Pairwise (· > ·) ∧ c.length = j
  low : ∀ (e : Nat) (c : List Nat), (e :: c).Sublist pr → (e :: c).Pairwise (· > ·) → ∃ x, r[c.length]? = some x ∧ x ≤ e
theorem pt_nil : Pt [] [] := ⟨by simp, by simp, ⟨[], rfl, by simp, rfl⟩, by simp, fun e c h => by simp at h⟩
/-- the chain for the place behind those that are less -/
theorem chain_at {pr A : List Nat} {z : Nat} (has : ∀ (j : Nat) x, A[j]? = some x → ∃ c : List Nat, (x :: c).Sublist pr ∧ (x :: c).Pairwise (· > ·) ∧ c.length = j) (hA : ∀ a ∈ A, a < z) :
    ∃ c : List Nat, (z :: c).Sublist (z :: pr) ∧ (z :: c).Pairwise (· > ·) ∧ c.length = A.length := by
  cases hl : A.getLast? with
  | none =>
    rw [List.getLast?_eq_none_iff] at hl
    subst hl
    exact ⟨[], (List.nil_sublist _).cons_cons _, by simp, rfl⟩
  | some a =>
    have hne : A ≠ [] := fun q => by rw [q] at hl; cases hl
    have hlen : 0 < A.length := List.length_pos_iff.mpr hne
    rw [List.getLast?_eq_getElem?] at hl
    obtain ⟨c, h1, h2, h3⟩ := has _ a hl
    have ha : a < z := hA a (List.mem_of_getElem? hl)
    refine ⟨a :: c, h1.cons_cons _, ?_, by simp [h3]; omega⟩
    rw [List.pairwise_cons]
    refine ⟨fun x hx => ?_, h2⟩
    rcases List.mem_cons.mp hx with rfl | hx
    · exact ha
    · rw [List.pairwise_cons] at h2
      exact Nat.lt_trans (h2.1 x hx) ha
theorem pt_step {pr r : List Nat} {z : Nat} (h : Pt pr r) (hz : z ∉ pr) : Pt (z :: pr) (pat r z) := by
  have hzr : z ∉ r := fun q => hz (h.mem z q)
  have hinc := sorted_ins h.inc hzr
  obtain ⟨ps, p1, p2, p3⟩ := h.piles
  unfold pat
  cases e : (bump z r).2 with
  | none =>
    obtain ⟨e1, e2⟩ := bump_none e
    have hlt : ∀ a ∈ r, a < z := fun a ha => by
      have := e2 a ha
      have : a ≠ z := fun q => hzr (q ▸ ha)
      omega
    rw [e1] at hinc ⊢
    refine ⟨hinc, fun x hx => ?_, ⟨ps ++ [[z]], by rw [List.map_append, ← p1]; rfl, fun q hq => ?_, by simp [p3]⟩, fun j x hj => ?_, fun e c hc hp => ?_⟩
    · rcases List.mem_append.mp hx with hx | hx
      · exact List.mem_cons_of_mem _ (h.mem x hx)
      · simp only [List.mem_singleton] at hx; simp [hx]
    · rcases List.mem_append.mp hq with hq | hq
      · obtain ⟨a, b, c⟩ := p2 q hq
        exact ⟨a, b.cons _, c⟩
      · rw [List.mem_singleton.mp hq]
        exact ⟨by simp, (List.nil_sublist _).cons_cons _, by simp⟩
    · by_cases hjl : j < r.length
      · rw [List.getElem?_append_left hjl] at hj
        obtain ⟨c, a, b, d⟩ := h.has j x hj
        exact ⟨c, a.cons _, b, d⟩
      · have hjr : j = r.length := by
          have := (List.getElem?_eq_some_iff.mp hj).1
          simp at this; omega
        subst hjr
        have hx : x = z := by simpa using hj.symm
        subst hx
        exact chain_at h.has hlt
    · cases hc with
      | cons _ hc =>
        obtain ⟨x, q1, q2⟩ := h.low e c hc hp
        exact ⟨x, by rw [List.getElem?_append_left (List.getElem?_eq_some_iff.mp q1).1]; exact q1, q2⟩
      | cons_cons _ hc =>
        cases c with
        | nil =>
          cases r with
          | nil => exact ⟨z, rfl, Nat.le_refl _⟩
          | cons a r => exact ⟨a, rfl, Nat.le_of_lt (hlt a (by simp))⟩
        | cons f c =>
          rw [List.pairwise_cons] at hp
          obtain ⟨x, q1, q2⟩ := h.low f c hc hp.2
          have hcl := (List.getElem?_eq_some_iff.mp q1).1
          by_cases k : c.length + 1 < r.length
          · exact ⟨r[c.length + 1], by rw [List.length_cons, List.getElem?_append_left k, List.getElem?_eq_getElem k], Nat.le_of_lt (hlt _ (List.getElem_mem k))⟩
          · have : c.length + 1 = r.length := by omega
            exact ⟨z, by rw [List.length_cons, this]; simp, Nat.le_refl _⟩
  | some y =>
    obtain ⟨A, B, e1, e2, h3, h4⟩ := bump_some e
    have hA : ∀ a ∈ A, a < z := fun a ha => by
      have := h4 a ha
      have : a ≠ z := fun q => hzr (by rw [e1, ← q]; simp [ha])
      omega
    rw [e2] at hinc ⊢
    have hB : ∀ b ∈ y :: B, z < b := fun b hb => by
      rcases List.mem_cons.mp hb with rfl | hb
      · exact h3
      · rw [List.pairwise_append, List.pairwise_cons] at hinc
        exact hinc.2.1.1 b hb
    have atA : ∀ j, j < A.length → (A ++ z :: B)[j]? = r[j]? := fun j hj => by rw [e1, List.getElem?_append_left hj, List.getElem?_append_left hj]
    have atz : (A ++ z :: B)[A.length]? = some z := by simp
    have aty : r[A.length]? = some y := by rw [e1]; simp
    have atB : ∀ j, A.length < j → (A ++ z :: B)[j]? = r[j]? := fun j hj => by
      rw [e1, List.getElem?_append_right (by omega), List.getElem?_append_right (by omega)]
      obtain ⟨k, hk⟩ : ∃ k, j - A.length = k + 1 := ⟨j - A.length - 1, by omega⟩
      rw [hk, List.getElem?_cons_succ, List.getElem?_cons_succ]
    -- the piles
    have hpl : ps.map hd = A ++ y :: B := p1.symm.trans e1
    obtain ⟨pA, pR, rfl, m1, m2⟩ := List.map_eq_append_iff.mp hpl
    obtain ⟨q, pB, rfl, m3, m4⟩ := List.map_eq_cons_iff.mp m2
    refine ⟨hinc, fun x hx => ?_, ⟨pA ++ (z :: q) :: pB, by rw [List.map_append, List.map_cons, m1, m4]; rfl, fun q' hq' => ?_, ?_⟩, fun j x hj => ?_, fun e c hc hp => ?_⟩
    · have : x = z ∨ x ∈ r := by
        rw [e1]
        simp only [List.mem_append, List.mem_cons] at hx ⊢
        rcases hx with h | h | h
        · exact .inr (.inl h)
        · exact .inl h
        · exact .inr (.inr (.inr h))
      rcases this with rfl | q
      · simp
      · exact List.mem_cons_of_mem _ (h.mem x q)
    · simp only [List.mem_append, List.mem_cons] at hq'
      rcases hq' with hq' | rfl | hq'
      · obtain ⟨a, b, c⟩ := p2 q' (by simp [hq'])
        exact ⟨a, b.cons _, c⟩
      · obtain ⟨a, b, c⟩ := p2 q (by simp)
        refine ⟨by simp, b.cons_cons _, ?_⟩
        cases q with
        | nil => exact absurd rfl a
        | cons f q =>
          have : f = y := m3
          subst this
          rw [List.pairwise_cons]
          refine ⟨fun x hx => ?_, c⟩
          rcases List.mem_cons.mp hx with rfl | hx
          · exact h3
          · rw [List.pairwise_cons] at c
            exact Nat.lt_trans h3 (c.1 x hx)
      · obtain ⟨a, b, c⟩ := p2 q' (by simp [hq'])
        exact ⟨a, b.cons _, c⟩
    · simp only [List.map_append, List.map_cons, List.sum_append, List.sum_cons, List.length_cons] at p3 ⊢
      omega
    · rcases Nat.lt_trichotomy j A.length with k | k | k
      · rw [atA j k] at hj
        obtain ⟨c, a, b, d⟩ := h.has j x hj
        exact ⟨c, a.cons _, b, d⟩
      · subst k
        rw [atz] at hj
        cases hj
        exact chain_at (fun j x hj => h.has j x (by rw [e1, List.getElem?_append_left (List.getElem?_eq_some_iff.mp hj).1]; exact hj)) hA
      · rw [atB j k] at hj
        obtain ⟨c, a, b, d⟩ := h.has j x hj
        exact ⟨c, a.cons _, b, d⟩
    · cases hc with
      | cons _ hc =>
        obtain ⟨x, q1, q2⟩ := h.low e c hc hp
        rcases Nat.lt_trichotomy c.length A.length with k | k | k
        · exact ⟨x, by rw [atA _ k]; exact q1, q2⟩
        · rw [k, aty] at q1
          cases q1
          exact ⟨z, by rw [k]; exact atz, by omega⟩
        · exact ⟨x, by rw [atB _ k]; exact q1, q2⟩
      | cons_cons _ hc =>
        cases c with
        | nil =>
          cases A with
          | nil => exact ⟨z, rfl, Nat.le_refl _⟩
          | cons a A => exact ⟨a, rfl, Nat.le_of_lt (hA a (by simp))⟩
        | cons f c =>
          rw [List.pairwise_cons] at hp
          obtain ⟨x, q1, q2⟩ := h.low f c hc hp.2
          have hf : f < z := hp.1 f (by simp)
          have hcA : c.length < A.length := by
            refine Classical.byContradiction fun k => ?_
            have hx : x ∈ y :: B := by
              rw [e1, List.getElem?_append_right (by omega)] at q1
              exact List.mem_of_getElem? q1
            have := hB x hx
            omega
          by_cases k : c.length + 1 < A.length
          · exact ⟨A[c.length + 1], by rw [List.length_cons, List.getElem?_append_left k, List.getElem?_eq_getElem k], Nat.le_of_lt (hA _ (List.getElem_mem k))⟩
          · have : c.length + 1 = A.length := by omega
            exact ⟨z, by rw [List.length_cons, this]; exact atz, Nat.le_refl _⟩
theorem pt_all : ∀ (row pr r : List Nat), Pt pr r → (pr.reverse ++ row).Nodup → Pt (row.reverse ++ pr) (row.foldl pat r)
  | [], pr, r, h, _ => by simpa using h
  | z :: row, pr, r, h, hn => by
    have hz : z ∉ pr := fun q => by
      rw [List.nodup_append] at hn
      exact hn.2.2 z (by simp [q]) z (by simp) rfl
    have := pt_all row (z :: pr) (pat r z) (pt_step h hz) (by simpa using hn)
    simpa using this
end K14
set_option Elab.async false
set_option linter.all false
set_option autoImplicit false
set_option maxRecDepth 100000
set_option maxHeartbeats 1000000
/-! what it costs to put numbers in order -/
namespace K14
open PySem PySem.Spec L2 Mp
open PyProof.Rows hiding St

abbrev fst_ (row : List Nat) : List Nat := row.foldl pat []
theorem pt_row {row : List Nat} (hn : row.Nodup) : Pt row.reverse (fst_ row) := by
  have := pt_all row [] [] pt_nil (by simpa using hn)
  simpa using this
theorem rev_dec {w : List Nat} : w.reverse.Pairwise (· > ·) ↔ w.Pairwise (· < ·) := by rw [List.pairwise_reverse]
theorem rev_inc {w : List Nat} : w.reverse.Pairwise (· < ·) ↔ w.Pairwise (· > ·) := by rw [List.pairwise_reverse]
theorem up_le {row w : List Nat} (hn : row.Nodup) (h1 : w.Sublist row) (h2 : w.Pairwise (· < ·)) : w.length ≤ (fst_ row).length := by
  have P := pt_row hn
  have k1 : w.reverse.Sublist row.reverse := h1.reverse
  have k2 := rev_dec.mpr h2
  cases e : w.reverse with
  | nil =>
    have : w = [] := by simpa using e
    simp [this]
  | cons a c =>
    rw [e] at k1 k2
    obtain ⟨x, q1, _⟩ := P.low a c k1 k2
    have := (List.getElem?_eq_some_iff.mp q1).1
    have hl : w.length = c.length + 1 := by rw [← List.length_reverse, e]; rfl
    omega
theorem up_ex {row : List Nat} (hn : row.Nodup) : ∃ w : List Nat, w.Sublist row ∧ w.Pairwise (· < ·) ∧ w.length = (fst_ row).length := by
  have P := pt_row hn
  by_cases h : (fst_ row).length = 0
  · exact ⟨[], List.nil_sublist _, List.Pairwise.nil, by simp [h]⟩
  · have hl : (fst_ row).length - 1 < (fst_ row).length := by omega
    obtain ⟨c, a, b, d⟩ := P.has _ _ (List.getElem?_eq_getElem hl)
    refine ⟨((fst_ row)[(fst_ row).length - 1] :: c).reverse, ?_, rev_inc.mpr b, by simp [d]; omega⟩
    have := a.reverse
    rwa [List.reverse_reverse] at this
theorem sum_le {qs : List (List Nat)} {k : Nat} (h : ∀ q ∈ qs, q.length ≤ k) : (qs.map List.length).sum ≤ qs.length * k := by
  induction qs with
  | nil => simp
  | cons q qs ih =>
    have := ih fun x hx => h x (by simp [hx])
    have := h q (by simp)
    simp only [List.map_cons, List.sum_cons, List.length_cons, Nat.succ_mul]
    omega
theorem up_down {row : List Nat} (hn : row.Nodup) : row.length ≤ (fst_ row).length * (table row).length := by
  have P := pt_row hn
  obtain ⟨ps, p1, p2, p3⟩ := P.piles
  have e : (fst_ row).length = ps.length := by rw [p1, List.length_map]
  rw [e]
  have := sum_le (qs := ps) (k := (table row).length) fun q hq => by
    obtain ⟨-, b, c⟩ := p2 q hq
    have k1 : q.reverse.Sublist row := by have := b.reverse; rwa [List.reverse_reverse] at this
    have := down_le hn k1 (rev_dec.mpr c)
    simpa using this
  rw [p3, List.length_reverse] at this
  exact this
/-! sublists of a range -/
theorem sub_range : ∀ (n : Nat) (w : List Nat), w.Pairwise (· < ·) → (∀ x ∈ w, x < n) → w.Sublist (List.range n)
  | 0, w, _, h => by
    cases w with
    | nil => exact List.nil_sublist _
    | cons a w => exact absurd (h a (by simp)) (by omega)
  | n + 1, w, h1, h2 => by
    rw [List.range_succ]
    rcases List.eq_nil_or_concat w with rfl | ⟨w', x, rfl⟩
    · exact List.nil_sublist _
    · rw [List.concat_eq_append, List.pairwise_append] at *
      obtain ⟨a, _, c⟩ := h1
      by_cases e : x = n
      · subst e
        refine List.Sublist.append (sub_range x w' a fun y hy => c y hy x (by simp)) (List.Sublist.refl _)
      · refine (sub_range n (w' ++ [x]) ?_ fun y hy => ?_).trans (List.sublist_append_left _ _)
        · rw [List.pairwise_append]; exact ⟨a, by simp, c⟩
        · rcases List.mem_append.mp hy with hy | hy
          · have := c y hy x (by simp)
            have := h2 x (by simp)
            omega
          · have := h2 x (by simp)
            rw [List.mem_singleton.mp hy]; omega
theorem range_inc (n : Nat) : (List.range n).Pairwise (· < ·) := List.pairwise_lt_range
section
variable {o : List Nat} {n : Nat}
theorem perm_len (h : o.Perm (List.range n)) : o.length = n := by rw [h.length_eq, List.length_range]
theorem perm_nd (h : o.Perm (List.range n)) : o.Nodup := h.nodup_iff.mpr List.nodup_range
theorem perm_lt (h : o.Perm (List.range n)) {x : Nat} (hx : x ∈ o) : x < n := List.mem_range.mp (h.mem_iff.mp hx)
/-- in order -/
theorem dist_up (h : o.Perm (List.range n)) : dist o (List.range n) + 2 * (fst_ o).length = 2 * n := by
  obtain ⟨w, h1, h2, h3⟩ := up_ex (perm_nd h)
  have a := dist_le_of h1 (sub_range n w h2 fun x hx => perm_lt h (h1.subset hx))
  obtain ⟨v, k1, k2, k3⟩ := dist_has o (List.range n)
  have b := up_le (perm_nd h) k1 ((range_inc n).sublist k2)
  rw [perm_len h, List.length_range] at a k3
  omega
/-- in the contrary order -/
theorem dist_down (h : o.Perm (List.range n)) : dist o (List.range n).reverse + 2 * (table o).length = 2 * n := by
  obtain ⟨w, h1, h2, h3⟩ := down_ex (perm_nd h)
  have hw : w.Sublist (List.range n).reverse := by
    have : w.reverse.Sublist (List.range n) := sub_range n w.reverse (rev_inc.mpr h2) fun x hx => perm_lt h (h1.subset (by simpa using hx))
    have := this.reverse
    rwa [List.reverse_reverse] at this
  have a := dist_le_of h1 hw
  obtain ⟨v, k1, k2, k3⟩ := dist_has o (List.range n).reverse
  have b := down_le (perm_nd h) k1 ((rev_dec.mpr (range_inc n)).sublist k2)
  rw [perm_len h, List.length_reverse, List.length_range] at a k3
  omega
/-! places -/
/-- where the numbers stand in o -/
def placesIn (o a : List Nat) : List Nat := a.map (o.idxOf ·)
theorem placesIn_self (hn : o.Nodup) : placesIn o o = List.range o.length := by
  unfold placesIn
  apply List.ext_getElem?
  intro i
  rw [List.getElem?_map]
  by_cases hi : i < o.length
  · rw [List.getElem?_eq_getElem hi, List.getElem?_range hi, Option.map_some, hn.idxOf_getElem i hi]
  · rw [List.getElem?_eq_none (by omega), List.getElem?_eq_none (by simp; omega)]; rfl
theorem idx_inj {x y : Nat} (hx : x ∈ o) (hy : y ∈ o) (e : o.idxOf x = o.idxOf y) : x = y := by
  have a := List.getElem_idxOf (List.idxOf_lt_length_of_mem hx)
  have b := List.getElem_idxOf (List.idxOf_lt_length_of_mem hy)
  rw [← a, ← b]
  simp only [e]
theorem places_perm {a : List Nat} (h : o.Perm (List.range n)) (ha : a.Perm (List.range n)) : (placesIn o a).Perm (List.range n) := by
  have p : a.Perm o := ha.trans h.symm
  have := p.map (o.idxOf ·)
  have e := placesIn_self (perm_nd h)
  rw [perm_len h] at e
  rw [← e]
  exact this
/-- from one order to another one -/
theorem dist_places {a : List Nat} (h : o.Perm (List.range n)) (ha : a.Perm (List.range n)) : dist a o = dist (placesIn o a) (List.range n) := by
  have e := placesIn_self (perm_nd h)
  rw [perm_len h] at e
  rw [← e]
  refine (dist_inj fun x hx y hy => ?_).symm
  exact idx_inj (h.mem_iff.mpr (ha.mem_iff.mp hx)) hy
/-- the text of places costs the same -/
theorem dist_turned (h : o.Perm (List.range n)) : dist (placesIn o (List.range n)) (List.range n) = dist o (List.range n) := by
  rw [← dist_places h (List.Perm.refl _), dist_comm]
end
end K14
set_option Elab.async false
set_option linter.all false
set_option autoImplicit false
set_option maxRecDepth 100000
set_option maxHeartbeats 1000000
/-! the told edits lead there -/
namespace K14
open PySem PySem.Spec L2 Mp
open PyProof.Rows hiding St

theorem inv_hold (t : List Nat) : ∀ (es : List Ed) (a now : Nat), Wf t.length a es → hold (now + (weave t a es).length) now a (invs t a now es) = (hold t.length a now es).map fun p => (p.2, p.1)
  | [], a, now, h => by
    simp only [invs, hold, weave, List.map_map, List.length_drop]
    rw [show now + (t.length - a) - now = t.length - a by omega]
    apply List.map_congr_left
    intro i _; rfl
  | (p, g, c) :: r, a, now, ⟨h1, h2, h3⟩ => by
    have ih := inv_hold t r (p + g) (now + (p - a) + c.length) h3
    have hl : (weave t a ((p, g, c) :: r)).length = (p - a) + c.length + (weave t (p + g) r).length := by
      simp [weave]; omega
    have hg : ((t.drop p).take g).length = g := by simp; omega
    simp only [invs, hold, List.map_append, List.map_map]
    rw [hl, hg]
    rw [show now + (p - a + c.length + (weave t (p + g) r).length) = now + (p - a) + c.length + (weave t (p + g) r).length by omega]
    rw [show now + (p - a) - now = p - a by omega]
    rw [show a + (p - a) + g = p + g by omega, ih]
    congr 1
theorem invs_len (t : List Nat) : ∀ {es : List Ed} {a now : Nat}, (invs t a now es).length = es.length
  | [], a, now => rfl
  | (p, g, c) :: r, a, now => by simp [invs, invs_len t (es := r)]
theorem Sg.drop {t : List Nat} (h : Sg t) {n : Nat} : Sg (t.drop n) := fun c hc => h c (List.mem_of_mem_drop hc)
theorem Sg.take {t : List Nat} (h : Sg t) {n : Nat} : Sg (t.take n) := fun c hc => h c (List.mem_of_mem_take hc)
theorem Sg.app {a b : List Nat} (h1 : Sg a) (h2 : Sg b) : Sg (a ++ b) := fun c hc => (List.mem_append.mp hc).elim (h1 c) (h2 c)
theorem Sg.weave {t : List Nat} (h : Sg t) : ∀ {es : List Ed} {a : Nat}, (∀ e ∈ es, Sg e.2.2) → Sg (weave t a es)
  | [], a, _ => h.drop
  | (p, g, c) :: r, a, h2 => by
    have ih := h.weave (es := r) (a := p + g) fun e he => h2 e (by simp [he])
    have hc := h2 (p, g, c) (by simp)
    simp only [K14.weave]
    exact ((h.drop.take).app hc).app ih
theorem grow_weave (t : List Nat) : ∀ (es : List Ed) (a : Nat), Wf t.length a es → ((weave t a es).length : Int) = ((t.length - a : Nat) : Int) + grow es
  | [], a, h => by simp [weave, grow]
  | (p, g, c) :: r, a, ⟨h1, h2, h3⟩ => by
    have ih := grow_weave t r (p + g) h3
    have hl : (weave t a ((p, g, c) :: r)).length = (p - a) + c.length + (weave t (p + g) r).length := by simp [weave]; omega
    have hg : grow ((p, g, c) :: r) = ((c.length : Int) - g) + grow r := by simp [grow]
    omega
theorem grow_inv (t : List Nat) : ∀ (es : List Ed) (a now : Nat), Wf t.length a es → grow (invs t a now es) = - grow es
  | [], a, now, h => by simp [invs, grow]
  | (p, g, c) :: r, a, now, ⟨h1, h2, h3⟩ => by
    have ih := grow_inv t r (p + g) (now + (p - a) + c.length) h3
    have hl : ((t.drop p).take g).length = g := by simp; omega
    have h1 : grow (invs t a now ((p, g, c) :: r)) = ((((t.drop p).take g).length : Int) - c.length) + grow (invs t (p + g) (now + (p - a) + c.length) r) := by simp [invs, grow]
    have h2 : grow ((p, g, c) :: r) = ((c.length : Int) - g) + grow r := by simp [grow]
    omega
theorem inv_each (t : List Nat) (ht : Sg t) : ∀ (es : List Ed) (a now : Nat), Wf t.length a es → ∀ e ∈ invs t a now es, now ≤ e.1 ∧ e.1 + e.2.1 ≤ now + (weave t a es).length ∧ Sg e.2.2 ∧ e.2.2.length ≤ t.length
  | [], a, now, h => by simp [invs]
  | (p, g, c) :: r, a, now, ⟨h1, h2, h3⟩ => by
    intro e he
    have hl : (weave t a ((p, g, c) :: r)).length = (p - a) + c.length + (weave t (p + g) r).length := by simp [weave]; omega
    simp only [invs, List.mem_cons] at he
    rcases he with rfl | he
    · refine ⟨by simp, ?_, ht.drop.take, by simp; omega⟩
      rw [hl]; simp; omega
    · obtain ⟨k1, k2, k3, k4⟩ := inv_each t ht r (p + g) (now + (p - a) + c.length) h3 e he
      exact ⟨by omega, by rw [hl]; omega, k3, k4⟩
theorem inv_sep (t : List Nat) : ∀ (es : List Ed) (a now : Nat), Wf t.length a es → Sep es → Sep (invs t a now es)
  | [], a, now, _, _ => trivial
  | [(p, g, c)], a, now, _, _ => trivial
  | (p, g, c) :: (p', g', c') :: r, a, now, ⟨h1, h2, h3⟩, hs => by
    have ih := inv_sep t ((p', g', c') :: r) (p + g) (now + (p - a) + c.length) h3 hs.2
    have h4 : p + g < p' := hs.1
    exact ⟨by show now + (p - a) + c.length < now + (p - a) + c.length + (p' - (p + g)); omega, ih⟩
theorem inv_ok {t : List Nat} {es : List Ed} (h : OkEs t es) (ht : Sg t) (hl : t.length ≤ 2000) : OkEs (weave t 0 es) (invs t 0 0 es) where
  few := by rw [invs_len]; exact h.few
  each e he := by
    obtain ⟨k1, k2, k3, k4⟩ := inv_each t ht es 0 0 h.wf e he
    exact ⟨by omega, k3, by omega⟩
  sep := inv_sep t es 0 0 h.wf h.sep
  size := by
    have h1 := grow_weave t es 0 h.wf
    have h2 := grow_inv t es 0 0 h.wf
    omega

/-! back -/
theorem inv_weave (t : List Nat) : ∀ (es : List Ed) (a now : Nat) (X : List Nat), Wf t.length a es → X.length = now → weave (X ++ weave t a es) now (invs t a now es) = t.drop a
  | [], a, now, X, h, hX => by simp [invs, weave, ← hX]
  | (p, g, c) :: r, a, now, X, ⟨h1, h2, h3⟩, hX => by
    have l1 : ((t.drop a).take (p - a)).length = p - a := by simp; omega
    have ih := inv_weave t r (p + g) (now + (p - a) + c.length) (X ++ (t.drop a).take (p - a) ++ c) h3 (by simp only [List.length_append, l1, hX])
    simp only [invs, weave]
    have e1 : X ++ ((t.drop a).take (p - a) ++ c ++ weave t (p + g) r) = X ++ (t.drop a).take (p - a) ++ c ++ weave t (p + g) r := by simp
    rw [e1]
    rw [show now + (p - a) + c.length = now + (p - a) + c.length from rfl, ih]
    have e2 : (X ++ (t.drop a).take (p - a) ++ c ++ weave t (p + g) r).drop now = (t.drop a).take (p - a) ++ (c ++ weave t (p + g) r) := by
      rw [← hX]; simp
    rw [e2, show now + (p - a) - now = p - a by omega, List.take_append_of_le_length (by omega), List.take_of_length_le (by omega)]
    have e3 : (t.drop p).take g ++ t.drop (p + g) = t.drop p := by
      rw [← List.drop_drop]; exact List.take_append_drop g _
    have e4 : (t.drop a).take (p - a) ++ t.drop p = t.drop a := by
      have : t.drop p = (t.drop a).drop (p - a) := by rw [List.drop_drop]; congr 1; omega
      rw [this]; exact List.take_append_drop _ _
    rw [List.append_assoc, e3, e4]
theorem inv_back {t : List Nat} {es : List Ed} (h : Wf t.length 0 es) : weave (weave t 0 es) 0 (invs t 0 0 es) = t := by
  have := inv_weave t es 0 0 [] h rfl
  simpa using this
/-! ends that are alike -/
theorem dist_suf1 (a b : List Nat) (c : Nat) : dist (a ++ [c]) (b ++ [c]) = dist a b := by
  refine Nat.le_antisymm (dist_app1 a b c) ?_
  obtain ⟨w, h1, h2, h3⟩ := dist_has (a ++ [c]) (b ++ [c])
  have cut : ∀ {x : List Nat}, w.Sublist (x ++ [c]) → w.dropLast.Sublist x := fun {x} h => by
    obtain ⟨w1, w2, rfl, k1, k2⟩ := List.sublist_append_iff.mp h
    rcases List.eq_nil_or_concat w2 with rfl | ⟨w3, y, rfl⟩
    · rw [List.append_nil]; exact (List.dropLast_sublist w1).trans k1
    · have : w3 = [] := by
        have := k2.length_le
        simp only [List.concat_eq_append, List.length_append, List.length_singleton] at this
        exact List.eq_nil_of_length_eq_zero (by omega)
      subst this
      simpa using k1
  have := dist_le_of (cut h1) (cut h2)
  simp only [List.length_append, List.length_singleton, List.length_dropLast] at *
  omega
theorem dist_suf (a b : List Nat) : ∀ s : List Nat, dist (a ++ s) (b ++ s) = dist a b := by
  have key : ∀ (n : Nat) (s : List Nat), s.length = n → dist (a ++ s) (b ++ s) = dist a b := by
    intro n
    induction n with
    | zero => intro s hs; rw [List.eq_nil_of_length_eq_zero hs]; simp
    | succ n ih =>
      intro s hs
      rcases List.eq_nil_or_concat s with rfl | ⟨s', c, rfl⟩
      · simp
      · rw [List.concat_eq_append] at *
        rw [← List.append_assoc, ← List.append_assoc, dist_suf1]
        exact ih s' (by simpa using hs)
  exact fun s => key _ s rfl
theorem dist_pre (a b : List Nat) : ∀ s : List Nat, dist (s ++ a) (s ++ b) = dist a b
  | [] => rfl
  | x :: s => by rw [List.cons_append, List.cons_append, dist_cons, if_pos rfl, dist_pre a b s]
/-! one step put to the edits -/
def add (es : List Ed) (n g : Nat) (sg : List Nat) : List Ed := match es.getLast? with
  | none => [(n, g, sg)]
  | some (p, q, c) => if p + q = n then es.dropLast ++ [(p, q + g, c ++ sg)] else es ++ [(n, g, sg)]
theorem add_nil {n g : Nat} {sg : List Nat} : add [] n g sg = [(n, g, sg)] := rfl
theorem add_snoc {pre : List Ed} {p q : Nat} {c : List Nat} {n g : Nat} {sg : List Nat} : add (pre ++ [(p, q, c)]) n g sg = if p + q = n then pre ++ [(p, q + g, c ++ sg)] else pre ++ [(p, q, c)] ++ [(n, g, sg)] := by
  unfold add
  rw [List.getLast?_append]
  simp
theorem wf_le {n m : Nat} (h : n ≤ m) : ∀ {es : List Ed} {a : Nat}, Wf n a es → Wf m a es
  | [], a, h1 => Nat.le_trans h1 h
  | (p, g, c) :: r, a, ⟨h1, h2, h3⟩ => ⟨h1, by omega, wf_le h h3⟩
theorem weave_more (s u : List Nat) : ∀ (es : List Ed) (a : Nat), Wf s.length a es → weave (s ++ u) a es = weave s a es ++ u
  | [], a, h => by
    have h : a ≤ s.length := h
    simp only [weave]; rw [List.drop_append_of_le_length h]
  | (p, g, c) :: r, a, ⟨h1, h2, h3⟩ => by
    simp only [weave]
    rw [weave_more s u r (p + g) h3, List.drop_append_of_le_length (by omega), List.take_append_of_le_length (by simp; omega)]
    simp
theorem weave_snoc (s u sg : List Nat) : ∀ (es : List Ed) (a : Nat), Wf s.length a es → weave (s ++ u) a (es ++ [(s.length, u.length, sg)]) = weave s a es ++ sg
  | [], a, h => by
    have h : a ≤ s.length := h
    have k1 : (s ++ u).drop a = s.drop a ++ u := List.drop_append_of_le_length h
    have k2 : (s.drop a ++ u).take (s.length - a) = s.drop a := by
      have : s.length - a = (s.drop a).length := by simp
      rw [this]; exact List.take_left' rfl
    have k3 : (s ++ u).drop (s.length + u.length) = [] := List.drop_of_length_le (by simp)
    simp only [List.nil_append, weave]
    rw [k1, k2, k3, List.append_nil]
  | (p, g, c) :: r, a, ⟨h1, h2, h3⟩ => by
    simp only [List.cons_append, weave]
    rw [weave_snoc s u sg r (p + g) h3, List.drop_append_of_le_length (by omega), List.take_append_of_le_length (by simp; omega)]
    simp
theorem weave_last (s u sg c : List Nat) (p q : Nat) (hpq : p + q = s.length) : ∀ (es : List Ed) (a : Nat), Wf s.length a (es ++ [(p, q, c)]) → weave (s ++ u) a (es ++ [(p, q + u.length, c ++ sg)]) = weave s a (es ++ [(p, q, c)]) ++ sg
  | [], a, h => by
    obtain ⟨h1, h2, h3⟩ := h
    have k1 : (s ++ u).drop a = s.drop a ++ u := List.drop_append_of_le_length (by omega)
    have k2 : (s.drop a ++ u).take (p - a) = (s.drop a).take (p - a) := List.take_append_of_le_length (by rw [List.length_drop]; omega)
    have k3 : (s ++ u).drop (p + (q + u.length)) = [] := List.drop_of_length_le (by rw [List.length_append]; omega)
    have k4 : s.drop (p + q) = [] := List.drop_of_length_le (by omega)
    simp only [List.nil_append, weave]
    rw [k1, k2, k3, k4]
    simp
  | (p', g, c') :: r, a, ⟨h1, h2, h3⟩ => by
    simp only [List.cons_append, weave]
    rw [weave_last s u sg c p q hpq r (p' + g) h3, List.drop_append_of_le_length (by omega), List.take_append_of_le_length (by simp; omega)]
    simp
theorem wf_snoc {n g : Nat} {sg : List Nat} : ∀ {es : List Ed} {a : Nat}, Wf n a es → Wf (n + g) a (es ++ [(n, g, sg)])
  | [], a, h => ⟨h, Nat.le_refl _, Nat.le_refl _⟩
  | (p, g', c) :: r, a, ⟨h1, h2, h3⟩ => ⟨h1, by omega, wf_snoc h3⟩
theorem wf_last {n g p q : Nat} {c c' : List Nat} (hpq : p + q = n) : ∀ {es : List Ed} {a : Nat}, Wf n a (es ++ [(p, q, c)]) → Wf (n + g) a (es ++ [(p, q + g, c')])
  | [], a, ⟨h1, h2, h3⟩ => ⟨h1, by omega, by show p + (q + g) ≤ n + g; omega⟩
  | (p', g', c'') :: r, a, ⟨h1, h2, h3⟩ => ⟨h1, by omega, wf_last hpq h3⟩
theorem wf_end {n p q : Nat} {c : List Nat} : ∀ {es : List Ed} {a : Nat}, Wf n a (es ++ [(p, q, c)]) → p + q ≤ n
  | [], a, ⟨h1, h2, h3⟩ => h2
  | _ :: r, a, ⟨h1, h2, h3⟩ => wf_end h3
theorem sep_snoc {n g p q : Nat} {c sg : List Nat} (h : p + q < n) : ∀ {es : List Ed}, Sep (es ++ [(p, q, c)]) → Sep (es ++ [(p, q, c)] ++ [(n, g, sg)])
  | [], _ => ⟨h, trivial⟩
  | [e], hs => ⟨hs.1, h, trivial⟩
  | e :: f :: r, hs => ⟨hs.1, sep_snoc h (es := f :: r) hs.2⟩
theorem sep_last {p q q' : Nat} {c c' : List Nat} : ∀ {es : List Ed}, Sep (es ++ [(p, q, c)]) → Sep (es ++ [(p, q', c')])
  | [], _ => trivial
  | [e], hs => ⟨hs.1, trivial⟩
  | e :: f :: r, hs => ⟨hs.1, sep_last (es := f :: r) hs.2⟩
/-- up to place n the edits es make w -/
structure Ad (T : List Nat) (n : Nat) (w : List Nat) (es : List Ed) : Prop where
  le : n ≤ T.length
  wf : Wf n 0 es
  sep : Sep es
  out : weave (T.take n) 0 es = w
  sg : ∀ e ∈ es, Sg e.2.2
theorem take_more {T : List Nat} {n g : Nat} : T.take (n + g) = T.take n ++ (T.drop n).take g := List.take_add ..
theorem Ad.go {T w : List Nat} {n g : Nat} {es : List Ed} (h : Ad T n w es) (hg : n + g ≤ T.length) : Ad T (n + g) (w ++ (T.drop n).take g) es := by
  have l : (T.take n).length = n := by simp [h.le]
  refine ⟨hg, wf_le (by omega) h.wf, h.sep, ?_, h.sg⟩
  rw [take_more, weave_more _ _ _ _ (by rw [l]; exact h.wf), h.out]
theorem Ad.step {T w sg : List Nat} {n g : Nat} {es : List Ed} (h : Ad T n w es) (hg : n + g ≤ T.length) (hs : Sg sg) : Ad T (n + g) (w ++ sg) (add es n g sg) := by
  have l : (T.take n).length = n := by simp [h.le]
  have lu : ((T.drop n).take g).length = g := by simp; omega
  have hwf : Wf (T.take n).length 0 es := by rw [l]; exact h.wf
  rcases List.eq_nil_or_concat es with rfl | ⟨pre, ⟨p, q, c⟩, rfl⟩
  · rw [add_nil]
    refine ⟨hg, ⟨Nat.zero_le _, by omega, by show n + g ≤ n + g; omega⟩, trivial, ?_, fun e he => by rw [List.mem_singleton.mp he]; exact hs⟩
    have := weave_snoc (T.take n) ((T.drop n).take g) sg [] 0 hwf
    rw [l, lu, ← take_more, h.out] at this
    exact this
  · rw [List.concat_eq_append] at *
    rw [add_snoc]
    have hend := wf_end h.wf
    split
    · rename_i e
      refine ⟨hg, wf_last e h.wf, sep_last h.sep, ?_, fun x hx => ?_⟩
      · have := weave_last (T.take n) ((T.drop n).take g) sg c p q (by rw [l]; exact e) pre 0 hwf
        rw [lu, ← take_more, h.out] at this
        exact this
      · rcases List.mem_append.mp hx with hx | hx
        · exact h.sg x (by simp [hx])
        · rw [List.mem_singleton.mp hx]
          exact (h.sg (p, q, c) (by simp)).app hs
    · rename_i e
      refine ⟨hg, wf_snoc h.wf, sep_snoc (by omega) h.sep, ?_, fun x hx => ?_⟩
      · have := weave_snoc (T.take n) ((T.drop n).take g) sg _ 0 hwf
        rw [l, lu, ← take_more, h.out] at this
        exact this
      · rcases List.mem_append.mp hx with hx | hx
        · exact h.sg x hx
        · rw [List.mem_singleton.mp hx]; exact hs
def addStep (b : List Nat) (more : Nat) (es : List Ed) (s : Stp) : List Ed := add es (s.1 + more) (if s.2.2 then 1 else 0) (if s.2.2 then [] else (b.drop s.2.1).take 1)
theorem steps_ad {T B P : List Nat} {more : Nat} (hB : Sg B) : ∀ (N h t : Nat) (a b : List Nat) (es : List Ed), a.length + b.length ≤ N → (T.drop (h + more)).take a.length = a → h + more + a.length ≤ T.length → B.drop t = b → t + b.length = B.length →
    Ad T (h + more) (P ++ B.take t) es → Ad T (h + more + a.length) (P ++ B) ((stepsF h t a b).foldl (addStep B more) es) := by
  intro N
  induction N with
  | zero =>
    intro h t a b es hN ha hl hb hbl hA
    have ea : a = [] := List.eq_nil_of_length_eq_zero (by omega)
    have eb : b = [] := List.eq_nil_of_length_eq_zero (by omega)
    subst ea eb
    rw [stepsF]
    have : B.take t = B := List.take_of_length_le (by simp at hbl; omega)
    rw [this] at hA
    simpa using hA
  | succ N ih =>
    intro h t a b es hN ha hl hb hbl hA
    -- what an insertion does
    have insr : ∀ (y : Nat) (b' : List Nat), b = y :: b' → B.drop (t + 1) = b' ∧ t + 1 + b'.length = B.length ∧ B.take (t + 1) = B.take t ++ [y] ∧ (B.drop t).take 1 = [y] ∧ Sg [y] := by
      intro y b' e
      rw [e] at hb hbl
      have h1 : (B.drop t).take 1 = [y] := by rw [hb]; rfl
      refine ⟨by rw [← List.drop_drop, hb]; rfl, by simp at hbl; omega, by rw [List.take_add, h1], h1, ?_⟩
      intro c hc
      rw [List.mem_singleton.mp hc]
      exact hB y (List.mem_of_mem_drop (by rw [hb]; simp))
    have delr : ∀ (x : Nat) (a' : List Nat), a = x :: a' → (T.drop (h + 1 + more)).take a'.length = a' ∧ h + 1 + more + a'.length = h + more + a.length ∧ (T.drop (h + more)).take 1 = [x] := by
      intro x a' e
      rw [e] at ha hl
      refine ⟨?_, by rw [e]; simp; omega, ?_⟩
      · have : T.drop (h + 1 + more) = (T.drop (h + more)).drop 1 := by rw [List.drop_drop]; congr 1; omega
        rw [this]
        have h2 := congrArg (List.drop 1) ha
        rw [List.drop_take] at h2
        simpa using h2
      · have h2 := congrArg (List.take 1) ha
        rw [List.take_take] at h2
        simpa using h2
    cases a with
    | nil => cases b with
      | nil =>
        rw [stepsF]
        have : B.take t = B := List.take_of_length_le (by simp at hbl; omega)
        rw [this] at hA
        simpa using hA
      | cons y b =>
        obtain ⟨i1, i2, i3, i4, i5⟩ := insr y b rfl
        rw [stepsF, List.foldl_cons]
        refine ih h (t + 1) [] b _ (by simp at hN ⊢; omega) (by simp) hl i1 i2 ?_
        have := hA.step (g := 0) (sg := [y]) (by simp at hl; omega) i5
        rw [i3, ← List.append_assoc]
        simpa [addStep, i4] using this
    | cons x a => cases b with
      | nil =>
        obtain ⟨d1, d2, d3⟩ := delr x a rfl
        rw [stepsF, List.foldl_cons, ← d2]
        refine ih (h + 1) t a [] _ (by simp at hN ⊢; omega) d1 (by omega) hb hbl ?_
        have := hA.step (g := 1) (sg := []) (by simp at hl; omega) (by intro c hc; simp at hc)
        rw [show h + 1 + more = h + more + 1 by omega]
        simpa [addStep] using this
      | cons y b =>
        obtain ⟨i1, i2, i3, i4, i5⟩ := insr y b rfl
        obtain ⟨d1, d2, d3⟩ := delr x a rfl
        rw [stepsF]
        split
        · rename_i e
          rw [← d2]
          refine ih (h + 1) (t + 1) a b _ (by simp at hN ⊢; omega) d1 (by omega) i1 i2 ?_
          have := hA.go (g := 1) (by simp at hl; omega)
          rw [d3] at this
          rw [show h + 1 + more = h + more + 1 by omega, i3, ← e, ← List.append_assoc]
          exact this
        · split
          · rw [List.foldl_cons, ← d2]
            refine ih (h + 1) t a (y :: b) _ (by simp at hN ⊢; omega) d1 (by omega) hb hbl ?_
            have := hA.step (g := 1) (sg := []) (by simp at hl; omega) (by intro c hc; simp at hc)
            rw [show h + 1 + more = h + more + 1 by omega]
            simpa [addStep] using this
          · rw [List.foldl_cons]
            refine ih h (t + 1) (x :: a) b _ (by simp at hN ⊢; omega) ha hl i1 i2 ?_
            have := hA.step (g := 0) (sg := [y]) (by simp at hl; omega) i5
            rw [i3, ← List.append_assoc]
            simpa [addStep, i4] using this
end K14
set_option Elab.async false
set_option linter.all false
set_option autoImplicit false
set_option maxRecDepth 100000
set_option maxHeartbeats 2000000
/-! the told edits, run -/
namespace K14
open PySem PySem.Spec L2 Mp
open PyProof.Rows hiding St

theorem bEb_ad {cl : Nat → List D → Hs → Rs} {v0 : D} {b : List Nat} {more : Nat} {G : Hs} {es : List Ed} {h t : Nat} {g : Bool} {o7 o8 o9 o10 : Option D} (hb : b.length ≤ 4000) (ht : g = false → t < b.length) (hc : costOf es ≤ 9000) (hl : es.length ≤ 9000) :
    ∃ u7 u8 u9 u10, costOf (addStep b more es (h, t, g)) = costOf es + 1 ∧ (addStep b more es (h, t, g)).length ≤ es.length + 1 ∧
    evS cl bEb [some v0, some (.str b), some (.int more), some (.ref G.length), some (.int h), some (.int t), some (.bl g), o7, o8, o9, o10] (G ++ [.lst (es.map eD)]) =
      some (.nx [some v0, some (.str b), some (.int more), some (.ref G.length), some (.int h), some (.int t), some (.bl g), u7, u8, u9, u10] (G ++ [.lst ((addStep b more es (h, t, g)).map eD)])) := by
  have f1 : b.length ≤ 16777216 := by omega
  have hlen : (es.map eD).length < 16777216 := by simp; omega
  have has : ∀ es0 : List Ed, addStep b more es0 (h, t, g) = add es0 (h + more) (if g then 1 else 0) (if g then [] else (b.drop t).take 1) := fun _ => rfl
  obtain ⟨sg, hsd, hsl, hsg⟩ : ∃ sg : List Nat, (if g then [] else (b.drop t).take 1) = sg ∧ sg.length = (if g then 0 else 1) ∧ ∀ (x7 x8 x9 : Option D) (G' : Hs), (ev cl (E.ite (E.v 6) (E.k (D.str [])) (E.idx (E.v 1) (E.v 5)))).1 [some v0, some (.str b), some (.int more), some (.ref G.length), some (.int h), some (.int t), some (.bl g), x7, x8, x9, o10] G' = some (.str sg, G') := by
    cases g with
    | true => exact ⟨[], rfl, rfl, fun x7 x8 x9 G' => by simp⟩
    | false => exact ⟨[b[t]'(ht rfl)], by rw [List.drop_eq_getElem_cons (ht rfl)]; rfl, rfl, fun x7 x8 x9 G' => by simp [sz, f1, atS (ht rfl)]⟩
  rw [has, hsd]
  have gb : ∀ (x7 x8 x9 x10 : Option D) (G' : Hs), (ev cl (E.ite (E.v 6) (E.k (D.int 1)) (E.k (D.int 0)))).1 [some v0, some (.str b), some (.int more), some (.ref G.length), some (.int h), some (.int t), some (.bl g), x7, x8, x9, x10] G' = some (.int (if g then 1 else 0), G') := by
    intro x7 x8 x9 x10 G'; cases g <;> simp
  have hap : ∀ (x7 x8 x9 : Option D), evS cl (S.seq (S.drop (E.mth Mth.append (E.v 3) (E.cons (E.tup (E.cons (E.bin Bop.add (E.v 4) (E.v 2)) (E.cons (E.ite (E.v 6) (E.k (D.int 1)) (E.k (D.int 0))) (E.cons (E.v 10) E.nil)))) E.nil))) S.skip)
      [some v0, some (.str b), some (.int more), some (.ref G.length), some (.int h), some (.int t), some (.bl g), x7, x8, x9, some (.str sg)] (G ++ [.lst (es.map eD)]) =
      some (.nx [some v0, some (.str b), some (.int more), some (.ref G.length), some (.int h), some (.int t), some (.bl g), x7, x8, x9, some (.str sg)] (G ++ [.lst ((es ++ [(h + more, if g then 1 else 0, sg)]).map eD)])) := by
    intro x7 x8 x9
    rw [drop_s (d := .non) (G1 := G ++ [.lst ((es ++ [(h + more, if g then 1 else 0, sg)]).map eD)])]
    · rfl
    · rw [ev_mth1, ev_v1]
      simp only [List.getElem?_cons_succ, List.getElem?_cons_zero, Option.bind_some, bnd_s]
      rw [show Mth.append.ty = .list from rfl, ref_ty at_new, if_pos rfl]
      simp only [ev_cons1, ev_tup1, gb, ev_bin1, ev_v1, ev_nil1, List.getElem?_cons_succ, List.getElem?_cons_zero, Option.bind_some, bnd_s, consK_s, argK_s, bin_addi, tupK_s]
      rw [if_pos (by rw [sz]; simp), bnd_s, bnd_s, argK_s, List.map_append]
      have : eD (h + more, if g then 1 else 0, sg) = .tup [.int ((h : Int) + more), .int (if g then 1 else 0), .str sg] := by
        cases g <;> rfl
      rw [List.map_cons, this]
      exact app_new hlen
  rcases List.eq_nil_or_concat es with rfl | ⟨pre, ⟨p, q, c⟩, rfl⟩
  · rw [add_nil]
    refine ⟨some (.int 0), some (.int (-1)), some (.str []), some (.str sg), ?_, by simp, ?_⟩
    · rw [costOf_one, hsl]; cases g <;> rfl
    · have e1 : (ev cl (E.ite (E.cmp Cop.gt (E.blt Blt.len (E.cons (E.v 3) E.nil)) (E.k (D.int 0))) (E.idx (E.v 3) (E.neg (E.k (D.int 1)))) (E.tup (E.cons (E.k (D.int 0)) (E.cons (E.neg (E.k (D.int 1))) (E.cons (E.k (D.str [])) E.nil)))))).1
          [some v0, some (.str b), some (.int more), some (.ref G.length), some (.int h), some (.int t), some (.bl g), o7, o8, o9, o10] (G ++ [.lst (([] : List Ed).map eD)]) = some (.tup [.int 0, .int (-1), .str []], G ++ [.lst (([] : List Ed).map eD)]) := by
        simp only [List.map_nil]
        simp [len_r at_new, negD, sz]
      rw [tgt_s e1 (ς' := [some v0, some (.str b), some (.int more), some (.ref G.length), some (.int h), some (.int t), some (.bl g), some (.int 0), some (.int (-1)), some (.str []), o10]) (by simp)]
      rw [set_s (hsg _ _ _ _)]
      simp only [List.set_cons_succ, List.set_cons_zero]
      rw [seq_ife_ff (G1 := G ++ [.lst (([] : List Ed).map eD)]) (by simp), evS_seq, hap]
      rfl
  · rw [List.concat_eq_append] at *
    rw [add_snoc]
    have e1 : (ev cl (E.ite (E.cmp Cop.gt (E.blt Blt.len (E.cons (E.v 3) E.nil)) (E.k (D.int 0))) (E.idx (E.v 3) (E.neg (E.k (D.int 1)))) (E.tup (E.cons (E.k (D.int 0)) (E.cons (E.neg (E.k (D.int 1))) (E.cons (E.k (D.str [])) E.nil)))))).1
          [some v0, some (.str b), some (.int more), some (.ref G.length), some (.int h), some (.int t), some (.bl g), o7, o8, o9, o10] (G ++ [.lst ((pre ++ [(p, q, c)]).map eD)]) = some (eD (p, q, c), G ++ [.lst ((pre ++ [(p, q, c)]).map eD)]) := by
      have a1 : atI ((pre ++ [(p, q, c)]).map eD) (-1) = some (eD (p, q, c)) := by rw [List.map_append]; exact L2.atI_last _ _
      have a2 : (0 : Int) < ((pre ++ [(p, q, c)]).map eD).length := by simp
      generalize (pre ++ [(p, q, c)]).map eD = ds at *
      rw [ev_ite1, ev_cmp2]
      simp only [ev_blt1, ev_cons1, ev_v1, ev_nil1, ev_k1, ev_idx1, ev_neg1, List.getElem?_cons_succ, List.getElem?_cons_zero, Option.bind_some, bnd_s, consK_s, argK_s, blt_len, one_s, len_r at_new, cmpD_s, cmp_gtI, Option.map_some, blB_b]
      rw [decide_eq_true a2, if_pos rfl]
      simp only [negD, bnd_s, idx_r at_new, a1, Option.map_some]
    have hq : costOf (pre ++ [(p, q, c)]) = costOf pre + (q + c.length) := by rw [costOf_app, costOf_one]
    by_cases hp : p + q = h + more
    · rw [if_pos hp]
      refine ⟨some (.int p), some (.int q), some (.str c), some (.str sg), ?_, by simp, ?_⟩
      · rw [costOf_app, costOf_one, hq, List.length_append, hsl]; cases g <;> simp <;> omega
      · rw [tgt_s e1 (ς' := [some v0, some (.str b), some (.int more), some (.ref G.length), some (.int h), some (.int t), some (.bl g), some (.int p), some (.int q), some (.str c), o10]) (by simp [eD, dE])]
        rw [set_s (hsg _ _ _ _)]
        simp only [List.set_cons_succ, List.set_cons_zero]
        have hp' : (p : Int) + q = (h : Int) + more := by omega
        rw [seq_ife_tt (G1 := G ++ [.lst ((pre ++ [(p, q, c)]).map eD)]) (by simp [hp'])]
        have hcs : c.length + sg.length ≤ 16777216 := by rw [hsl]; split <;> omega
        have y : (ev cl (E.tup (E.cons (E.v 7) (E.cons (E.bin Bop.add (E.v 8) (E.ite (E.v 6) (E.k (D.int 1)) (E.k (D.int 0)))) (E.cons (E.bin Bop.add (E.v 9) (E.v 10)) E.nil))))).1 [some v0, some (.str b), some (.int more), some (.ref G.length), some (.int h), some (.int t), some (.bl g), some (.int p), some (.int q), some (.str c), some (.str sg)] (G ++ [.lst ((pre ++ [(p, q, c)]).map eD)]) =
            some (eD (p, q + (if g then 1 else 0), c ++ sg), G ++ [.lst ((pre ++ [(p, q, c)]).map eD)]) := by
          simp only [ev_tup1, ev_cons1, ev_bin1, gb, ev_v1, ev_nil1, List.getElem?_cons_succ, List.getElem?_cons_zero, Option.bind_some, bnd_s, consK_s, argK_s, bin_addi, bin_adds, tupK_s, sz, hcs, if_true]
          rw [if_pos (by simp)]
          cases g <;> rfl
        rw [evS_seq, evS_seq, evS_setIx, y, bnd_s, ev_v1]
        simp only [List.getElem?_cons_succ, List.getElem?_cons_zero, Option.bind_some, bnd_s, ev_neg1, ev_k1, negD]
        rw [setK_last (ds := pre.map eD) (x := eD (p, q, c)) (by rw [at_new]; simp), Option.bind_some, set_new]
        simp
    · rw [if_neg hp]
      refine ⟨some (.int p), some (.int q), some (.str c), some (.str sg), ?_, by simp, ?_⟩
      · rw [costOf_app, costOf_one, hsl]; cases g <;> simp
      · rw [tgt_s e1 (ς' := [some v0, some (.str b), some (.int more), some (.ref G.length), some (.int h), some (.int t), some (.bl g), some (.int p), some (.int q), some (.str c), o10]) (by simp [eD, dE])]
        rw [set_s (hsg _ _ _ _)]
        simp only [List.set_cons_succ, List.set_cons_zero]
        have hp' : ¬ (p : Int) + q = (h : Int) + more := by omega
        rw [seq_ife_ff (G1 := G ++ [.lst ((pre ++ [(p, q, c)]).map eD)]) (by simp [hp']), evS_seq, hap]
        rfl
theorem for_ad {cl : Nat → List D → Hs → Rs} {v0 : D} {b : List Nat} {more : Nat} {G : Hs} (hb : b.length ≤ 4000) : ∀ (st : List Stp) (es : List Ed) (o4 o5 o6 o7 o8 o9 o10 : Option D), (∀ s ∈ st, s.2.2 = false → s.2.1 < b.length) → costOf es + st.length ≤ 9000 → es.length + st.length ≤ 9000 →
    ∃ ς', costOf (st.foldl (addStep b more) es) = costOf es + st.length ∧ (st.foldl (addStep b more) es).length ≤ es.length + st.length ∧ ς'[3]? = some (some (D.ref G.length)) ∧ 
    loopF (Tg.tp (Tg.cons (Tg.nm 4) (Tg.cons (Tg.nm 5) (Tg.cons (Tg.nm 6) Tg.nil)))) (evS cl bEb) (st.map stD) [some v0, some (.str b), some (.int more), some (.ref G.length), o4, o5, o6, o7, o8, o9, o10] (G ++ [.lst (es.map eD)]) = some (.nx ς' (G ++ [.lst ((st.foldl (addStep b more) es).map eD)]))
  | [], es, o4, o5, o6, o7, o8, o9, o10, _, _, _ => ⟨_, rfl, Nat.le_refl _, rfl, rfl⟩
  | (h, t, g) :: st, es, o4, o5, o6, o7, o8, o9, o10, h1, h2, h3 => by
    simp only [List.length_cons] at h2 h3
    obtain ⟨u7, u8, u9, u10, c1, c2, e⟩ := bEb_ad (cl := cl) (v0 := v0) (more := more) (G := G) (es := es) (h := h) (t := t) (g := g) (o7 := o7) (o8 := o8) (o9 := o9) (o10 := o10) hb (h1 (h, t, g) (by simp)) (by omega) (by omega)
    obtain ⟨ς', d1, d2, d3, ih⟩ := for_ad (cl := cl) (v0 := v0) (more := more) (G := G) hb st (addStep b more es (h, t, g)) (some (.int h)) (some (.int t)) (some (.bl g)) u7 u8 u9 u10 (fun s hs => h1 s (by simp [hs])) (by omega) (by omega)
    rw [List.foldl_cons]
    refine ⟨ς', by simp only [List.length_cons]; omega, by simp only [List.length_cons]; omega, d3, ?_⟩
    simp only [List.map_cons, loopF]
    have bb : bindL (Tg.tp (Tg.cons (Tg.nm 4) (Tg.cons (Tg.nm 5) (Tg.cons (Tg.nm 6) Tg.nil)))) [stD (h, t, g)] [some v0, some (.str b), some (.int more), some (.ref G.length), o4, o5, o6, o7, o8, o9, o10] = some [some v0, some (.str b), some (.int more), some (.ref G.length), some (.int h), some (.int t), some (.bl g), o7, o8, o9, o10] := by
      simp [stD]
    rw [bb, Option.bind_some, e, Option.bind_some]
    exact ih
theorem edits_by_ad {m : Nat} (hm : 1 ≤ m) {G : Hs} {st : List Stp} {b : List Nat} {more : Nat} (hb : b.length ≤ 4000) (h1 : ∀ s ∈ st, s.2.2 = false → s.2.1 < b.length) (h2 : st.length ≤ 9000) :
    ∃ l, costOf (st.foldl (addStep b more) []) = st.length ∧ (st.foldl (addStep b more) []).length ≤ st.length ∧ F m 32 [.lst (st.map stD), .str b, .int more] G = some (esD (st.foldl (addStep b more) []), G ++ l) := by
  obtain ⟨ς', d1, d2, d3, hr⟩ := for_ad (cl := F (m - 1)) (v0 := .lst (st.map stD)) (more := more) (G := G) hb st [] none none none none none none none h1 (by simp [costOf]; omega) (by simp; omega)
  refine ⟨[.lst ((st.foldl (addStep b more) []).map eD)], by rw [d1]; simp [costOf], by simpa using d2, run_ t32 rfl (by omega) ?_⟩
  show (evS (F (m - 1)) b32 [some (.lst (st.map stD)), some (.str b), some (.int more), none, none, none, none, none, none, none, none] G).bind outD = _
  unfold b32
  rw [set_s (d := .ref G.length) (G1 := G ++ [.lst []]) (by simp [sz])]
  simp only [List.set_cons_succ, List.set_cons_zero]
  rw [for_nx (ds := st.map stD) (G1 := G ++ [.lst []]) (by simp) hr]
  refine seq_ret ?_
  simp only [ev_blt1, ev_cons1, ev_nil1, ev_v1, d3, Option.bind_some, bnd_s, consK_s, argK_s, blt_tuple, one_s, tup_r at_new]
  rfl

theorem sub_sum_cost {es : List Ed} {x : Ed} (hx : x ∈ es) : x.2.1 + x.2.2.length ≤ costOf es := le_sum (List.mem_map.mpr ⟨x, hx, rfl⟩)
/-- the told edits -/
structure Told (a b : List Nat) (es : List Ed) : Prop where
  ok : OkEs a es
  out : weave a 0 es = b
  cost : costOf es = dist a b
theorem least_edits_run {m : Nat} (hm : 4 ≤ m) {G : Hs} {a b : List Nat} (ha : a.length ≤ 90) (hb : b.length ≤ 90) (hs : Sg b) : ∃ es l, F m 34 [.str a, .str b] G = some (esD es, G ++ l) ∧ Told a b es := by
  obtain ⟨k, l, h1, h2, h3, h4, e⟩ := middle_of_run (m := m - 1) (by omega) (G := G) (a := a) (b := b) (by omega) (by omega)
  have l1 : ((a.drop k).take (a.length - k - l)).length = a.length - k - l := by rw [List.length_take, List.length_drop]; omega
  have l2 : ((b.drop k).take (b.length - l - k)).length = b.length - l - k := by rw [List.length_take, List.length_drop]; omega
  have hsB : Sg ((b.drop k).take (b.length - l - k)) := hs.drop.take
  -- a and b in three parts
  have pa : a = a.take k ++ ((a.drop k).take (a.length - k - l) ++ a.drop (a.length - l)) := by
    have : a.drop (a.length - l) = (a.drop k).drop (a.length - k - l) := by rw [List.drop_drop]; congr 1; omega
    rw [this, List.take_append_drop, List.take_append_drop]
  have pb : b = a.take k ++ ((b.drop k).take (b.length - l - k) ++ a.drop (a.length - l)) := by
    have : b.drop (b.length - l) = (b.drop k).drop (b.length - l - k) := by rw [List.drop_drop]; congr 1; omega
    rw [h4, h3, this, List.take_append_drop, List.take_append_drop]
  have hdist : dist a b = dist ((a.drop k).take (a.length - k - l)) ((b.drop k).take (b.length - l - k)) := by
    conv => lhs; rw [pa, pb]
    rw [dist_pre, dist_suf]
  have tk : (a.drop k).take ((a.drop k).take (a.length - k - l)).length = (a.drop k).take (a.length - k - l) := by rw [l1]
  generalize (a.drop k).take (a.length - k - l) = A at *
  generalize (b.drop k).take (b.length - l - k) = B at *
  obtain ⟨g1, e1⟩ := steps_of_run (m := m - 1) (by omega) (G := G) (a := A) (b := B) (by omega) (by omega)
  have hd : (stepsF 0 0 A B).length = dist A B := stepsF_len _ 0 0 A B (Nat.le_refl _)
  have hdl : dist A B ≤ 180 := by have := dist_le _ A B (Nat.le_refl _); omega
  obtain ⟨g2, c1, c2, e2⟩ := edits_by_ad (m := m - 1) (by omega) (G := G ++ g1) (st := stepsF 0 0 A B) (b := B) (more := k) (by omega) (fun s hs q => by simpa using stepsF_in _ 0 0 A B (Nat.le_refl _) s hs q) (by omega)
  have ad := steps_ad (T := a) (B := B) (P := a.take k) (more := k) hsB _ 0 0 A B [] (Nat.le_refl _) (by rw [Nat.zero_add]; exact tk) (by omega) rfl (by omega)
    ⟨by omega, Nat.zero_le _, trivial, by simp [weave], fun e he => by simp at he⟩
  generalize (stepsF 0 0 A B).foldl (addStep B k) [] = es at *
  refine ⟨es, g1 ++ g2, run_ t34 rfl (by omega) ?_, ?_⟩
  · have few : ¬ (200 : Int) < es.length := by omega
    simp only [esD] at e2 ⊢
    simp [b34, e, e1, e2, few]
  · have hn : 0 + k + A.length = a.length - l := by omega
    rw [hn] at ad
    have out : weave a 0 es = b := by
      have := weave_more (a.take (a.length - l)) (a.drop (a.length - l)) es 0 (by rw [List.length_take, Nat.min_eq_left (by omega)]; exact ad.wf)
      rw [List.take_append_drop, ad.out] at this
      rw [this, pb]
      simp
    have wf : Wf a.length 0 es := wf_le (by omega) ad.wf
    have cst : costOf es = dist a b := by omega
    refine ⟨⟨by omega, fun x hx => ?_, ad.sep, ?_⟩, out, cst⟩
    · have z := sub_sum_cost hx
      have hend : x.1 + x.2.1 ≤ a.length := by
        clear out ad e2 e1 e pa pb c1 c2
        have key : ∀ (es : List Ed) (q : Nat), Wf a.length q es → ∀ x ∈ es, x.1 + x.2.1 ≤ a.length := by
          intro es
          induction es with
          | nil => intro q _ x hx; simp at hx
          | cons y r ih =>
            intro q ⟨w1, w2, w3⟩ x hx
            rcases List.mem_cons.mp hx with rfl | hx
            · exact w2
            · exact ih _ w3 x hx
        exact key es 0 wf x hx
      exact ⟨hend, ad.sg x hx, by omega⟩
    · have := grow_weave a es 0 wf
      rw [out] at this
      omega
theorem least_cost_run2 {m : Nat} (hm : 5 ≤ m) {G : Hs} {a b : List Nat} (ha : a.length ≤ 90) (hb : b.length ≤ 90) (hs : Sg b) : ∃ l, F m 35 [.str a, .str b] G = some (.int (dist a b : Nat), G ++ l) := by
  obtain ⟨es, l, e, told⟩ := least_edits_run (m := m - 1) (by omega) (G := G) ha hb hs
  have hd : dist a b ≤ 180 := by have := dist_le _ a b (Nat.le_refl _); omega
  have e3 := cost_of_run (m := m - 1) (by omega) (G := G ++ l) (es := es) (fun x hx => by have := sub_sum_cost hx; rw [told.cost] at this; omega) (by have := told.ok.few; omega)
  refine ⟨l, run_ t35 rfl (by omega) ?_⟩
  rw [← told.cost]
  simp only [esD] at e e3
  simp [b35, e, e3]
end K14
set_option Elab.async false
set_option linter.all false
set_option autoImplicit false
set_option maxRecDepth 100000
set_option maxHeartbeats 1000000
/-! how far so many signs lead, line by line (plain) -/
namespace K14
open PySem PySem.Spec L2 Mp
open PyProof.Rows hiding St

def cp : List Nat → List Nat → Nat
  | x :: a, y :: b => if x = y then 1 + cp a b else 0
  | _, _ => 0
theorem cp_nil (b : List Nat) : cp [] b = 0 := by rw [cp]; simp
theorem cp_nil2 (a : List Nat) : cp a [] = 0 := by cases a <;> (rw [cp]; simp)
theorem cp_cons (x y : Nat) (a b : List Nat) : cp (x :: a) (y :: b) = if x = y then 1 + cp a b else 0 := by rw [cp]
theorem cp_facts : ∀ a b : List Nat, cp a b ≤ a.length ∧ cp a b ≤ b.length ∧ a.take (cp a b) = b.take (cp a b)
  | [], b => by rw [cp_nil]; simp
  | x :: a, [] => by rw [cp_nil2]; simp
  | x :: a, y :: b => by
    obtain ⟨h1, h2, h3⟩ := cp_facts a b
    rw [cp_cons]
    split
    · rename_i e
      subst e
      refine ⟨by simp only [List.length_cons]; omega, by simp only [List.length_cons]; omega, ?_⟩
      rw [Nat.add_comm 1, List.take_succ_cons, List.take_succ_cons, h3]
    · simp
def slN (a b : List Nat) (x y : Nat) : Nat := x + cp (a.drop x) (b.drop y)
/-- what is known of the furthest place -/
structure Val (a b : List Nat) (c : Nat) (l : Int) (x : Int) : Prop where
  nn : 0 ≤ x
  le : x ≤ a.length
  lo : l ≤ x
  hi : x - l ≤ b.length
  cost : dist (a.take x.toNat) (b.take (x - l).toNat) ≤ c
theorem val_slid {a b : List Nat} {c : Nat} {l x : Int} (h : Val a b c l x) : Val a b c l (slN a b x.toNat (x - l).toNat : Nat) := by
  obtain ⟨h0, h1, h2, h3, h4⟩ := h
  obtain ⟨f1, f2, f3⟩ := cp_facts (a.drop x.toNat) (b.drop (x - l).toNat)
  unfold slN
  generalize cp (a.drop x.toNat) (b.drop (x - l).toNat) = k at *
  rw [List.length_drop] at f1 f2
  refine ⟨by omega, by omega, by omega, by omega, ?_⟩
  have e1 : ((x.toNat + k : Nat) : Int).toNat = x.toNat + k := by omega
  have e2 : (((x.toNat + k : Nat) : Int) - l).toNat = (x - l).toNat + k := by omega
  rw [e1, e2, List.take_add, List.take_add, f3, dist_suf]
  exact h4
def linesN (na nb c : Nat) : List Int := ((List.range (c + 1)).map fun i : Nat => -(c : Int) + (i : Int) * 2).filter fun l => decide ((c : Int) + l ≤ 2 * na) && decide ((c : Int) - l ≤ 2 * nb)
theorem mem_lines {na nb c : Nat} {l : Int} : l ∈ linesN na nb c ↔ (∃ i : Nat, i ≤ c ∧ l = -(c : Int) + (i : Int) * 2) ∧ (c : Int) + l ≤ 2 * na ∧ (c : Int) - l ≤ 2 * nb := by
  unfold linesN
  simp only [List.mem_filter, List.mem_map, List.mem_range, Bool.and_eq_true, decide_eq_true_eq]
  constructor
  · rintro ⟨⟨i, hi, rfl⟩, h1, h2⟩
    exact ⟨⟨i, by omega, rfl⟩, h1, h2⟩
  · rintro ⟨⟨i, hi, rfl⟩, h1, h2⟩
    exact ⟨⟨i, by omega, rfl⟩, h1, h2⟩
theorem lines_inc (na nb c : Nat) : (linesN na nb c).Pairwise (· < ·) := by
  unfold linesN
  refine List.Pairwise.filter _ ?_
  rw [List.pairwise_map]
  exact List.pairwise_lt_range.imp fun h => by omega
theorem lines_len (na nb c : Nat) : (linesN na nb c).length ≤ c + 1 := by
  unfold linesN
  refine Nat.le_trans (List.length_filter_le _ _) ?_
  simp
theorem lines_0 (na nb : Nat) : linesN na nb 0 = [0] := by
  unfold linesN
  simp
  omega
def waysN (na nb : Nat) (L : List Int) (X : Int → Nat) (l : Int) : List Int :=
  (if l - 1 ∈ L then [min (na : Int) ((X (l - 1) : Int) + 1)] else []) ++ (if l + 1 ∈ L then [min (X (l + 1) : Int) ((nb : Int) + l)] else [])
def topN (na nb : Nat) (L : List Int) (X : Int → Nat) (l : Int) : Int := (waysN na nb L X l).max?.getD 0
def rchN (a b : List Nat) (L : List Int) (X : Int → Nat) (l : Int) : Nat := let w := topN a.length b.length L X l; slN a b w.toNat (w - l).toNat
theorem take_1 {a : List Nat} {x : Nat} (h : x < a.length) : a.take (x + 1) = a.take x ++ [a[x]] := by rw [List.take_succ, List.getElem?_eq_getElem h]; rfl
theorem way1 {a b : List Nat} {c : Nat} {l : Int} {x : Nat} (hc : 1 ≤ c) (hm : l ∈ linesN a.length b.length c) (h : Val a b (c - 1) (l - 1) x) : Val a b c l (min (a.length : Int) ((x : Int) + 1)) := by
  obtain ⟨⟨i, hi, el⟩, m1, m2⟩ := mem_lines.mp hm
  obtain ⟨h0, h1, h2, h3, h4⟩ := h
  by_cases k : x + 1 ≤ a.length
  · rw [Int.min_eq_right (by omega)]
    refine ⟨by omega, by omega, by omega, by omega, ?_⟩
    have e1 : ((x : Int) + 1).toNat = x + 1 := by omega
    have e2 : ((x : Int) + 1 - l).toNat = ((x : Int) - (l - 1)).toNat := by omega
    have e3 : ((x : Nat) : Int).toNat = x := by omega
    rw [e3] at h4
    rw [e1, e2, take_1 (by omega)]
    have := dist_more (a.take x) (b.take ((x : Int) - (l - 1)).toNat) a[x]
    omega
  · rw [Int.min_eq_left (by omega)]
    have ex : x = a.length := by omega
    refine ⟨by omega, by omega, by omega, by omega, ?_⟩
    have e1 : ((x : Int) - (l - 1)).toNat = ((a.length : Int) - l).toNat + 1 := by omega
    have e3 : ((x : Nat) : Int).toNat = a.length := by omega
    have e4 : ((a.length : Nat) : Int).toNat = a.length := by omega
    rw [e1, e3, take_1 (by omega), dist_comm] at h4
    rw [e4, dist_comm]
    have := dist_less (b.take ((a.length : Int) - l).toNat) (a.take a.length) (b[((a.length : Int) - l).toNat]'(by omega))
    omega
theorem way2 {a b : List Nat} {c : Nat} {l : Int} {x : Nat} (hc : 1 ≤ c) (hm : l ∈ linesN a.length b.length c) (h : Val a b (c - 1) (l + 1) x) : Val a b c l (min (x : Int) ((b.length : Int) + l)) := by
  obtain ⟨⟨i, hi, el⟩, m1, m2⟩ := mem_lines.mp hm
  obtain ⟨h0, h1, h2, h3, h4⟩ := h
  have e3 : ((x : Nat) : Int).toNat = x := by omega
  rw [e3] at h4
  by_cases k : (x : Int) ≤ (b.length : Int) + l
  · rw [Int.min_eq_left k]
    refine ⟨by omega, by omega, by omega, by omega, ?_⟩
    have e2 : ((x : Int) - l).toNat = ((x : Int) - (l + 1)).toNat + 1 := by omega
    rw [e3, e2, take_1 (by omega), dist_comm]
    have := dist_more (b.take ((x : Int) - (l + 1)).toNat) (a.take x) (b[((x : Int) - (l + 1)).toNat]'(by omega))
    rw [dist_comm] at h4
    omega
  · rw [Int.min_eq_right (by omega)]
    refine ⟨by omega, by omega, by omega, by omega, ?_⟩
    obtain ⟨z, hz⟩ : ∃ z, x = z + 1 := ⟨x - 1, by omega⟩
    have e1 : ((b.length : Int) + l).toNat = z := by omega
    have e2 : ((b.length : Int) + l - l).toNat = ((x : Int) - (l + 1)).toNat := by omega
    rw [hz, take_1 (by omega), ← hz] at h4
    rw [e1, e2]
    have := dist_less (a.take z) (b.take ((x : Int) - (l + 1)).toNat) (a[z]'(by omega))
    omega
theorem reach_val {a b : List Nat} {c : Nat} {l : Int} {X : Int → Nat} (hc : 1 ≤ c) (hm : l ∈ linesN a.length b.length c) (h : ∀ l' ∈ linesN a.length b.length (c - 1), Val a b (c - 1) l' (X l')) :
    (∃ w, (waysN a.length b.length (linesN a.length b.length (c - 1)) X l).max? = some w) ∧ Val a b c l (topN a.length b.length (linesN a.length b.length (c - 1)) X l) := by
  obtain ⟨⟨i, hi, el⟩, m1, m2⟩ := mem_lines.mp hm
  have some_ : l - 1 ∈ linesN a.length b.length (c - 1) ∨ l + 1 ∈ linesN a.length b.length (c - 1) := by
    cases i with
    | zero => exact .inr (mem_lines.mpr ⟨⟨0, by omega, by omega⟩, by omega, by omega⟩)
    | succ i => exact .inl (mem_lines.mpr ⟨⟨i, by omega, by omega⟩, by omega, by omega⟩)
  unfold topN waysN
  by_cases k1 : l - 1 ∈ linesN a.length b.length (c - 1)
  · have v1 := way1 hc hm (h _ k1)
    by_cases k2 : l + 1 ∈ linesN a.length b.length (c - 1)
    · have v2 := way2 hc hm (h _ k2)
      rw [if_pos k1, if_pos k2]
      generalize min (a.length : Int) ((X (l - 1) : Int) + 1) = p at *
      generalize min (X (l + 1) : Int) ((b.length : Int) + l) = q at *
      have e : ([p] ++ [q]).max? = some (max p q) := rfl
      rw [e]
      refine ⟨⟨_, rfl⟩, ?_⟩
      show Val a b c l (max p q)
      rcases Int.le_total p q with z | z
      · rw [Int.max_eq_right z]; exact v2
      · rw [Int.max_eq_left z]; exact v1
    · rw [if_pos k1, if_neg k2, List.append_nil]
      exact ⟨⟨_, rfl⟩, v1⟩
  · have k2 := some_.resolve_left k1
    rw [if_neg k1, if_pos k2, List.nil_append]
    exact ⟨⟨_, rfl⟩, way2 hc hm (h _ k2)⟩
/-- the furthest places -/
def far (a b : List Nat) : Nat → Int → Nat
  | 0, _ => cp a b
  | c + 1, l => rchN a b (linesN a.length b.length c) (far a b c) l
theorem far_val (a b : List Nat) : ∀ (c : Nat) (l : Int), l ∈ linesN a.length b.length c → Val a b c l (far a b c l)
  | 0, l, h => by
    rw [lines_0, List.mem_singleton] at h
    subst h
    have v0 : Val a b 0 0 0 := ⟨by omega, by omega, by omega, by omega, by simp [dist_nil]⟩
    have := val_slid v0
    simpa [slN, far] using this
  | c + 1, l, h => val_slid (reach_val (c := c + 1) (X := far a b c) (by omega) h fun l' h' => far_val a b c l' h').2
/-- at no less cost there -/
theorem far_short {a b : List Nat} {c : Nat} (hc : c < dist a b) (h : ((a.length : Int) - b.length) ∈ linesN a.length b.length c) : (far a b c ((a.length : Int) - b.length) : Int) ≠ a.length := by
  intro e
  have v := (far_val a b c _ h).cost
  rw [e] at v
  have e1 : ((a.length : Nat) : Int).toNat = a.length := by omega
  have e2 : ((a.length : Int) - ((a.length : Int) - b.length)).toNat = b.length := by omega
  rw [e1, e2, List.take_length, List.take_length] at v
  omega
end K14
set_option Elab.async false
set_option linter.all false
set_option autoImplicit false
set_option maxRecDepth 100000
set_option maxHeartbeats 2000000
/-! slid, lines_in, reached -/
namespace K14
open PySem PySem.Spec L2 Mp
open PyProof.Rows hiding St

abbrev slC : E := (E.and (E.cmp Cop.lt (E.v 2) (E.blt Blt.len (E.cons (E.v 0) E.nil))) (E.and (E.cmp Cop.lt (E.bin Bop.sub (E.v 2) (E.v 3)) (E.blt Blt.len (E.cons (E.v 1) E.nil))) (E.cmp Cop.eq (E.idx (E.v 0) (E.v 2)) (E.idx (E.v 1) (E.bin Bop.sub (E.v 2) (E.v 3))))))
abbrev slB : S := (S.seq (S.aug 2 Aop.add (E.k (D.int 1))) S.skip)
theorem slid_loop {cl : Nat → List D → Hs → Rs} {a b : List Nat} {l : Int} {G : Hs} (ha : a.length ≤ 5000) (hb : b.length ≤ 5000) : ∀ (k x y n : Nat), a.length ≤ x + k → x ≤ a.length → y ≤ b.length → l = (x : Int) - y → k < n →
    loopW (ev cl slC).2 (evS cl slB) n [some (.str a), some (.str b), some (.int x), some (.int l)] G = some (.nx [some (.str a), some (.str b), some (.int (slN a b x y : Nat)), some (.int l)] G) := by
  intro k
  induction k with
  | zero =>
    intro x y n hk hx hy hl hn
    obtain ⟨n, rfl⟩ : ∃ n', n = n' + 1 := ⟨n - 1, by omega⟩
    have f1 : a.length ≤ 16777216 := by omega
    have ex : x = a.length := by omega
    have i1 : ¬ ((x : Int) < a.length) := by omega
    have e0 : slN a b x y = x := by unfold slN; rw [List.drop_of_length_le (by omega), cp_nil]; rfl
    have t0 : (ev cl slC).2 [some (.str a), some (.str b), some (.int x), some (.int l)] G = some (false, G) := by simp [sz, f1, i1]
    rw [e0]
    simp only [loopW, t0, bnd_s, Bool.false_eq_true, if_false]
  | succ k ih =>
    intro x y n hk hx hy hl hn
    obtain ⟨n, rfl⟩ : ∃ n', n = n' + 1 := ⟨n - 1, by omega⟩
    have f1 : a.length ≤ 16777216 := by omega
    have f2 : b.length ≤ 16777216 := by omega
    have hy' : (x : Int) - l = (y : Int) := by omega
    by_cases h1 : x < a.length
    · have i1 : (x : Int) < a.length := by omega
      by_cases h2 : y < b.length
      · have i2 : (y : Int) < b.length := by omega
        have tt : (ev cl slC).2 [some (.str a), some (.str b), some (.int x), some (.int l)] G = some (decide (a[x] = b[y]), G) := by
          simp [sz, f1, f2, i1, i2, hy', atS h1, atS h2]
          by_cases q : a[x] = b[y] <;> simp [q]
        have ec : cp (a.drop x) (b.drop y) = if a[x] = b[y] then 1 + cp (a.drop (x + 1)) (b.drop (y + 1)) else 0 := by
          rw [List.drop_eq_getElem_cons h1, List.drop_eq_getElem_cons h2, cp_cons]
        by_cases q : a[x] = b[y]
        · have := ih (x + 1) (y + 1) n (by omega) (by omega) (by omega) (by omega) (by omega)
          have e2 : slN a b x y = slN a b (x + 1) (y + 1) := by unfold slN; rw [ec, if_pos q]; omega
          rw [e2]
          simp only [loopW, tt, bnd_s, q, decide_true, if_true]
          have hb1 : evS cl slB [some (.str a), some (.str b), some (.int x), some (.int l)] G = some (.nx [some (.str a), some (.str b), some (.int ((x + 1 : Nat) : Int)), some (.int l)] G) := by
            rw [aug_s (d0 := .int x) rfl k_s aug_add]; rfl
          rw [hb1, Option.bind_some]
          exact this
        · have e2 : slN a b x y = x := by unfold slN; rw [ec, if_neg q]; rfl
          rw [e2]
          simp only [loopW, tt, bnd_s, q, decide_false, Bool.false_eq_true, if_false]
      · have i2 : ¬ ((y : Int) < b.length) := by omega
        have e0 : slN a b x y = x := by unfold slN; rw [List.drop_of_length_le (l := b) (by omega), cp_nil2]; rfl
        have t0 : (ev cl slC).2 [some (.str a), some (.str b), some (.int x), some (.int l)] G = some (false, G) := by simp [sz, f1, f2, i1, i2, hy']
        rw [e0]
        simp only [loopW, t0, bnd_s, Bool.false_eq_true, if_false]
    · have i1 : ¬ ((x : Int) < a.length) := by omega
      have e0 : slN a b x y = x := by unfold slN; rw [List.drop_of_length_le (l := a) (by omega), cp_nil]; rfl
      have t0 : (ev cl slC).2 [some (.str a), some (.str b), some (.int x), some (.int l)] G = some (false, G) := by simp [sz, f1, i1]
      rw [e0]
      simp only [loopW, t0, bnd_s, Bool.false_eq_true, if_false]
theorem slid_run {m : Nat} (hm : 1 ≤ m) {G : Hs} {a b : List Nat} {x y : Nat} {l : Int} (ha : a.length ≤ 5000) (hb : b.length ≤ 5000) (hx : x ≤ a.length) (hy : y ≤ b.length) (hl : l = (x : Int) - y) : F m 6 [.str a, .str b, .int x, .int l] G = some (.int (slN a b x y : Nat), G) := by
  refine run_ t6 rfl hm ?_
  have := slid_loop (cl := F (m - 1)) (G := G) ha hb (a.length - x) x y 100000 (by omega) hx hy hl (by omega)
  show (evS (F (m - 1)) b6 [some (.str a), some (.str b), some (.int x), some (.int l)] G).bind outD = _
  unfold b6
  rw [whl_nx this]
  exact seq_ret (v_s rfl)
def isD (L : List Int) : D := .lst (L.map .int)
theorem lines_in_run {m : Nat} (hm : 1 ≤ m) {G : Hs} {a b : List Nat} {c : Nat} (ha : a.length ≤ 5000) (hb : b.length ≤ 5000) (hc : c ≤ 5000) : F m 7 [.str a, .str b, .int c] G = some (isD (linesN a.length b.length c), G) := by
  refine run_ t7 rfl hm ?_
  have f1 : a.length ≤ 16777216 := by omega
  have f2 : b.length ≤ 16777216 := by omega
  have hr : lrgK false [.int (0 - (c : Int)), .int ((c : Int) + 1), .int 2] G = some (.lst (rgN (-(c : Int)) 2 (c + 1)), G) := by
    unfold lrgK
    have : rgA [.int (0 - (c : Int)), .int ((c : Int) + 1), .int 2] = some (-(c : Int), 2, c + 1) := by
      have e := rgA_s (i := -(c : Int)) (j := (c : Int) + 1) (c := 2) (n := c + 1) (by decide) (by omega) (by omega) (by decide) (by omega) (by
        unfold Builtin.Range.rangeSize
        rw [if_pos (by decide), if_pos (by omega)]
        omega)
      rw [show (0 : Int) - (c : Int) = -(c : Int) by omega]; exact e
    rw [this, Option.bind_some, if_pos (by show c + 1 ≤ 2 ^ 24; omega), newD_f]
  show (evS (F (m - 1)) b7 [some (.str a), some (.str b), some (.int c), none, none] G).bind outD = _
  unfold b7
  have e1 : (ev (F (m - 1)) (E.lrg false 3 (E.cons (E.bin Bop.sub (E.k (D.int 0)) (E.v 2)) (E.cons (E.bin Bop.add (E.v 2) (E.k (D.int 1))) (E.cons (E.k (D.int 2)) E.nil))))).1 [some (.str a), some (.str b), some (.int c), none, none] G = some (.lst (rgN (-(c : Int)) 2 (c + 1)), G) := by
    rw [ev_lrg1, cons_s (bin_s k_s (v_s rfl) bin_subi) (cons_s (bin_s (v_s rfl) k_s bin_addi) (cons_s k_s nil_s)), bnd_s, argK_s]
    exact (if_pos rfl).trans hr
  rw [set_s e1]
  refine seq_ret ?_
  have := comp_filter (cl := F (m - 1)) (ς := [some (.str a), some (.str b), some (.int c), some (.lst (rgN (-(c : Int)) 2 (c + 1))), none]) (G := G) (G1 := G) (own := [4]) (t := Tg.nm 4) (it := E.iseq (E.v 3)) (c := (E.and (E.cmp Cop.le (E.bin Bop.add (E.v 2) (E.v 4)) (E.bin Bop.mul (E.k (D.int 2)) (E.blt Blt.len (E.cons (E.v 0) E.nil)))) (E.cmp Cop.le (E.bin Bop.sub (E.v 2) (E.v 4)) (E.bin Bop.mul (E.k (D.int 2)) (E.blt Blt.len (E.cons (E.v 1) E.nil)))))) (e := E.v 4)
    (ds := rgN (-(c : Int)) 2 (c + 1)) (fun d => match d with | .int l => decide ((c : Int) + l ≤ 2 * a.length) && decide ((c : Int) - l ≤ 2 * b.length) | _ => false) id (by simp) (by simp [rgN]; omega) (fun d hd => by
      unfold rgN at hd
      obtain ⟨i, hi, rfl⟩ := List.mem_map.mp hd
      generalize -(c : Int) + (i : Int) * 2 = l
      refine ⟨_, bindL_nm, ?_, fun _ => ?_⟩
      · have m1 : ∀ z : Nat, z ≤ 5000 → binD .mul (.int 2) (.int (z : Nat)) G = some (.int (2 * (z : Int)), G) := fun z hz => by rw [mul_s, if_pos (by omega)]
        by_cases q : (c : Int) + l ≤ 2 * a.length
        · simp [wipeE, sz, f1, f2, m1 _ ha, m1 _ hb, q]
        · simp [wipeE, sz, f1, f2, m1 _ ha, m1 _ hb, q]
      · simp [wipeE])
  rw [show [some (D.str a), some (D.str b), some (D.int c), none, none].set 3 (some (D.lst (rgN (-(c : Int)) 2 (c + 1)))) = [some (.str a), some (.str b), some (.int c), some (.lst (rgN (-(c : Int)) 2 (c + 1))), none] from rfl, this]
  unfold isD linesN rgN
  rw [List.map_id]
  have e2 : (List.range (c + 1)).map (fun i : Nat => D.int (-(c : Int) + (i : Int) * 2)) = ((List.range (c + 1)).map fun i : Nat => (-(c : Int) + (i : Int) * 2)).map D.int := by rw [List.map_map]; rfl
  rw [e2, List.filter_map]
  rfl
/-! the dicts -/
def adD (L : List Int) (X : Int → Nat) : D := dicOf (L.map fun l => (Sum.inl l, .int (X l : Nat)))
theorem adD_eq (L : List Int) (X : Int → Nat) : adD L X = .dic (L.map Sum.inl) (L.map fun l => .int (X l : Nat)) := by
  unfold adD dicOf
  rw [List.map_map, List.map_map]; rfl
theorem zip_maps {α β γ : Type} (f : α → β) (g : α → γ) : ∀ L : List α, (L.map f).zip (L.map g) = L.map fun x => (f x, g x)
  | [] => rfl
  | x :: L => by simp [zip_maps f g L]
theorem look_ad (L : List Int) (X : Int → Nat) (l : Int) : dlook (((L.map Sum.inl : List Key)).zip (L.map fun l => D.int (X l : Nat))) (Sum.inl l) = if l ∈ L then some (.int (X l : Nat)) else none := by
  rw [zip_maps]
  unfold dlook
  induction L with
  | nil => simp
  | cons x L ih =>
    rw [List.map_cons, List.find?_cons]
    by_cases h : x = l
    · subst h; simp
    · have h1 : ¬ ((Sum.inl x : Key) = Sum.inl l) := fun z => h (Sum.inl.inj z)
      have h2 : (l ∈ x :: L) ↔ l ∈ L := by simp [Ne.symm h]
      simp only [decide_eq_false h1, h2]
      exact ih
theorem in_ad {L : List Int} {X : Int → Nat} {l : Int} {G : Hs} : cmpB .in_ (.int l) (adD L X) G = some (decide (l ∈ L)) := by
  rw [adD_eq]
  show (some ((dlook _ _).isSome) : Option Bool) = _
  rw [look_ad]
  by_cases h : l ∈ L <;> simp [h]
theorem idx_ad {L : List Int} {X : Int → Nat} {l : Int} {G : Hs} (h : l ∈ L) : idxD (adD L X) (.int l) G = some (.int (X l : Nat), G) := by
  rw [adD_eq]
  show (dlook _ _).map (fun d => (d, G)) = _
  rw [look_ad, if_pos h]; rfl
theorem maxL_r {G : Hs} {n : Nat} {W : List Int} {w : Int} (h : G[n]? = some (.lst (W.map .int))) (hw : W.max? = some w) : Blt.maxL.k [.ref n] G = some (.int w, G) := by
  show maxL (.ref n) G = _
  unfold maxL
  simp [Mp.roOf, Mp.listOf, h, sum_ints, hw]
theorem reached_run {m : Nat} (hm : 2 ≤ m) {G : Hs} {a b : List Nat} {c : Nat} {l : Int} {X : Int → Nat} (ha : a.length ≤ 5000) (hb : b.length ≤ 5000) (hc : 1 ≤ c) (hl : l ∈ linesN a.length b.length c) (hX : ∀ l' ∈ linesN a.length b.length (c - 1), Val a b (c - 1) l' (X l')) :
    ∃ g, F m 11 [.str a, .str b, adD (linesN a.length b.length (c - 1)) X, .int l] G = some (.int (rchN a b (linesN a.length b.length (c - 1)) X l : Nat), G ++ g) := by
  obtain ⟨⟨w, hw⟩, v⟩ := reach_val hc hl hX
  have ew : topN a.length b.length (linesN a.length b.length (c - 1)) X l = w := by unfold topN; rw [hw]; rfl
  have er : rchN a b (linesN a.length b.length (c - 1)) X l = slN a b w.toNat (w - l).toNat := by unfold rchN; rw [ew]
  rw [er]
  rw [ew] at v
  obtain ⟨v0, v1, v2, v3, _⟩ := v
  have f1 : a.length ≤ 16777216 := by omega
  have f2 : b.length ≤ 16777216 := by omega
  unfold waysN at hw
  generalize hLe : linesN a.length b.length (c - 1) = L at *
  let st : Env' := [some (.str a), some (.str b), some (adD L X), some (.int l), some (.ref G.length)]
  have hs := slid_run (m := m - 1) (by omega) (G := G ++ [.lst (((if l - 1 ∈ L then [min (a.length : Int) ((X (l - 1) : Int) + 1)] else []) ++ (if l + 1 ∈ L then [min (X (l + 1) : Int) ((b.length : Int) + l)] else [])).map D.int)]) (a := a) (b := b) (x := w.toNat) (y := (w - l).toNat) (l := l) ha hb (by omega) (by omega) (by omega)
  rw [show ((w.toNat : Nat) : Int) = w by omega] at hs
  -- the first way
  have w1 : evS (F (m - 1)) (S.ife (E.cmp Cop.in_ (E.bin Bop.sub (E.v 3) (E.k (D.int 1))) (E.v 2)) (S.seq (S.drop (E.mth Mth.append (E.v 4) (E.cons (E.blt Blt.min2 (E.cons (E.blt Blt.len (E.cons (E.v 0) E.nil)) (E.cons (E.bin Bop.add (E.idx (E.v 2) (E.bin Bop.sub (E.v 3) (E.k (D.int 1)))) (E.k (D.int 1))) E.nil))) E.nil))) S.skip) S.skip) st (G ++ [.lst []]) =
      some (.nx st (G ++ [.lst ((if l - 1 ∈ L then [min (a.length : Int) ((X (l - 1) : Int) + 1)] else []).map D.int)])) := by
    rw [evS_ife, cmp_t (r := decide (l - 1 ∈ L)) (bin_s (v_s (i := 3) rfl) k_s bin_subi) (v_s (i := 2) rfl) in_ad, bnd_s]
    by_cases q : l - 1 ∈ L
    · rw [if_pos (by simpa using q), if_pos q]
      have e1 : (ev (F (m - 1)) (E.mth Mth.append (E.v 4) (E.cons (E.blt Blt.min2 (E.cons (E.blt Blt.len (E.cons (E.v 0) E.nil)) (E.cons (E.bin Bop.add (E.idx (E.v 2) (E.bin Bop.sub (E.v 3) (E.k (D.int 1)))) (E.k (D.int 1))) E.nil))) E.nil))).1 st (G ++ [.lst []]) = some (.non, G ++ [.lst [.int (min (a.length : Int) ((X (l - 1) : Int) + 1))]]) := by
        refine mth_s (v_s (i := 4) rfl) (ref_ty at_new) (cons_s (blt_s (cons_s (blt_s (one_v (i := 0) rfl) (lenS f1)) (cons_s (bin_s (idx_s (v_s (i := 2) rfl) (bin_s (v_s (i := 3) rfl) k_s bin_subi) (idx_ad q)) k_s bin_addi) nil_s)) min2k) nil_s) ?_
        rw [mk_append, app_new (by simp)]
        have : (if (X (l - 1) : Int) + 1 < (a.length : Int) then (X (l - 1) : Int) + 1 else (a.length : Int)) = min (a.length : Int) ((X (l - 1) : Int) + 1) := by split <;> omega
        rw [this]; rfl
      rw [drop_s e1, evS_skip]; rfl
    · rw [if_neg (by simpa using q), if_neg q, evS_skip]; rfl
  have w2 : ∀ W : List D, W.length ≤ 10 → evS (F (m - 1)) (S.ife (E.cmp Cop.in_ (E.bin Bop.add (E.v 3) (E.k (D.int 1))) (E.v 2)) (S.seq (S.drop (E.mth Mth.append (E.v 4) (E.cons (E.blt Blt.min2 (E.cons (E.idx (E.v 2) (E.bin Bop.add (E.v 3) (E.k (D.int 1)))) (E.cons (E.bin Bop.add (E.blt Blt.len (E.cons (E.v 1) E.nil)) (E.v 3)) E.nil))) E.nil))) S.skip) S.skip) st (G ++ [.lst W]) =
      some (.nx st (G ++ [.lst (W ++ (if l + 1 ∈ L then [min (X (l + 1) : Int) ((b.length : Int) + l)] else []).map D.int)])) := by
    intro W hW
    rw [evS_ife, cmp_t (r := decide (l + 1 ∈ L)) (bin_s (v_s (i := 3) rfl) k_s bin_addi) (v_s (i := 2) rfl) in_ad, bnd_s]
    by_cases q : l + 1 ∈ L
    · rw [if_pos (by simpa using q), if_pos q]
      have e1 : (ev (F (m - 1)) (E.mth Mth.append (E.v 4) (E.cons (E.blt Blt.min2 (E.cons (E.idx (E.v 2) (E.bin Bop.add (E.v 3) (E.k (D.int 1)))) (E.cons (E.bin Bop.add (E.blt Blt.len (E.cons (E.v 1) E.nil)) (E.v 3)) E.nil))) E.nil))).1 st (G ++ [.lst W]) = some (.non, G ++ [.lst (W ++ [.int (min (X (l + 1) : Int) ((b.length : Int) + l))])]) := by
        refine mth_s (v_s (i := 4) rfl) (ref_ty at_new) (cons_s (blt_s (cons_s (idx_s (v_s (i := 2) rfl) (bin_s (v_s (i := 3) rfl) k_s bin_addi) (idx_ad q)) (cons_s (bin_s (blt_s (one_v (i := 1) rfl) (lenS f2)) (v_s (i := 3) rfl) bin_addi) nil_s)) min2k) nil_s) ?_
        rw [mk_append, app_new (by omega)]
        have : (if (b.length : Int) + l < (X (l + 1) : Int) then (b.length : Int) + l else (X (l + 1) : Int)) = min (X (l + 1) : Int) ((b.length : Int) + l) := by split <;> omega
        rw [this]
      rw [drop_s e1, evS_skip]; rfl
    · rw [if_neg (by simpa using q), if_neg q, evS_skip]; simp
  refine ⟨[.lst (((if l - 1 ∈ L then [min (a.length : Int) ((X (l - 1) : Int) + 1)] else []) ++ (if l + 1 ∈ L then [min (X (l + 1) : Int) ((b.length : Int) + l)] else [])).map D.int)], run_ t11 rfl (by omega) ?_⟩
  show (evS (F (m - 1)) b11 [some (.str a), some (.str b), some (adD L X), some (.int l), none] G).bind outD = _
  unfold b11
  rw [set_s (d := .ref G.length) (G1 := G ++ [.lst []]) (lstM_s nil_s (by simp))]
  refine (congrArg (fun z => Option.bind z outD) (seq_nx (ς := st) w1)).trans ?_
  refine (congrArg (fun z => Option.bind z outD) (seq_nx (w2 _ (by split <;> simp)))).trans ?_
  rw [← List.map_append]
  exact seq_ret (call_s (cons_s (v_s (i := 0) rfl) (cons_s (v_s (i := 1) rfl) (cons_s (blt_s (one_v (i := 4) rfl) (maxL_r at_new hw)) (one_v (i := 3) rfl)))) rfl hs)
end K14
set_option Elab.async false
set_option linter.all false
set_option autoImplicit false
set_option maxRecDepth 100000
set_option maxHeartbeats 2000000
/-! paper_of -/
namespace K14
open PySem PySem.Spec L2 Mp
open PyProof.Rows hiding St

theorem ev_dic1 {cl : Nat → List D → Hs → Rs} {ς : Env'} {G : Hs} {a b : E} : (ev cl (.dic1 a b)).1 ς G = dic1 (ev cl a).1 (ev cl b).1 ς G := rfl
theorem ev_dget {cl : Nat → List D → Hs → Rs} {ς : Env'} {G : Hs} {o a b : E} : (ev cl (.dget o a b)).1 ς G = getD2 (ev cl o).1 (ev cl a).1 (ev cl b).1 ς G := rfl
/-! a dict comprehension over ints -/
theorem dput_new {acc : List (Key × D)} {k : Key} {d : D} (h : k ∉ acc.map (·.1)) : dput acc k d = acc ++ [(k, d)] := by
  unfold dput
  have : (acc.any fun kv => decide (kv.1 = k)) = false := by
    rw [List.any_eq_false]
    intro p hp
    simp only [decide_eq_true_eq]
    exact fun e => h (List.mem_map.mpr ⟨p, hp, e⟩)
  rw [this]; rfl
theorem loopD_ints {cl : Nat → List D → Hs → Rs} {ςw : Env'} {i : Nat} {e : E} {X : Int → Nat} (hi : i < ςw.length) : ∀ (L : List Int) (acc : List (Key × D)) (G : Hs), L.Nodup → (∀ l ∈ L, (Sum.inl l : Key) ∉ acc.map (·.1)) → acc.length + L.length ≤ 10000 →
    (∀ l ∈ L, ∀ G', ∃ g, (ev cl e).1 (ςw.set i (some (.int l))) G' = some (.int (X l : Nat), G' ++ g)) →
    ∃ g, loopD (ev cl E.yes).2 (ev cl (E.v i)).1 (ev cl e).1 (Tg.nm i) ςw (L.map .int) acc G = some (acc ++ L.map fun l => (Sum.inl l, D.int (X l : Nat)), G ++ g)
  | [], acc, G, _, _, _, _ => ⟨[], by simp [loopD]⟩
  | l :: L, acc, G, hn, hd, hl, he => by
    rw [List.nodup_cons] at hn
    simp only [List.length_cons] at hl
    obtain ⟨g1, e1⟩ := he l (by simp) G
    have hk : (Sum.inl l : Key) ∉ acc.map (·.1) := hd l (by simp)
    obtain ⟨g2, e2⟩ := loopD_ints (cl := cl) (e := e) (X := X) hi L (acc ++ [(Sum.inl l, D.int (X l : Nat))]) (G ++ g1) hn.2 (fun l' h' => by
      rw [List.map_append, List.mem_append]
      rintro (q | q)
      · exact hd l' (by simp [h']) q
      · simp only [List.map_cons, List.map_nil, List.mem_singleton] at q
        exact hn.1 (by rw [← Sum.inl.inj q]; exact h')) (by simp; omega) fun l' h' => he l' (by simp [h'])
    refine ⟨g1 ++ g2, ?_⟩
    have hv : (ev cl (E.v i)).1 (ςw.set i (some (.int l))) G = some (.int l, G) := v_s (List.getElem?_set_self hi)
    simp only [List.map_cons, loopD, bindL_nm, Option.bind_some, ev_yes2, bnd_s, if_true, hv, e1, keyD]
    rw [if_pos (by rw [sz]; omega), dput_new hk, e2]
    simp
theorem dcomp_ints {cl : Nat → List D → Hs → Rs} {ς : Env'} {i : Nat} {it e : E} {X : Int → Nat} {L : List Int} {G G1 : Hs} (hi : i < ς.length) (hit : (ev cl it).1 ς G = some (.tup (L.map .int), G1)) (hn : L.Nodup) (hl : L.length ≤ 10000)
    (he : ∀ l ∈ L, ∀ G', ∃ g, (ev cl e).1 ((wipeE ς [i]).set i (some (.int l))) G' = some (.int (X l : Nat), G' ++ g)) :
    ∃ g, (ev cl (E.dcomp (Tg.nm i) [i] it E.yes (E.v i) e)).1 ς G = some (adD L X, G1 ++ g) := by
  obtain ⟨g, e1⟩ := loopD_ints (cl := cl) (ςw := wipeE ς [i]) (i := i) (e := e) (X := X) (by rw [wipe_len]; exact hi) L [] G1 hn (by simp) (by simpa using hl) he
  refine ⟨g, ?_⟩
  show dcompD (Tg.nm i) [i] (ev cl it).1 (ev cl E.yes).2 (ev cl (E.v i)).1 (ev cl e).1 ς G = _
  unfold dcompD argD
  rw [hit, bnd_s]
  simp only [e1, bnd_s, List.nil_append]
  rfl
theorem zipInts_ad (X : Int → Nat) : ∀ L : List Int, zipInts ((L.map Sum.inl : List Key)) (L.map fun l => D.int (X l : Nat)) = some (L.map fun l => (l, (X l : Int)))
  | [] => rfl
  | l :: L => by simp [zipInts, zipInts_ad X L]
def rowOfL (L : List Int) (X : Int → Nat) : D := .row (L.map fun l => pairI (l, (X l : Int)))
theorem row_ad {L : List Int} {X : Int → Nat} {G : Hs} (h : L.Pairwise (· < ·)) : rowD (adD L X) G = some (rowOfL L X, G) := by
  rw [adD_eq]
  show (zipInts _ _).bind _ = _
  rw [zipInts_ad, Option.bind_some]
  have : sortPairs (L.map fun l => (l, (X l : Int))) = L.map fun l => (l, (X l : Int)) := by
    refine List.mergeSort_of_pairwise ?_
    rw [List.pairwise_map]
    refine h.imp fun {p q} hpq => ?_
    unfold lexle
    have : SrtO.lexB (q, (X q : Int)) (p, (X p : Int)) = false := SrtO.lexB_no.mpr (by simp only; omega)
    rw [this]; rfl
  rw [this, List.map_map]; rfl
def prows (a b : List Nat) (N : Nat) : List D := (List.range N).map fun c => rowOfL (linesN a.length b.length c) (far a b c)
theorem prows_succ {a b : List Nat} {N : Nat} : prows a b (N + 1) = prows a b N ++ [rowOfL (linesN a.length b.length N) (far a b N)] := by simp [prows, List.range_succ]
abbrev bPap : S := (S.seq (S.ife (E.cmp Cop.gt (E.v 5) (E.k (D.int 0))) (S.seq (S.set 4 (E.dcomp (Tg.nm 6) [6] (E.iseq (E.call 7 3 (E.cons (E.v 0) (E.cons (E.v 1) (E.cons (E.v 5) E.nil))))) E.yes (E.v 6) (E.call 11 4 (E.cons (E.v 0) (E.cons (E.v 1) (E.cons (E.v 4) (E.cons (E.v 6) E.nil))))))) S.skip) S.skip) (S.seq (S.drop (E.mth Mth.append (E.v 3) (E.cons (E.row (E.v 4)) E.nil))) S.skip))
def ahd (a b : List Nat) (c : Nat) : D := adD (linesN a.length b.length (c - 1)) (far a b (c - 1))
theorem lines_nd (na nb c : Nat) : (linesN na nb c).Nodup := (lines_inc na nb c).imp fun h => by omega
theorem far_succ {a b : List Nat} {c : Nat} (hc : 1 ≤ c) (l : Int) : far a b c l = rchN a b (linesN a.length b.length (c - 1)) (far a b (c - 1)) l := by
  obtain ⟨d, rfl⟩ : ∃ d, c = d + 1 := ⟨c - 1, by omega⟩
  rfl
theorem for_pap {m : Nat} (hm : 3 ≤ m) {a b : List Nat} {v2 : D} {G : Hs} (ha : a.length ≤ 90) (hb : b.length ≤ 90) : ∀ (k c : Nat) (o5 o6 : Option D) (l : Hs), c + k ≤ 1000 →
    ∃ u4 u5 u6 l', loopF (Tg.nm 5) (evS (F m) bPap) ((List.range' c k).map fun x : Nat => .int (x : Nat)) [some (.str a), some (.str b), some v2, some (.ref G.length), some (ahd a b c), o5, o6] (G ++ .lst (prows a b c) :: l) =
      some (.nx [some (.str a), some (.str b), some v2, some (.ref G.length), u4, u5, u6] (G ++ .lst (prows a b (c + k)) :: l'))
  | 0, c, o5, o6, l, h => ⟨_, _, _, l, rfl⟩
  | k + 1, c, o5, o6, l, h => by
    obtain ⟨u5, u6, l', e⟩ : ∃ u5 u6 l', evS (F m) bPap [some (.str a), some (.str b), some v2, some (.ref G.length), some (ahd a b c), some (.int (c : Nat)), o6] (G ++ .lst (prows a b c) :: l) =
        some (.nx [some (.str a), some (.str b), some v2, some (.ref G.length), some (ahd a b (c + 1)), u5, u6] (G ++ .lst (prows a b (c + 1)) :: l')) := by
      have e0 : (ev (F m) (E.cmp Cop.gt (E.v 5) (E.k (D.int 0)))).2 [some (.str a), some (.str b), some v2, some (.ref G.length), some (ahd a b c), some (.int (c : Nat)), o6] (G ++ .lst (prows a b c) :: l) = some (decide ((0 : Int) < c), G ++ .lst (prows a b c) :: l) := cmp_t (v_s rfl) k_s cmp_gtI
      have hrow : ∀ l1 : Hs, (ev (F m) (E.mth Mth.append (E.v 3) (E.cons (E.row (E.v 4)) E.nil))).1 [some (.str a), some (.str b), some v2, some (.ref G.length), some (ahd a b (c + 1)), some (.int (c : Nat)), o6] (G ++ .lst (prows a b c) :: l1) = some (.non, G ++ .lst (prows a b (c + 1)) :: l1) := by
        intro l1
        refine mth_s (v_s (i := 3) rfl) (ref_ty at_mid) (cons_s (x := rowOfL (linesN a.length b.length c) (far a b c)) (G1 := G ++ .lst (prows a b c) :: l1) ?_ nil_s) ?_
        · rw [ev_row1, v_s (i := 4) rfl, bnd_s]
          exact row_ad (lines_inc _ _ _)
        · rw [mk_append, app_mid (by simp [prows]; omega), prows_succ]
      by_cases hc : c = 0
      · subst hc
        refine ⟨some (.int (0 : Nat)), o6, l, ?_⟩
        show evS (F m) bPap [some (.str a), some (.str b), some v2, some (.ref G.length), some (ahd a b 1), some (.int (0 : Nat)), o6] _ = _
        rw [seq_ife_ff (G1 := G ++ .lst (prows a b 0) :: l) (by exact e0), evS_seq, evS_skip]
        show evS (F m) (S.seq _ S.skip) _ _ = _
        rw [drop_s (hrow l), evS_skip]
      · have hc1 : 1 ≤ c := by omega
        obtain ⟨g, ed⟩ := dcomp_ints (cl := F m) (ς := [some (.str a), some (.str b), some v2, some (.ref G.length), some (ahd a b c), some (.int (c : Nat)), o6]) (i := 6) (it := E.iseq (E.call 7 3 (E.cons (E.v 0) (E.cons (E.v 1) (E.cons (E.v 5) E.nil))))) (e := E.call 11 4 (E.cons (E.v 0) (E.cons (E.v 1) (E.cons (E.v 4) (E.cons (E.v 6) E.nil))))) (X := far a b c)
          (L := linesN a.length b.length c) (G := G ++ .lst (prows a b c) :: l) (G1 := G ++ .lst (prows a b c) :: l) (by simp) (by
            rw [ev_iseq1, call_s (n := 3) (three_v rfl rfl rfl) rfl (lines_in_run (m := m) (by omega) (by omega) (by omega) (by omega)), bnd_s]
            rfl) (lines_nd _ _ _) (by have := lines_len a.length b.length c; omega) (fun l1 h1 G' => by
            obtain ⟨g, e⟩ := reached_run (m := m) (by omega) (G := G') (a := a) (b := b) (c := c) (l := l1) (X := far a b (c - 1)) (by omega) (by omega) hc1 h1 fun l' h' => far_val a b (c - 1) l' h'
            refine ⟨g, ?_⟩
            rw [far_succ hc1]
            exact call_s (four_v (by simp [wipeE]) (by simp [wipeE]) (d := .str a) (e := .str b) (f := ahd a b c) (g := .int l1) (by simp [wipeE]) (by simp [wipeE])) rfl e)
        refine ⟨some (.int (c : Nat)), o6, l ++ g, ?_⟩
        have hset : evS (F m) (S.ife (E.cmp Cop.gt (E.v 5) (E.k (D.int 0))) (S.seq (S.set 4 (E.dcomp (Tg.nm 6) [6] (E.iseq (E.call 7 3 (E.cons (E.v 0) (E.cons (E.v 1) (E.cons (E.v 5) E.nil))))) E.yes (E.v 6) (E.call 11 4 (E.cons (E.v 0) (E.cons (E.v 1) (E.cons (E.v 4) (E.cons (E.v 6) E.nil))))))) S.skip) S.skip) [some (.str a), some (.str b), some v2, some (.ref G.length), some (ahd a b c), some (.int (c : Nat)), o6] (G ++ .lst (prows a b c) :: l) =
            some (.nx [some (.str a), some (.str b), some v2, some (.ref G.length), some (ahd a b (c + 1)), some (.int (c : Nat)), o6] (G ++ .lst (prows a b c) :: (l ++ g))) := by
          rw [evS_ife, e0, bnd_s, decide_eq_true (by omega), if_pos rfl, set_s ed, evS_skip]
          simp only [List.append_assoc, List.cons_append]
          rfl
        rw [seq_nx hset, drop_s (hrow (l ++ g)), evS_skip]
    obtain ⟨w4, w5, w6, l2, e2⟩ := for_pap hm (a := a) (b := b) (v2 := v2) (G := G) ha hb k (c + 1) u5 u6 l' (by omega)
    refine ⟨w4, w5, w6, l2, ?_⟩
    rw [show c + (k + 1) = c + 1 + k by omega]
    rw [show List.range' c (k + 1) = c :: List.range' (c + 1) k from rfl, List.map_cons]
    exact for_step bindL_nm e e2
theorem rgN_r' (n : Nat) : rgN 0 1 n = (List.range' 0 n).map fun x : Nat => D.int (x : Nat) := by rw [rgN_ns, List.range_eq_range']
theorem paper_of_run {m : Nat} (hm : 6 ≤ m) {G : Hs} {a b : List Nat} (ha : a.length ≤ 90) (hb : b.length ≤ 90) (hs : Sg b) : ∃ l, F m 17 [.str a, .str b] G = some (.tup (prows a b (dist a b)), G ++ l) := by
  obtain ⟨l1, e1⟩ := least_cost_run2 (m := m - 1) (by omega) (G := G) ha hb hs
  have hd : dist a b ≤ 180 := by have := dist_le _ a b (Nat.le_refl _); omega
  have es : F (m - 1) 6 [.str a, .str b, .int 0, .int 0] ((G ++ l1) ++ [.lst []]) = some (.int (slN a b 0 0 : Nat), (G ++ l1) ++ [.lst []]) := slid_run (m := m - 1) (by omega) (x := 0) (y := 0) (l := 0) (by omega) (by omega) (by omega) (by omega) (by omega)
  obtain ⟨u4, u5, u6, l2, e2⟩ := for_pap (m := m - 1) (by omega) (a := a) (b := b) (v2 := .int (dist a b : Nat)) (G := G ++ l1) ha hb (dist a b) 0 none none [] (by omega)
  rw [Nat.zero_add] at e2
  refine ⟨l1 ++ .lst (prows a b (dist a b)) :: l2, run_ t17 rfl (by omega) ?_⟩
  show (evS (F (m - 1)) b17 [some (.str a), some (.str b), none, none, none, none, none] G).bind outD = _
  unfold b17
  rw [par2_s (cons_s (call_s (n := 2) (two_v rfl rfl) rfl e1) (cons_s (lstM_s nil_s (by simp)) nil_s))]
  have e0 : ahd a b 0 = dicOf [(Sum.inl 0, .int (slN a b 0 0 : Nat))] := by
    unfold ahd adD
    rw [show 0 - 1 = 0 from rfl, lines_0]
    simp [far, slN]
  refine (congrArg (fun z => Option.bind z outD) (set_s (d := ahd a b 0) (G1 := (G ++ l1) ++ [.lst []]) ?_)).trans ?_
  · rw [ev_dic1]
    unfold dic1
    rw [k_s, bnd_s, call_s (n := 4) (cons_s (v_s (i := 0) rfl) (cons_s (v_s (i := 1) rfl) (cons_s k_s (cons_s k_s nil_s)))) rfl es, bnd_s, e0]
    rfl
  refine (congrArg (fun z => Option.bind z outD) (for_nx (ds := rgN 0 1 (dist a b)) (G1 := (G ++ l1) ++ [.lst []]) ?_ (by rw [rgN_r']; exact e2))).trans ?_
  · rw [ev_irng1, one_v (i := 2) rfl, bnd_s, argK_s]
    exact rng1 (by omega)
  · rw [show G ++ (l1 ++ Cell.lst (prows a b (dist a b)) :: l2) = (G ++ l1) ++ Cell.lst (prows a b (dist a b)) :: l2 by simp]
    refine seq_ret (blt_s (one_v (i := 3) rfl) ?_)
    show tupD _ _ = _
    exact tup_r at_mid
end K14
set_option Elab.async false
set_option linter.all false
set_option autoImplicit false
set_option maxRecDepth 100000
set_option maxHeartbeats 2000000
/-! is_row, proves_least -/
namespace K14
open PySem PySem.Spec L2 Mp
open PyProof.Rows hiding St

theorem okDs_is : ∀ L : List Int, okDs (L.map D.int) = true ∧ depDs (L.map D.int) ≤ 1
  | [] => ⟨by simp [okDs], by simp [depDs]⟩
  | l :: L => by
    obtain ⟨h1, h2⟩ := okDs_is L
    exact ⟨by simp [okDs, okD, h1], by simp [depDs, depD]; omega⟩
theorem eqDs_is : ∀ L M : List Int, eqDs (L.map D.int) (M.map D.int) = decide (L = M)
  | [], [] => by simp [eqDs]
  | [], _ :: _ => by simp [eqDs]
  | _ :: _, [] => by simp [eqDs]
  | l :: L, k :: M => by
    simp only [List.map_cons, eqDs, eqDs_is L M, eqD]
    by_cases h : l = k <;> simp [h]
theorem okC_is (L : List Int) : okC (isD L) = true := by
  obtain ⟨h1, h2⟩ := okDs_is L
  simp [okC, isD, okD, depD, h1]; omega
theorem eqC_is {L M : List Int} {G : Hs} : cmpB .eq (isD L) (isD M) G = some (decide (L = M)) := by
  show (if okC (isD L) ∧ okC (isD M) then some (eqD (isD L) (isD M)) else none) = _
  rw [if_pos ⟨okC_is _, okC_is _⟩]
  simp [isD, eqD, eqDs_is]
theorem neC_is {L M : List Int} {G : Hs} : cmpB .ne (isD L) (isD M) G = some (!decide (L = M)) := by
  show (if okC (isD L) ∧ okC (isD M) then some (eqD (isD L) (isD M)) else none).map (!·) = _
  rw [if_pos ⟨okC_is _, okC_is _⟩]
  simp [isD, eqD, eqDs_is]
theorem is_row_run {m : Nat} (hm : 2 ≤ m) {G : Hs} {a b : List Nat} {c : Nat} {X : Int → Nat} (ha : a.length ≤ 90) (hb : b.length ≤ 90) (hc : c ≤ 1000) (hX : ∀ l ∈ linesN a.length b.length c, X l ≤ a.length) :
    F m 18 [.str a, .str b, .int c, rowOfL (linesN a.length b.length c) X] G = some (.bl true, G) := by
  have f1 : a.length ≤ 16777216 := by omega
  have hl := lines_in_run (m := m - 1) (by omega) (G := G) (a := a) (b := b) (c := c) (by omega) (by omega) (by omega)
  have hlen := lines_len a.length b.length c
  have hmem : ∀ l ∈ linesN a.length b.length c, -(c : Int) ≤ l ∧ l ≤ c := fun l h => by
    obtain ⟨⟨i, hi, el⟩, _⟩ := mem_lines.mp h
    omega
  generalize linesN a.length b.length c = L at *
  refine run_ t18 rfl (by omega) ?_
  let ds : List D := L.map fun l => pairI (l, (X l : Int))
  let st : Env' := [some (.str a), some (.str b), some (.int c), some (rowOfL L X), none, none, none]
  show (evS (F (m - 1)) b18 st G).bind outD = _
  have hv : (ev (F (m - 1)) (E.iseq (E.v 3))).1 st G = some (.tup ds, G) := by rw [ev_iseq1, v_s (i := 3) rfl, bnd_s]; rfl
  unfold b18
  rw [seq_ife_f (G1 := G)]
  · rw [seq_ife_f (G1 := G)]
    · refine seq_ret ?_
      rw [ev_gen1, hv, bnd_s, argK_s]
      refine loopG_all fun d hd => ?_
      obtain ⟨l, hl', rfl⟩ := List.mem_map.mp hd
      refine ⟨_, bind2, ?_⟩
      have e1 := is_number_run (m := m - 1) (by omega) (G := G) (v := l) (lo := -(c : Int)) (hi := c)
      have e2 := is_number_run (m := m - 1) (by omega) (G := G) (v := (X l : Int)) (lo := 0) (hi := a.length)
      obtain ⟨h1, h2⟩ := hmem l hl'
      have h3 := hX l hl'
      have h4 : (X l : Int) ≤ a.length := by omega
      have h5 : (0 : Int) ≤ X l := by omega
      simp [wipeE, st, negD, e1, e2, h1, h2, h4, h5, sz, f1]
    · have hc2 := comp_map (cl := F (m - 1)) (ς := st) (own := [4]) (t := Tg.nm 4) (it := E.iseq (E.v 3)) (c := E.yes) (e := E.idx (E.v 4) (E.k (D.int 0))) (fun d => match d with | .tup (x :: _) => x | d => d) hv (by simp [ds]; omega) (fun d hd => by
        obtain ⟨l, hl', rfl⟩ := List.mem_map.mp hd
        refine ⟨_, bindL_nm, ev_yes2, idx_s (v_s (List.getElem?_set_self (by rw [wipe_len]; simp [st]))) k_s rfl⟩)
      have e3 : (D.lst (ds.map fun d => match d with | .tup (x :: _) => x | d => d)) = isD L := by
        show D.lst (List.map _ (L.map _)) = _
        rw [List.map_map]; rfl
      rw [e3] at hc2
      have := ne_f hc2 (call_s (n := 3) (three_v (i := 0) (j := 1) (k := 2) rfl rfl rfl) rfl hl) (neC_is.trans (by simp))
      exact this
  · refine or_ff (G1 := G) (not_t (x := true) (by simp [st, rowOfL])) (not_t (x := true) (two_of hv (loopG_all fun d hd => ?_)))
    obtain ⟨l, hl', rfl⟩ := List.mem_map.mp hd
    refine ⟨_, bindL_nm, ?_⟩
    simp [wipeE, st, pairI]
/-! dict of a row -/
theorem pairs_row (X : Int → Nat) : ∀ L : List Int, pairsD (L.map fun l => pairI (l, (X l : Int))) = some (L.map fun l => (Sum.inl l, D.int (X l : Nat)))
  | [] => rfl
  | l :: L => by
    rw [List.map_cons, pairsD, pairs_row X L]; rfl
theorem dmerge_nd : ∀ (ps acc : List (Key × D)), (acc.map (·.1) ++ ps.map (·.1)).Nodup → dmerge acc ps = acc ++ ps
  | [], acc, _ => by simp [dmerge]
  | p :: ps, acc, h => by
    have h1 : p.1 ∉ acc.map (·.1) := fun q => by
      rw [List.nodup_append] at h
      exact h.2.2 p.1 q p.1 (by simp) rfl
    show dmerge (dput acc p.1 p.2) ps = _
    rw [dput_new h1, dmerge_nd ps]
    · simp
    · simpa using h
theorem drow_row {L : List Int} {X : Int → Nat} {G : Hs} (hn : L.Nodup) : dictRowD (rowOfL L X) G = some (adD L X, G) := by
  show (pairsD _).bind _ = _
  rw [pairs_row, Option.bind_some]
  have := dmerge_nd (L.map fun l => ((Sum.inl l : Key), D.int (X l : Nat))) [] (by
    simp only [List.map_nil, List.nil_append, List.map_map]
    exact hn.map _ (by intro x y h e; exact h (Sum.inl.inj e)))
  rw [this]; rfl
theorem seq_ad {L : List Int} {X : Int → Nat} {G : Hs} : seqK (adD L X) G = some (.tup (L.map .int), G) := by
  rw [adD_eq]
  show some (D.tup ((L.map Sum.inl).map kD), G) = _
  rw [List.map_map]; rfl
abbrev bDue : S := (S.seq (S.set 10 (E.ite (E.cmp Cop.eq (E.v 6) (E.k (D.int 0))) (E.call 6 4 (E.cons (E.v 0) (E.cons (E.v 1) (E.cons (E.k (D.int 0)) (E.cons (E.k (D.int 0)) E.nil))))) (E.call 11 4 (E.cons (E.v 0) (E.cons (E.v 1) (E.cons (E.v 5) (E.cons (E.v 9) E.nil))))))) (S.seq (S.ife (E.cmp Cop.lt (E.idx (E.v 8) (E.v 9)) (E.v 10)) (S.seq (S.ret (E.k (D.bl false))) S.skip) S.skip) S.skip))
theorem for_due {m : Nat} (hm : 3 ≤ m) {a b : List Nat} {c : Nat} {v2 v3 v4 v5 v7 : D} (ha : a.length ≤ 90) (hb : b.length ≤ 90) (h5 : 1 ≤ c → v5 = adD (linesN a.length b.length (c - 1)) (far a b (c - 1))) : ∀ (L : List Int) (o9 o10 : Option D) (G : Hs), (∀ l ∈ L, l ∈ linesN a.length b.length c) →
    ∃ u9 u10 g, loopF (Tg.nm 9) (evS (F m) bDue) (L.map .int) [some (.str a), some (.str b), some v2, some v3, some v4, some v5, some (.int c), some v7, some (adD (linesN a.length b.length c) (far a b c)), o9, o10] G =
      some (.nx [some (.str a), some (.str b), some v2, some v3, some v4, some v5, some (.int c), some v7, some (adD (linesN a.length b.length c) (far a b c)), u9, u10] (G ++ g))
  | [], o9, o10, G, _ => ⟨_, _, [], by rw [List.append_nil]; rfl⟩
  | l :: L, o9, o10, G, h => by
    have hl := h l (by simp)
    obtain ⟨g1, e1⟩ : ∃ g, (ev (F m) (E.ite (E.cmp Cop.eq (E.v 6) (E.k (D.int 0))) (E.call 6 4 (E.cons (E.v 0) (E.cons (E.v 1) (E.cons (E.k (D.int 0)) (E.cons (E.k (D.int 0)) E.nil))))) (E.call 11 4 (E.cons (E.v 0) (E.cons (E.v 1) (E.cons (E.v 5) (E.cons (E.v 9) E.nil))))))).1
        [some (.str a), some (.str b), some v2, some v3, some v4, some v5, some (.int c), some v7, some (adD (linesN a.length b.length c) (far a b c)), some (.int l), o10] G = some (.int (far a b c l : Nat), G ++ g) := by
      have e0 : (ev (F m) (E.cmp Cop.eq (E.v 6) (E.k (D.int 0)))).2 [some (.str a), some (.str b), some v2, some v3, some v4, some v5, some (.int c), some v7, some (adD (linesN a.length b.length c) (far a b c)), some (.int l), o10] G = some ((c : Int) == 0, G) := cmp_t (v_s rfl) k_s cmp_eqI
      rw [ev_ite1, e0, bnd_s]
      by_cases hc : c = 0
      · subst hc
        rw [lines_0, List.mem_singleton] at hl
        subst hl
        refine ⟨[], ?_⟩
        have es : F m 6 [.str a, .str b, .int 0, .int 0] G = some (.int (slN a b 0 0 : Nat), G) := slid_run (m := m) (by omega) (x := 0) (y := 0) (l := 0) (by omega) (by omega) (by omega) (by omega) (by omega)
        rw [if_pos (by rfl), call_s (n := 4) (cons_s (v_s (i := 0) rfl) (cons_s (v_s (i := 1) rfl) (cons_s k_s (cons_s k_s nil_s)))) rfl es]
        simp [slN, far]
      · have hc1 : 1 ≤ c := by omega
        obtain ⟨g, e⟩ := reached_run (m := m) (by omega) (G := G) (a := a) (b := b) (c := c) (l := l) (X := far a b (c - 1)) (by omega) (by omega) hc1 hl fun l' h' => far_val a b (c - 1) l' h'
        refine ⟨g, ?_⟩
        rw [if_neg (by simp; omega), far_succ hc1]
        rw [← h5 hc1] at e
        exact call_s (four_v rfl rfl rfl rfl) rfl e
    obtain ⟨u9, u10, g2, e2⟩ := for_due hm (v2 := v2) (v3 := v3) (v4 := v4) (v7 := v7) ha hb h5 L (some (.int l)) (some (.int (far a b c l : Nat))) (G ++ g1) fun l' h' => h l' (by simp [h'])
    refine ⟨u9, u10, g1 ++ g2, ?_⟩
    rw [← List.append_assoc, List.map_cons]
    refine for_step bindL_nm ?_ e2
    refine (set_s e1).trans ?_
    have e3 : (ev (F m) (E.cmp Cop.lt (E.idx (E.v 8) (E.v 9)) (E.v 10))).2 [some (.str a), some (.str b), some v2, some v3, some v4, some v5, some (.int c), some v7, some (adD (linesN a.length b.length c) (far a b c)), some (.int l), some (.int (far a b c l : Nat))] (G ++ g1) = some (false, G ++ g1) := by
      refine cmp_t (idx_s (v_s (i := 8) rfl) (v_s (i := 9) rfl) (idx_ad hl)) (v_s (i := 10) rfl) ?_
      rw [cmp_ltI]; simp
    exact (seq_ife_f e3).trans evS_skip
abbrev bPrv : S := (S.seq (S.ife (E.not (E.call 18 4 (E.cons (E.v 0) (E.cons (E.v 1) (E.cons (E.v 6) (E.cons (E.v 7) E.nil)))))) (S.seq (S.ret (E.k (D.bl false))) S.skip) S.skip) (S.seq (S.set 8 (E.drow (E.v 7))) (S.seq (S.for_ (Tg.nm 9) (E.iseq (E.v 8)) bDue) (S.seq (S.ife (E.cmp Cop.eq (E.dget (E.v 8) (E.bin Bop.sub (E.blt Blt.len (E.cons (E.v 0) E.nil)) (E.blt Blt.len (E.cons (E.v 1) E.nil))) (E.neg (E.k (D.int 1)))) (E.blt Blt.len (E.cons (E.v 0) E.nil))) (S.seq (S.ret (E.k (D.bl false))) S.skip) S.skip) (S.seq (S.set 5 (E.v 8)) S.skip)))))
theorem for_prv {m : Nat} (hm : 3 ≤ m) {a b : List Nat} {v2 v3 v4 : D} (ha : a.length ≤ 90) (hb : b.length ≤ 90) : ∀ (k c : Nat) (v5 : D) (o6 o7 o8 o9 o10 : Option D) (G : Hs), c + k ≤ dist a b → (1 ≤ c → v5 = adD (linesN a.length b.length (c - 1)) (far a b (c - 1))) →
    ∃ ς' g, loopF (Tg.tp (Tg.cons (Tg.nm 6) (Tg.cons (Tg.nm 7) Tg.nil))) (evS (F m) bPrv) ((List.range' c k).map fun c => .tup [.int (c : Nat), rowOfL (linesN a.length b.length c) (far a b c)]) [some (.str a), some (.str b), some v2, some v3, some v4, some v5, o6, o7, o8, o9, o10] G = some (.nx ς' (G ++ g))
  | 0, c, v5, o6, o7, o8, o9, o10, G, _, _ => ⟨_, [], by rw [List.append_nil]; rfl⟩
  | k + 1, c, v5, o6, o7, o8, o9, o10, G, h, h5 => by
    have hd : dist a b ≤ 180 := by have := dist_le _ a b (Nat.le_refl _); omega
    have f1 : a.length ≤ 16777216 := by omega
    have f2 : b.length ≤ 16777216 := by omega
    have e1 := is_row_run (m := m) (by omega) (G := G) (a := a) (b := b) (c := c) (X := far a b c) ha hb (by omega) fun l hl => by have := (far_val a b c l hl).le; omega
    obtain ⟨u9, u10, g1, e2⟩ := for_due (m := m) hm (v2 := v2) (v3 := v3) (v4 := v4) (v5 := v5) (v7 := rowOfL (linesN a.length b.length c) (far a b c)) ha hb h5 (linesN a.length b.length c) o9 o10 G fun l hl => hl
    obtain ⟨ς', g2, e3⟩ := for_prv hm (v2 := v2) (v3 := v3) (v4 := v4) ha hb k (c + 1) (adD (linesN a.length b.length c) (far a b c)) (some (.int c)) (some (rowOfL (linesN a.length b.length c) (far a b c))) (some (adD (linesN a.length b.length c) (far a b c))) u9 u10 (G ++ g1) (by omega) fun _ => rfl
    refine ⟨ς', g1 ++ g2, ?_⟩
    rw [← List.append_assoc, show List.range' c (k + 1) = c :: List.range' (c + 1) k from rfl, List.map_cons]
    refine for_step bind2 ?_ e3
    have s1 : (ev (F m) (E.not (E.call 18 4 (E.cons (E.v 0) (E.cons (E.v 1) (E.cons (E.v 6) (E.cons (E.v 7) E.nil))))))).2 [some (.str a), some (.str b), some v2, some v3, some v4, some v5, some (.int c), some (rowOfL (linesN a.length b.length c) (far a b c)), o8, o9, o10] G = some (false, G) := not_call_f (four_v rfl rfl rfl rfl) rfl e1
    refine (seq_ife_f s1).trans ?_
    refine (set_s (d := adD (linesN a.length b.length c) (far a b c)) (G1 := G) (by rw [ev_drow1, v_s (i := 7) rfl, bnd_s]; exact drow_row (lines_nd _ _ _))).trans ?_
    refine (for_nx (ds := (linesN a.length b.length c).map .int) (G1 := G) (by rw [ev_iseq1, v_s (i := 8) rfl, bnd_s]; exact seq_ad) e2).trans ?_
    have s4 : (ev (F m) (E.cmp Cop.eq (E.dget (E.v 8) (E.bin Bop.sub (E.blt Blt.len (E.cons (E.v 0) E.nil)) (E.blt Blt.len (E.cons (E.v 1) E.nil))) (E.neg (E.k (D.int 1)))) (E.blt Blt.len (E.cons (E.v 0) E.nil)))).2
        [some (.str a), some (.str b), some v2, some v3, some v4, some v5, some (.int c), some (rowOfL (linesN a.length b.length c) (far a b c)), some (adD (linesN a.length b.length c) (far a b c)), u9, u10] (G ++ g1) = some (false, G ++ g1) := by
      refine cmp_t (x := .int (if ((a.length : Int) - b.length) ∈ linesN a.length b.length c then (far a b c ((a.length : Int) - b.length) : Int) else -1)) (G1 := G ++ g1) ?_ (blt_s (one_v (i := 0) rfl) (lenS f1)) ?_
      · rw [ev_dget]
        unfold getD2
        rw [v_s (i := 8) rfl, bnd_s, bin_s (blt_s (one_v (i := 0) rfl) (lenS f1)) (blt_s (one_v (i := 1) rfl) (lenS f2)) bin_subi, bnd_s, ev_neg1, k_s, bnd_s]
        simp only [negD, bnd_s, adD_eq, keyD, Option.bind_some]
        rw [look_ad]
        split <;> rfl
      · rw [cmp_eqI]
        refine congrArg some ?_
        rw [beq_eq_false_iff_ne]
        split
        · rename_i hl
          exact far_short (by omega) hl
        · omega
    refine (seq_ife_f s4).trans ?_
    exact (set_s (v_s (i := 8) rfl)).trans evS_skip
theorem zipIdx_prows (a b : List Nat) : ∀ (k c : Nat), (((List.range' c k).map fun c => rowOfL (linesN a.length b.length c) (far a b c)).zipIdx c).map (fun p => D.tup [.int (p.2 : Nat), p.1]) = (List.range' c k).map fun c => .tup [.int (c : Nat), rowOfL (linesN a.length b.length c) (far a b c)]
  | 0, c => rfl
  | k + 1, c => by
    rw [show List.range' c (k + 1) = c :: List.range' (c + 1) k from rfl]
    simp only [List.map_cons, List.zipIdx_cons]
    rw [zipIdx_prows a b k (c + 1)]
theorem proves_least_run {m : Nat} (hm : 7 ≤ m) {G : Hs} {a b : List Nat} {es : List Ed} (ha : a.length ≤ 90) (hb : b.length ≤ 90) (told : Told a b es) : ∃ l, F m 19 [.str a, .str b, esD es, .tup (prows a b (dist a b))] G = some (.bl true, G ++ l) := by
  have hd : dist a b ≤ 180 := by have := dist_le _ a b (Nat.le_refl _); omega
  have e1 := all_applied_run (m := m - 1) (by omega) (G := G) (t := a) (es := es) (by omega) told.ok
  rw [putAll_weave told.ok.wf, told.out] at e1
  have e2 := cost_of_run (m := m - 1) (by omega) (G := G) (es := es) (fun x hx => by have := sub_sum_cost hx; rw [told.cost] at this; omega) (by have := told.ok.few; omega)
  rw [told.cost] at e2
  obtain ⟨ς', g, e3⟩ := for_prv (m := m - 1) (by omega) (a := a) (b := b) (v2 := esD es) (v3 := .tup (prows a b (dist a b))) (v4 := .int (dist a b : Nat)) ha hb (dist a b) 0 (dicOf []) none none none none none G (by omega) (by omega)
  refine ⟨g, run_ t19 rfl (by omega) ?_⟩
  show (evS (F (m - 1)) b19 [some (.str a), some (.str b), some (esD es), some (.tup (prows a b (dist a b))), none, none, none, none, none, none, none] G).bind outD = _
  unfold b19
  rw [seq_ife_f (ne_f (call_s (n := 2) (two_v rfl rfl) rfl e1) (v_s (i := 1) rfl) ne_str)]
  refine (congrArg (fun z => Option.bind z outD) (set_s (call_s (one_v (i := 2) rfl) rfl e2))).trans ?_
  refine (congrArg (fun z => Option.bind z outD) (seq_ife_f (G1 := G) (or_ff (G1 := G) (not_t (x := true) (by simp)) (ne_f (blt_s (one_v (i := 3) rfl) (by rw [blt_len, one_s, len_tup])) (v_s (i := 4) rfl) (by simp [prows]))))).trans ?_
  refine (congrArg (fun z => Option.bind z outD) (set_s ev_dic0)).trans ?_
  refine (congrArg (fun z => Option.bind z outD) (for_nx (ds := (List.range' 0 (dist a b)).map fun c => .tup [.int (c : Nat), rowOfL (linesN a.length b.length c) (far a b c)]) (G1 := G) ?_ e3)).trans ?_
  · rw [ev_ienum1, one_v (i := 3) rfl, bnd_s, argK_s]
    show some (D.tup ((prows a b (dist a b)).zipIdx.map _), G) = _
    unfold prows
    rw [List.range_eq_range', zipIdx_prows]
  · exact seq_ret k_s
end K14
set_option Elab.async false
set_option linter.all false
set_option autoImplicit false
set_option maxRecDepth 100000
set_option maxHeartbeats 2000000
/-! finds of one sign -/
namespace K14
open PySem PySem.Spec L2 Mp
open PyProof.Rows hiding St

theorem loopW_t {c : FB} {f : FS} {n : Nat} {ς ς' : Env'} {G G1 G2 : Hs} (h : c ς G = some (true, G1)) (h2 : f ς G1 = some (.nx ς' G2)) : loopW c f (n + 1) ς G = loopW c f n ς' G2 := by
  simp only [loopW, h, bnd_s, if_true, h2, Option.bind_some]
theorem loopW_f {c : FB} {f : FS} {n : Nat} {ς : Env'} {G G1 : Hs} (h : c ς G = some (false, G1)) : loopW c f (n + 1) ς G = some (.nx ς G1) := by
  simp only [loopW, h, bnd_s, Bool.false_eq_true, if_false]
theorem borders_of_run {m : Nat} (hm : 1 ≤ m) {G : Hs} {c : Nat} : F m 44 [.str [c]] G = some (.tup [.int 0], G ++ [.lst [.int 0]]) := by
  refine run_ t44 rfl hm ?_
  show (evS (F (m - 1)) b44 [some (.str [c]), none, none, none] G).bind outD = _
  unfold b44
  rw [set_s (d := .ref G.length) (G1 := G ++ [.lst [.int 0]])]
  · refine (congrArg (fun z => Option.bind z outD) (set_s k_s)).trans ?_
    refine (congrArg (fun z => Option.bind z outD) (for_nx (ds := []) (G1 := G ++ [.lst [.int 0]]) ?_ rfl)).trans ?_
    · rw [ev_irng1, cons_s k_s (cons_s (blt_s (one_v (i := 0) rfl) (lenS (by simp))) nil_s), bnd_s, argK_s, rng2_s (q := (1, 1, 0)) (by rw [rgA_2, if_pos (by simp)]; rfl)]
      rfl
    · refine seq_ret (blt_s (one_v (i := 1) rfl) ?_)
      show tupD _ _ = _
      exact tup_r at_new
  · rw [ev_repM1, lst_s (cons_s k_s nil_s) (by simp), bnd_s, blt_s (one_v (i := 0) rfl) (lenS (by simp)), bnd_s]
    show Mp.repM (.lst [.int 0]) (.int 1) G = _
    unfold Mp.repM
    simp [Mp.listOf, sz]
abbrev bPl : S := (S.seq (S.whl 100000 (E.and (E.cmp Cop.gt (E.v 4) (E.k (D.int 0))) (E.or (E.cmp Cop.eq (E.v 4) (E.blt Blt.len (E.cons (E.v 1) E.nil))) (E.cmp Cop.ne (E.v 6) (E.idx (E.v 1) (E.v 4))))) (S.seq (S.set 4 (E.idx (E.v 2) (E.bin Bop.sub (E.v 4) (E.k (D.int 1))))) S.skip)) (S.seq (S.aug 4 Aop.add (E.ite (E.cmp Cop.eq (E.v 6) (E.idx (E.v 1) (E.v 4))) (E.k (D.int 1)) (E.k (D.int 0)))) (S.seq (S.ife (E.cmp Cop.eq (E.v 4) (E.blt Blt.len (E.cons (E.v 1) E.nil))) (S.seq (S.drop (E.mth Mth.append (E.v 3) (E.cons (E.bin Bop.sub (E.bin Bop.add (E.v 5) (E.k (D.int 1))) (E.v 4)) E.nil))) S.skip) S.skip) S.skip)))
def hits (c : Nat) (ps : List (Nat × Nat)) : List D := (ps.filter fun p => p.1 == c).map fun p => .int (p.2 : Nat)
theorem for_pl {cl : Nat → List D → Hs → Rs} {c : Nat} {v0 : D} {G : Hs} : ∀ (ps : List (Nat × Nat)) (b : Bool) (o5 o6 : Option D) (acc : List D), acc.length + ps.length ≤ 10000 →
    ∃ ς', ς'[3]? = some (some (.ref G.length)) ∧ loopF (Tg.tp (Tg.cons (Tg.nm 5) (Tg.cons (Tg.nm 6) Tg.nil))) (evS cl bPl) (ps.map fun p => .tup [.int (p.2 : Nat), .str [p.1]]) [some v0, some (.str [c]), some (.tup [.int 0]), some (.ref G.length), some (.int (if b then 1 else 0)), o5, o6] (G ++ [.lst acc]) =
      some (.nx ς' (G ++ [.lst (acc ++ hits c ps)]))
  | [], b, o5, o6, acc, _ => ⟨_, rfl, by simp [hits]; rfl⟩
  | (x, i) :: ps, b, o5, o6, acc, h => by
    simp only [List.length_cons] at h
    let st : Int → Env' := fun z => [some v0, some (.str [c]), some (.tup [.int 0]), some (.ref G.length), some (.int z), some (.int (i : Nat)), some (.str [x])]
    -- the loop that goes back
    have w0 : ∀ n : Nat, loopW (ev cl (E.and (E.cmp Cop.gt (E.v 4) (E.k (D.int 0))) (E.or (E.cmp Cop.eq (E.v 4) (E.blt Blt.len (E.cons (E.v 1) E.nil))) (E.cmp Cop.ne (E.v 6) (E.idx (E.v 1) (E.v 4)))))).2 (evS cl (S.seq (S.set 4 (E.idx (E.v 2) (E.bin Bop.sub (E.v 4) (E.k (D.int 1))))) S.skip)) (n + 1) (st 0) (G ++ [.lst acc]) = some (.nx (st 0) (G ++ [.lst acc])) := by
      intro n
      have t : (ev cl (E.and (E.cmp Cop.gt (E.v 4) (E.k (D.int 0))) (E.or (E.cmp Cop.eq (E.v 4) (E.blt Blt.len (E.cons (E.v 1) E.nil))) (E.cmp Cop.ne (E.v 6) (E.idx (E.v 1) (E.v 4)))))).2 (st 0) (G ++ [.lst acc]) = some (false, G ++ [.lst acc]) := by simp [st]
      simp only [loopW, t, bnd_s, Bool.false_eq_true, if_false]
    have w1 : loopW (ev cl (E.and (E.cmp Cop.gt (E.v 4) (E.k (D.int 0))) (E.or (E.cmp Cop.eq (E.v 4) (E.blt Blt.len (E.cons (E.v 1) E.nil))) (E.cmp Cop.ne (E.v 6) (E.idx (E.v 1) (E.v 4)))))).2 (evS cl (S.seq (S.set 4 (E.idx (E.v 2) (E.bin Bop.sub (E.v 4) (E.k (D.int 1))))) S.skip)) 100000 (st (if b then 1 else 0)) (G ++ [.lst acc]) = some (.nx (st 0) (G ++ [.lst acc])) := by
      cases b with
      | false => exact w0 99999
      | true =>
        have t : (ev cl (E.and (E.cmp Cop.gt (E.v 4) (E.k (D.int 0))) (E.or (E.cmp Cop.eq (E.v 4) (E.blt Blt.len (E.cons (E.v 1) E.nil))) (E.cmp Cop.ne (E.v 6) (E.idx (E.v 1) (E.v 4)))))).2 (st 1) (G ++ [.lst acc]) = some (true, G ++ [.lst acc]) := by
          simp [st, sz]
        have e : evS cl (S.seq (S.set 4 (E.idx (E.v 2) (E.bin Bop.sub (E.v 4) (E.k (D.int 1))))) S.skip) (st 1) (G ++ [.lst acc]) = some (.nx (st 0) (G ++ [.lst acc])) := by
          rw [set_s (idx_s (v_s (i := 2) rfl) (bin_s (v_s (i := 4) rfl) k_s bin_subi) rfl), evS_skip]; rfl
        exact (loopW_t (n := 99999) t e).trans (w0 99998)
    have hbd : bindL (Tg.tp (Tg.cons (Tg.nm 5) (Tg.cons (Tg.nm 6) Tg.nil))) [.tup [.int (i : Nat), .str [x]]] [some v0, some (.str [c]), some (.tup [.int 0]), some (.ref G.length), some (.int (if b then 1 else 0)), o5, o6] = some (st (if b then 1 else 0)) := bind2
    have ea : (ev cl (E.ite (E.cmp Cop.eq (E.v 6) (E.idx (E.v 1) (E.v 4))) (E.k (D.int 1)) (E.k (D.int 0)))).1 (st 0) (G ++ [.lst acc]) = some (.int (if (x == c) = true then 1 else 0), G ++ [.lst acc]) := by
      have at0 : atI [c] 0 = some c := rfl
      by_cases q : x = c <;> simp [st, sz, at0, q]
    obtain ⟨ς', h3, ih⟩ := for_pl (cl := cl) (c := c) (v0 := v0) (G := G) ps (x == c) (some (.int (i : Nat))) (some (.str [x])) (acc ++ hits c [(x, i)]) (by
      have : (hits c [(x, i)]).length ≤ 1 := by unfold hits; rw [List.length_map]; exact List.length_filter_le _ _
      simp only [List.length_append]; omega)
    refine ⟨ς', h3, ?_⟩
    have eh : acc ++ hits c ((x, i) :: ps) = (acc ++ hits c [(x, i)]) ++ hits c ps := by
      unfold hits
      by_cases q : x = c <;> simp [q]
    rw [eh, List.map_cons]
    refine for_step hbd ?_ ih
    refine (whl_nx w1).trans ?_
    refine (aug_s (i := 4) (d0 := .int 0) rfl ea aug_add).trans ?_
    have est : (st 0).set 4 (some (.int (0 + if (x == c) = true then 1 else 0))) = st (if (x == c) = true then 1 else 0) := by rw [Int.zero_add]; rfl
    rw [est]
    by_cases q : (x == c) = true
    · rw [if_pos q]
      have t : (ev cl (E.cmp Cop.eq (E.v 4) (E.blt Blt.len (E.cons (E.v 1) E.nil)))).2 (st 1) (G ++ [.lst acc]) = some (true, G ++ [.lst acc]) := cmp_t (v_s (i := 4) rfl) (blt_s (one_v (i := 1) rfl) (lenS (by simp))) rfl
      have ap : (ev cl (E.mth Mth.append (E.v 3) (E.cons (E.bin Bop.sub (E.bin Bop.add (E.v 5) (E.k (D.int 1))) (E.v 4)) E.nil))).1 (st 1) (G ++ [.lst acc]) = some (.non, G ++ [.lst (acc ++ hits c [(x, i)])]) := by
        refine mth_s (v_s (i := 3) rfl) (ref_ty at_new) (cons_s (bin_s (bin_s (v_s (i := 5) rfl) k_s bin_addi) (v_s (i := 4) rfl) bin_subi) nil_s) ?_
        rw [mk_append, app_new (by omega)]
        have : hits c [(x, i)] = [.int ((i : Int) + 1 - 1)] := by
          unfold hits
          rw [List.filter_cons_of_pos (by exact q)]
          simp
        rw [this]
      rw [seq_nx (ς' := st 1) (G1 := G ++ [.lst (acc ++ hits c [(x, i)])]) (by rw [evS_ife, t, bnd_s, if_pos rfl, drop_s ap, evS_skip]), evS_skip]
    · rw [if_neg q]
      have t : (ev cl (E.cmp Cop.eq (E.v 4) (E.blt Blt.len (E.cons (E.v 1) E.nil)))).2 (st 0) (G ++ [.lst acc]) = some (false, G ++ [.lst acc]) := cmp_t (v_s (i := 4) rfl) (blt_s (one_v (i := 1) rfl) (lenS (by simp))) rfl
      have : hits c [(x, i)] = [] := by unfold hits; rw [List.filter_cons_of_neg (by exact q)]; rfl
      rw [this, List.append_nil, seq_nx (ς' := st 0) (G1 := G ++ [.lst acc]) (by rw [evS_ife, t, bnd_s, if_neg (by decide), evS_skip]), evS_skip]
theorem places_of_run {m : Nat} (hm : 2 ≤ m) {G : Hs} {t : List Nat} {c : Nat} (hl : t.length ≤ 5000) : ∃ g, F m 45 [.str t, .str [c]] G = some (.lst (hits c t.zipIdx), G ++ g) := by
  have e1 := borders_of_run (m := m - 1) (by omega) (G := G) (c := c)
  obtain ⟨ς', h3, e2⟩ := for_pl (cl := F (m - 1)) (c := c) (v0 := .str t) (G := G ++ [.lst [.int 0]]) t.zipIdx false none none [] (by simp; omega)
  refine ⟨[.lst [.int 0], .gone], run_ t45 rfl (by omega) ?_⟩
  show (evS (F (m - 1)) b45 [some (.str t), some (.str [c]), none, none, none, none, none] G).bind outD = _
  unfold b45
  rw [par2_s (cons_s (call_s (n := 1) (one_v rfl) rfl e1) (cons_s (lstM_s nil_s (by simp)) nil_s))]
  refine (congrArg (fun z => Option.bind z outD) (set_s k_s)).trans ?_
  refine (congrArg (fun z => Option.bind z outD) (for_nx (ds := t.zipIdx.map fun p => .tup [.int (p.2 : Nat), .str [p.1]]) (G1 := G ++ [.lst [.int 0]] ++ [.lst []]) ?_ e2)).trans ?_
  · rw [ev_ienum1, one_v (i := 0) rfl, bnd_s, argK_s]; rfl
  · have : (ev (F (m - 1)) (E.frz 3)).1 ς' (G ++ [.lst [.int 0]] ++ [.lst ([] ++ hits c t.zipIdx)]) = some (.lst (hits c t.zipIdx), G ++ [.lst [.int 0], .gone]) := by
      rw [ev_frz1, h3, Option.bind_some, Option.bind_some, frz_r at_new, set_new]
      simp
    exact seq_ret this
theorem finds_run {m : Nat} (hm : 3 ≤ m) {G : Hs} {t : List Nat} {c : Nat} (hl : t.length ≤ 5000) : ∃ g, F m 47 [.str t, .tup [.str [c], .bl false, .bl true]] G = some (.tup (hits c t.zipIdx), G ++ g) := by
  obtain ⟨g, e1⟩ := places_of_run (m := m - 1) (by omega) (G := G) (t := t) (c := c) hl
  have hlen : (hits c t.zipIdx).length ≤ 5000 := by
    unfold hits
    rw [List.length_map]
    exact Nat.le_trans (List.length_filter_le _ _) (by simpa using hl)
  refine ⟨g, run_ t47 rfl (by omega) ?_⟩
  show (evS (F (m - 1)) b47 [some (.str t), some (.tup [.str [c], .bl false, .bl true]), none, none, none, none, none] G).bind outD = _
  unfold b47
  rw [tgt_s (v_s (i := 1) rfl) bind3]
  refine (congrArg (fun z => Option.bind z outD) (set_s (d := .lst (hits c t.zipIdx)) (G1 := G ++ g) ?_)).trans ?_
  · rw [ev_ite1]
    have : (ev (F (m - 1)) (E.v 4)).2 ((([some (.str t), some (.tup [.str [c], .bl false, .bl true]), none, none, none, none, none].set 2 (some (.str [c]))).set 3 (some (.bl false))).set 4 (some (.bl true))) G = some (true, G) := rfl
    rw [this, bnd_s, if_pos rfl]
    exact call_s (two_v rfl rfl) rfl e1
  · have hc := comp_map (cl := F (m - 1)) (ς := [some (.str t), some (.tup [.str [c], .bl false, .bl true]), some (.str [c]), some (.bl false), some (.bl true), some (.lst (hits c t.zipIdx)), none]) (G := G ++ g) (G1 := G ++ g) (own := [6]) (t := Tg.nm 6) (it := E.iseq (E.v 5)) (c := E.or (E.not (E.v 3)) (E.call 46 3 (E.cons (E.v 0) (E.cons (E.v 6) (E.cons (E.blt Blt.len (E.cons (E.v 2) E.nil)) E.nil))))) (e := E.v 6) (ds := hits c t.zipIdx) id (by simp) (by omega) (fun d hd => ⟨_, bindL_nm, rfl, rfl⟩)
    refine seq_ret (blt_s (cons_s hc nil_s) ?_)
    rw [List.map_id]; rfl
end K14
set_option Elab.async false
set_option linter.all false
set_option autoImplicit false
set_option maxRecDepth 100000
set_option maxHeartbeats 2000000
/-! _law_shuffled -/
namespace K14
open PySem PySem.Spec L2 Mp
open PyProof.Rows hiding St

def Plain (ds : List D) : Prop := ∀ d ∈ ds, (∃ i, d = .int i) ∨ ∃ s : List Nat, d = .str s ∧ ∀ c ∈ s, c < 1114112
theorem okDs_plain : ∀ {ds : List D}, Plain ds → okDs ds = true ∧ depDs ds ≤ 1
  | [], _ => ⟨by simp [okDs], by simp [depDs]⟩
  | d :: ds, h => by
    obtain ⟨h1, h2⟩ := okDs_plain fun x hx => h x (List.mem_cons_of_mem _ hx)
    rcases h d (by simp) with ⟨i, rfl⟩ | ⟨s, rfl, hs⟩
    · exact ⟨by simp [okDs, okD, h1], by simp [depDs, depD]; omega⟩
    · exact ⟨by simp [okDs, okD, h1]; exact hs, by simp [depDs, depD]; omega⟩
theorem okC_plain {ds : List D} (h : Plain ds) : okC (.lst ds) = true := by
  obtain ⟨h1, h2⟩ := okDs_plain h
  simp [okC, okD, depD, h1]; omega
theorem ne_ref {G : Hs} {n : Nat} {ds : List D} (h : G[n]? = some (.lst ds)) (hp : Plain ds) : cmpB .ne (.ref n) (.lst []) G = some (!ds.isEmpty) := by
  have e : deref G (.ref n) = .lst ds := by simp [deref, h]
  show (if okC (deref G (.ref n)) ∧ okC (.lst []) then some (eqD (deref G (.ref n)) (.lst [])) else none).map (!·) = _
  rw [e, if_pos ⟨okC_plain hp, by rfl⟩]
  cases ds with
  | nil => simp [eqD, eqDs]
  | cons d ds => simp [eqD, eqDs]
theorem seqI {r n : Nat} (h : r < n) : seqIndex? (r : Int) n = some r := by
  unfold seqIndex?
  have h0 : ¬ ((r : Int) < 0) := by omega
  simp [h0]
  omega
theorem pop_at {G : Hs} {n : Nat} {ds : List D} {r : Nat} (h : G[n]? = some (.lst ds)) (hr : r < ds.length) (hl : ds.length ≤ 10000) : popM (.ref n) [.int (r : Nat)] G = some (ds[r], G.set n (.lst (ds.eraseIdx r))) := by
  unfold popM
  simp only [h]
  rw [if_pos (by omega), seqI hr, Option.bind_some, List.getElem?_eq_getElem hr, Option.bind_some]
theorem perm_pop {fs ls : List D} {r : Nat} (hr : r < ls.length) : ((fs ++ [ls[r]]) ++ ls.eraseIdx r).Perm (fs ++ ls) := by
  rw [List.append_assoc]
  refine List.Perm.append_left fs ?_
  rw [List.eraseIdx_eq_take_drop_succ]
  have e : ls = ls.take r ++ ls[r] :: ls.drop (r + 1) := by
    conv => lhs; rw [← List.take_append_drop r ls, List.drop_eq_getElem_cons hr]
  conv => rhs; rw [e]
  exact (List.perm_middle (a := ls[r]) (l₁ := ls.take r) (l₂ := ls.drop (r + 1))).symm
abbrev shC : E := (E.cmp Cop.ne (E.v 2) (E.lst false E.nil))
abbrev shB : S := (S.seq (S.drop (E.mth Mth.append (E.v 3) (E.cons (E.mth Mth.pop (E.v 2) (E.cons (E.call 37 2 (E.cons (E.v 0) (E.cons (E.blt Blt.len (E.cons (E.v 2) E.nil)) E.nil))) E.nil)) E.nil))) S.skip)
theorem shuffled_run {m : Nat} (hm : 2 ≤ m) {dn : Nat} {G : Hs} (hd : Dr dn G) {ds : List D} (hp : Plain ds) (hl : ds.length ≤ 1000) : ∃ fs G', F m 48 [.ref dn, .lst ds] G = some (.lst fs, G') ∧ fs.Perm ds ∧ Mv dn G G' ∧ Dr dn G' := by
  let st : Env' := [some (.ref dn), some (.lst ds), some (.ref G.length), some (.ref (G.length + 1))]
  let G0 : Hs := G ++ [.lst ds, .lst []]
  have key := loopW_run (c := (ev (F (m - 1)) shC).2) (f := evS (F (m - 1)) shB)
    (I := fun k ς G' => ∃ ls fs, ς = st ∧ Dr dn G' ∧ G'[G.length]? = some (.lst ls) ∧ G'[G.length + 1]? = some (.lst fs) ∧ Mv dn G G' ∧ (fs ++ ls).Perm ds ∧ k = ls.length)
    (Q := fun ς G' => ∃ fs, ς = st ∧ Dr dn G' ∧ G'[G.length + 1]? = some (.lst fs) ∧ Mv dn G G' ∧ fs.Perm ds) ?_ 100000 ds.length st G0
    ⟨ds, [], rfl, hd.app, by simp [G0], by show (G ++ _)[G.length + 1]? = _; rw [List.getElem?_append_right (by omega)]; simp, (hd.refl).app, by simp, rfl⟩ (by omega)
  · obtain ⟨ς', G', e1, fs, rfl, hd', hf, hmv, hperm⟩ := key
    have hlt := hd.lt
    refine ⟨fs, G'.set (G.length + 1) .gone, run_ t48 rfl (by omega) ?_, hperm, hmv.set hd (c := .gone) (d := .gone) (by omega), (hmv.set hd (c := .gone) (d := .gone) (by omega)).dr hd⟩
    show (evS (F (m - 1)) b48 [some (.ref dn), some (.lst ds), none, none] G).bind outD = _
    unfold b48
    have h1 : (ev (F (m - 1)) (E.cons (E.blt (Blt.list true) (E.cons (E.v 1) E.nil)) (E.cons (E.lst true E.nil) E.nil))).1 [some (.ref dn), some (.lst ds), none, none] G = some (.tup [.ref G.length, .ref (G.length + 1)], G0) := by
      refine cons_s (G1 := G ++ [.lst ds]) (blt_s (one_v (i := 1) rfl) ?_) (cons_s (lstM_s nil_s (by simp)) nil_s |>.trans ?_)
      · rw [blt_list, one_s]; rfl
      · simp [G0]
    rw [par2_s h1]
    refine (congrArg (fun z => Option.bind z outD) (whl_nx e1)).trans ?_
    refine seq_ret ?_
    rw [ev_frz1]
    show (some (some (D.ref (G.length + 1)))).bind _ = _
    rw [Option.bind_some, Option.bind_some, frz_r hf]
  · rintro k ς G' ⟨ls, fs, rfl, hd', h1, h2, hmv, hperm, rfl⟩
    have hpl : Plain ls := fun d hx => hp d (hperm.mem_iff.mp (by simp [hx]))
    have hlen : fs.length + ls.length = ds.length := by rw [← List.length_append]; exact hperm.length_eq
    have t : (ev (F (m - 1)) shC).2 st G' = some (!ls.isEmpty, G') := cmp_t (v_s (i := 2) rfl) (lst_s nil_s (by simp)) (ne_ref h1 hpl)
    refine ⟨_, _, t, fun h0 => ?_, fun h0 => ?_⟩
    · have : ls = [] := by cases ls with | nil => rfl | cons a b => simp at h0
      subst this
      exact ⟨fs, rfl, hd', h2, hmv, by simpa using hperm⟩
    · have hne : 0 < ls.length := by cases ls with | nil => simp at h0 | cons a b => simp
      obtain ⟨r, G1, hr, hmv1, hd1, e⟩ := take0_run (m := m - 1) (by omega) hd' hne
      have hlt := hd.lt
      have g1 : G1[G.length]? = some (.lst ls) := hmv1.at (by omega) h1
      have g2 : G1[G.length + 1]? = some (.lst fs) := hmv1.at (by omega) h2
      have m1 : Mv dn G G1 := hmv.tr hd hmv1
      let G2 := G1.set G.length (.lst (ls.eraseIdx r))
      have m2 : Mv dn G G2 := m1.set hd (c := .gone) (d := .lst (ls.eraseIdx r)) (Nat.le_refl _)
      have f2 : G2[G.length + 1]? = some (.lst fs) := by show (G1.set _ _)[_]? = _; rw [List.getElem?_set_ne (by omega)]; exact g2
      have hlt1 : G.length < G1.length := (List.getElem?_eq_some_iff.mp g1).1
      have f1 : G2[G.length]? = some (.lst (ls.eraseIdx r)) := List.getElem?_set_self hlt1
      let G3 := G2.set (G.length + 1) (.lst (fs ++ [ls[r]]))
      have m3 : Mv dn G G3 := m2.set hd (c := .gone) (d := .lst (fs ++ [ls[r]])) (by omega)
      have hlt2 : G.length + 1 < G2.length := (List.getElem?_eq_some_iff.mp f2).1
      refine ⟨(ls.eraseIdx r).length, st, G3, by rw [List.length_eraseIdx_of_lt hr]; omega, ?_, ls.eraseIdx r, fs ++ [ls[r]], rfl, m3.dr hd, ?_, List.getElem?_set_self hlt2, m3, (perm_pop hr).trans hperm, rfl⟩
      · have e2 : (ev (F (m - 1)) (E.mth Mth.pop (E.v 2) (E.cons (E.call 37 2 (E.cons (E.v 0) (E.cons (E.blt Blt.len (E.cons (E.v 2) E.nil)) E.nil))) E.nil))).1 st G' = some (ls[r], G2) := by
          refine mth_s (G1 := G') (v_s (i := 2) rfl) (ref_ty h1) (cons_s (G1 := G1) (call_s (G1 := G') (cons_s (v_s (i := 0) rfl) (cons_s (G1 := G') (blt_s (one_v (i := 2) rfl) (by rw [blt_len, one_s, len_r h1])) nil_s)) rfl e) nil_s) ?_
          rw [mk_pop, pop_at g1 hr (by omega)]
        have e3 : (ev (F (m - 1)) (E.mth Mth.append (E.v 3) (E.cons (E.mth Mth.pop (E.v 2) (E.cons (E.call 37 2 (E.cons (E.v 0) (E.cons (E.blt Blt.len (E.cons (E.v 2) E.nil)) E.nil))) E.nil)) E.nil))).1 st G' = some (.non, G3) := by
          refine mth_s (G1 := G') (v_s (i := 3) rfl) (ref_ty h2) (cons_s e2 nil_s) ?_
          rw [mk_append, app_s f2 (by omega)]
        rw [drop_s e3, evS_skip]
      · show (G2.set _ _)[_]? = _
        rw [List.getElem?_set_ne (by omega)]; exact f1
end K14
set_option Elab.async false
set_option linter.all false
set_option autoImplicit false
set_option maxRecDepth 100000
set_option maxHeartbeats 2000000
/-! _law_table, _law_up -/
namespace K14
open PySem PySem.Spec L2 Mp
open PyProof.Rows hiding St

def intsOf (xs : List Nat) : List Int := xs.map fun x : Nat => (x : Int)
theorem nsD_is (xs : List Nat) : nsD xs = isD (intsOf xs) := by
  unfold nsD isD intsOf
  rw [List.map_map]; rfl
theorem eq_nsnil {xs : List Nat} {G : Hs} : cmpB .eq (nsD xs) (.lst []) G = some xs.isEmpty := by
  rw [nsD_is, show (D.lst []) = isD [] from rfl, eqC_is]
  cases xs <;> simp [intsOf]
theorem tb_set {G : Hs} {n k : Nat} {ds : List D} {d : D} (h : G[n]? = some (.lst ds)) (hk : k < ds.length) : setK (.ref n) (.int (k : Nat)) d G = some (G.set n (.lst (ds.set k d))) := by
  unfold setK
  simp only [h]
  have : L2.ixN ds.length (k : Nat) = some k := by
    unfold L2.ixN
    rw [if_pos (by omega), if_pos (by omega)]; simp
  rw [this]; rfl
theorem min_first {y : Nat} {B : List Nat} (h : ∀ b ∈ B, y < b) : (intsOf (y :: B)).min? = some (y : Int) := by
  show ((y : Int) :: intsOf B).min? = _
  rw [List.min?_cons']
  congr 1
  induction B with
  | nil => rfl
  | cons b B ih =>
    have h1 : y < b := h b (by simp)
    show (intsOf B).foldl min (min (y : Int) (b : Int)) = _
    rw [Int.min_eq_left (by omega)]
    exact ih fun c hc => h c (by simp [hc])
theorem filter_up {A B : List Nat} {y z : Nat} (hr : (A ++ y :: B).Pairwise (· < ·)) (hz : z < y) (hA : ∀ a ∈ A, ¬ z < a) : (A ++ y :: B).filter (fun x => decide (z < x)) = y :: B ∧ ∀ b ∈ B, y < b := by
  rw [List.pairwise_append, List.pairwise_cons] at hr
  refine ⟨?_, hr.2.1.1⟩
  rw [List.filter_append, List.filter_cons_of_pos (by simpa using hz)]
  have h1 : A.filter (fun x => decide (z < x)) = [] := List.filter_eq_nil_iff.mpr fun a ha => by simpa using hA a ha
  have h2 : B.filter (fun x => decide (z < x)) = B := List.filter_eq_self.mpr fun b hb => by have := hr.2.1.1 b hb; simp; omega
  rw [h1, h2]; rfl
theorem idx_of {A B : List Nat} {y : Nat} {G : Hs} (hA : ∀ a ∈ A, a ≠ y) (hl : (A ++ y :: B).length ≤ 1000) : indexM (nsD (A ++ y :: B)) [.int (y : Nat)] G = some (.int (A.length : Nat), G) := by
  have ok1 : okC (.int (y : Nat)) = true := by simp [okC, okD, depD]
  have ok2 : okC (nsD (A ++ y :: B)) = true := by rw [nsD_is]; exact okC_is _
  unfold indexM
  simp only []
  have hlo : Mp.listOf G (nsD (A ++ y :: B)) = some ((A ++ y :: B).map fun x : Nat => D.int (x : Nat)) := rfl
  rw [hlo, Option.bind_some, if_pos ⟨ok1, ok2⟩]
  have : ((A ++ y :: B).map fun x : Nat => D.int (x : Nat)).findIdx? (fun z => eqD z (.int (y : Nat))) = some A.length := by
    rw [List.findIdx?_eq_some_iff_getElem]
    refine ⟨by simp, ?_, fun j hj => ?_⟩
    · simp [eqD]
    · have h1 : (A ++ y :: B)[j]'(by simp; omega) = A[j] := by rw [List.getElem_append_left hj]
      simp only [List.getElem_map, h1, eqD]
      have := hA A[j] (List.getElem_mem hj)
      simp; omega
  rw [this]; rfl
theorem cutN_app1 {α : Type} {A B : List α} {y : α} : cutN (A ++ y :: B) none (some ((A.length : Nat) : Int)) = A := by rw [cut_to]; simp
theorem cutN_app2 {α : Type} {A B : List α} {y : α} : cutN (A ++ y :: B) (some (((A.length : Nat) : Int) + 1)) none = B := by
  rw [show ((A.length : Nat) : Int) + 1 = ((A.length + 1 : Nat) : Int) by omega, cut_from]
  rw [List.drop_append]; simp
abbrev tbC : E := (E.cmp Cop.isn (E.v 2) (E.k D.non))
abbrev tbB1 : S := (S.ife (E.cmp Cop.eq (E.v 3) (E.blt Blt.len (E.cons (E.v 1) E.nil))) (S.seq (S.drop (E.mth Mth.append (E.v 1) (E.cons (E.lst false E.nil) E.nil))) S.skip) S.skip)
abbrev tbB3 : S := (S.ife (E.cmp Cop.eq (E.v 4) (E.lst false E.nil)) (S.seq (S.setIx (E.v 1) (E.v 3) (E.bin Bop.add (E.idx (E.v 1) (E.v 3)) (E.lst false (E.cons (E.v 2) E.nil)))) (S.seq (S.set 2 (E.k D.non)) S.skip)) (S.seq (S.set 6 (E.mth Mth.index (E.idx (E.v 1) (E.v 3)) (E.cons (E.blt Blt.minL (E.cons (E.v 4) E.nil)) E.nil))) (S.seq (S.setIx2 (E.v 1) (E.v 3) 2 (E.tup (E.cons (E.bin Bop.add (E.bin Bop.add (E.sl false (E.idx (E.v 1) (E.v 3)) E.nil (E.v 6)) (E.lst false (E.cons (E.v 2) E.nil))) (E.sl false (E.idx (E.v 1) (E.v 3)) (E.bin Bop.add (E.v 6) (E.k (D.int 1))) E.nil)) (E.cons (E.idx (E.idx (E.v 1) (E.v 3)) (E.v 6)) E.nil)))) S.skip)))
abbrev tbB : S := (S.seq tbB1 (S.seq (S.set 4 (E.comp false (Tg.nm 5) [5] (E.iseq (E.idx (E.v 1) (E.v 3))) (E.cmp Cop.gt (E.v 5) (E.v 2)) (E.v 5))) (S.seq tbB3 (S.seq (S.set 3 (E.bin Bop.add (E.v 3) (E.k (D.int 1)))) S.skip))))
abbrev tbL (P : List (List Nat)) : List D := P.map nsD
section
variable {cl : Nat → List D → Hs → Rs} {v0 : D} {G : Hs}
abbrev tst (v0 : D) (G : Hs) (num : D) (k : Nat) (o4 o5 o6 : Option D) : Env' := [some v0, some (.ref G.length), some num, some (.int (k : Nat)), o4, o5, o6]
theorem tb_row {Q P : List (List Nat)} {r : List Nat} : (tbL (Q ++ r :: P))[Q.length]? = some (nsD r) := by simp [tbL]
theorem tb_idx {Q P : List (List Nat)} {r : List Nat} : idxD (.ref G.length) (.int (Q.length : Nat)) (G ++ [.lst (tbL (Q ++ r :: P))]) = some (nsD r, G ++ [.lst (tbL (Q ++ r :: P))]) := by
  rw [idx_r at_new, atT tb_row]; rfl
theorem tb_put {Q P : List (List Nat)} {r r' : List Nat} : setK (.ref G.length) (.int (Q.length : Nat)) (nsD r') (G ++ [.lst (tbL (Q ++ r :: P))]) = some (G ++ [.lst (tbL (Q ++ r' :: P))]) := by
  rw [tb_set at_new (by simp [tbL]), set_new]
  simp [tbL]
/-- one number put into one row that is there -/
theorem tb_step {Q P : List (List Nat)} {r : List Nat} {z : Nat} {o4 o5 o6 : Option D} (hr : r.Pairwise (· < ·)) (hl : r.length ≤ 500) :
    ∃ u4 u5 u6, evS cl (S.seq (S.set 4 (E.comp false (Tg.nm 5) [5] (E.iseq (E.idx (E.v 1) (E.v 3))) (E.cmp Cop.gt (E.v 5) (E.v 2)) (E.v 5))) (S.seq tbB3 (S.seq (S.set 3 (E.bin Bop.add (E.v 3) (E.k (D.int 1)))) S.skip))) (tst v0 G (.int (z : Nat)) Q.length o4 o5 o6) (G ++ [.lst (tbL (Q ++ r :: P))]) =
      some (.nx (tst v0 G (match (bump z r).2 with | none => .non | some y => .int (y : Nat)) (Q.length + 1) u4 u5 u6) (G ++ [.lst (tbL (Q ++ (bump z r).1 :: P))])) := by
  -- those that are greater
  have hg : (ev cl (E.comp false (Tg.nm 5) [5] (E.iseq (E.idx (E.v 1) (E.v 3))) (E.cmp Cop.gt (E.v 5) (E.v 2)) (E.v 5))).1 (tst v0 G (.int (z : Nat)) Q.length o4 o5 o6) (G ++ [.lst (tbL (Q ++ r :: P))]) = some (nsD (r.filter fun x => decide (z < x)), G ++ [.lst (tbL (Q ++ r :: P))]) := by
    have := comp_filter (cl := cl) (ς := tst v0 G (.int (z : Nat)) Q.length o4 o5 o6) (G := G ++ [.lst (tbL (Q ++ r :: P))]) (G1 := G ++ [.lst (tbL (Q ++ r :: P))]) (own := [5]) (t := Tg.nm 5) (it := E.iseq (E.idx (E.v 1) (E.v 3))) (c := E.cmp Cop.gt (E.v 5) (E.v 2)) (e := E.v 5) (ds := r.map fun x : Nat => D.int (x : Nat)) (fun d => match d with | .int i => decide ((z : Int) < i) | _ => false) id
      (by rw [ev_iseq1, idx_s (v_s (i := 1) rfl) (v_s (i := 3) rfl) tb_idx, bnd_s]; rfl) (by simp; omega) (fun d hd => by
        obtain ⟨x, _, rfl⟩ := List.mem_map.mp hd
        refine ⟨_, bindL_nm, ?_, fun _ => v_s (List.getElem?_set_self (by simp [wipeE]))⟩
        refine cmp_t (v_s (List.getElem?_set_self (by simp [wipeE]))) (v_s (i := 2) (d := .int (z : Nat)) (by simp [wipeE])) cmp_gtI)
    rw [this, List.map_id, List.filter_map]
    unfold nsD
    congr 4
    congr 1
    funext x
    simp
  cases e : (bump z r).2 with
  | none =>
    obtain ⟨e1, e2⟩ := bump_none e
    have hf : r.filter (fun x => decide (z < x)) = [] := List.filter_eq_nil_iff.mpr fun a ha => by simpa using e2 a ha
    rw [hf] at hg
    refine ⟨some (nsD []), o5, o6, ?_⟩
    rw [e1, set_s hg]
    have t : (ev cl (E.cmp Cop.eq (E.v 4) (E.lst false E.nil))).2 (tst v0 G (.int (z : Nat)) Q.length (some (nsD [])) o5 o6) (G ++ [.lst (tbL (Q ++ r :: P))]) = some (true, G ++ [.lst (tbL (Q ++ r :: P))]) := cmp_t (v_s (i := 4) rfl) (lst_s nil_s (by simp)) eq_nsnil
    have h3 : evS cl tbB3 (tst v0 G (.int (z : Nat)) Q.length (some (nsD [])) o5 o6) (G ++ [.lst (tbL (Q ++ r :: P))]) = some (.nx (tst v0 G .non Q.length (some (nsD [])) o5 o6) (G ++ [.lst (tbL (Q ++ (r ++ [z]) :: P))])) := by
      rw [evS_ife, t, bnd_s, if_pos rfl]
      have a1 : (ev cl (E.bin Bop.add (E.idx (E.v 1) (E.v 3)) (E.lst false (E.cons (E.v 2) E.nil)))).1 (tst v0 G (.int (z : Nat)) Q.length (some (nsD [])) o5 o6) (G ++ [.lst (tbL (Q ++ r :: P))]) = some (nsD (r ++ [z]), G ++ [.lst (tbL (Q ++ r :: P))]) := by
        refine bin_s (idx_s (v_s (i := 1) rfl) (v_s (i := 3) rfl) tb_idx) (lst_s (one_v (i := 2) rfl) (by simp)) ?_
        exact addN (a := r) (b := [z]) (by simp; omega)
      rw [seq_nx (ς' := tst v0 G (.int (z : Nat)) Q.length (some (nsD [])) o5 o6) (G1 := G ++ [.lst (tbL (Q ++ (r ++ [z]) :: P))])]
      · rw [set_s k_s, evS_skip]; rfl
      · rw [evS_setIx, a1, bnd_s, v_s (i := 1) rfl, bnd_s, v_s (i := 3) rfl, bnd_s, tb_put]; rfl
    refine (seq_nx h3).trans ?_
    rw [set_s (bin_s (v_s (i := 3) rfl) k_s bin_addi), evS_skip]
    rfl
  | some y =>
    obtain ⟨A, B, rfl, e2, h3, h4⟩ := bump_some e
    obtain ⟨hf, hB⟩ := filter_up hr h3 h4
    rw [hf] at hg
    have hA : ∀ a ∈ A, a ≠ y := fun a ha => by
      rw [List.pairwise_append] at hr
      have := hr.2.2 a ha y (by simp)
      omega
    refine ⟨some (nsD (y :: B)), o5, some (.int (A.length : Nat)), ?_⟩
    rw [e2, set_s hg]
    have t : (ev cl (E.cmp Cop.eq (E.v 4) (E.lst false E.nil))).2 (tst v0 G (.int (z : Nat)) Q.length (some (nsD (y :: B))) o5 o6) (G ++ [.lst (tbL (Q ++ (A ++ y :: B) :: P))]) = some (false, G ++ [.lst (tbL (Q ++ (A ++ y :: B) :: P))]) := cmp_t (v_s (i := 4) rfl) (lst_s nil_s (by simp)) eq_nsnil
    have hrow : ∀ o6, (ev cl (E.idx (E.v 1) (E.v 3))).1 (tst v0 G (.int (z : Nat)) Q.length (some (nsD (y :: B))) o5 o6) (G ++ [.lst (tbL (Q ++ (A ++ y :: B) :: P))]) = some (nsD (A ++ y :: B), G ++ [.lst (tbL (Q ++ (A ++ y :: B) :: P))]) := fun o6 => idx_s (v_s (i := 1) rfl) (v_s (i := 3) rfl) tb_idx
    have hB3 : evS cl tbB3 (tst v0 G (.int (z : Nat)) Q.length (some (nsD (y :: B))) o5 o6) (G ++ [.lst (tbL (Q ++ (A ++ y :: B) :: P))]) = some (.nx (tst v0 G (.int (y : Nat)) Q.length (some (nsD (y :: B))) o5 (some (.int (A.length : Nat)))) (G ++ [.lst (tbL (Q ++ (A ++ z :: B) :: P))])) := by
      rw [evS_ife, t, bnd_s, if_neg (by decide)]
      have a1 : (ev cl (E.mth Mth.index (E.idx (E.v 1) (E.v 3)) (E.cons (E.blt Blt.minL (E.cons (E.v 4) E.nil)) E.nil))).1 (tst v0 G (.int (z : Nat)) Q.length (some (nsD (y :: B))) o5 o6) (G ++ [.lst (tbL (Q ++ (A ++ y :: B) :: P))]) = some (.int (A.length : Nat), G ++ [.lst (tbL (Q ++ (A ++ y :: B) :: P))]) := by
        refine mth_s (G2 := G ++ [.lst (tbL (Q ++ (A ++ y :: B) :: P))]) (hrow o6) rfl (cons_s (x := .int (y : Nat)) (G1 := G ++ [.lst (tbL (Q ++ (A ++ y :: B) :: P))]) (blt_s (one_v (i := 4) rfl) ?_) nil_s) ?_
        · show minL (nsD (y :: B)) _ = _
          rw [nsD_is]
          show (intsD ((intsOf (y :: B)).map D.int)).bind _ = _
          rw [sum_ints, Option.bind_some, min_first hB]; rfl
        · rw [mk_index]; exact idx_of hA (by omega)
      rw [set_s a1]
      show evS cl (S.seq _ S.skip) (tst v0 G (.int (z : Nat)) Q.length (some (nsD (y :: B))) o5 (some (.int (A.length : Nat)))) _ = _
      have hrow' := hrow (some (.int (A.length : Nat)))
      have a2 : (ev cl (E.tup (E.cons (E.bin Bop.add (E.bin Bop.add (E.sl false (E.idx (E.v 1) (E.v 3)) E.nil (E.v 6)) (E.lst false (E.cons (E.v 2) E.nil))) (E.sl false (E.idx (E.v 1) (E.v 3)) (E.bin Bop.add (E.v 6) (E.k (D.int 1))) E.nil)) (E.cons (E.idx (E.idx (E.v 1) (E.v 3)) (E.v 6)) E.nil)))).1 (tst v0 G (.int (z : Nat)) Q.length (some (nsD (y :: B))) o5 (some (.int (A.length : Nat)))) (G ++ [.lst (tbL (Q ++ (A ++ y :: B) :: P))]) =
          some (.tup [nsD (A ++ z :: B), .int (y : Nat)], G ++ [.lst (tbL (Q ++ (A ++ y :: B) :: P))]) := by
        have s1 : (ev cl (E.sl false (E.idx (E.v 1) (E.v 3)) E.nil (E.v 6))).1 (tst v0 G (.int (z : Nat)) Q.length (some (nsD (y :: B))) o5 (some (.int (A.length : Nat)))) (G ++ [.lst (tbL (Q ++ (A ++ y :: B) :: P))]) = some (nsD A, G ++ [.lst (tbL (Q ++ (A ++ y :: B) :: P))]) := by
          rw [ev_sl1, slF_s, hrow', bnd_s]
          simp only [isNil_nil, if_true, partD_n, bnd_s, isNil_v, Bool.false_eq_true, if_false, partD_s, v_s (cl := cl) (ς := tst v0 G (.int (z : Nat)) Q.length (some (nsD (y :: B))) o5 (some (.int (A.length : Nat)))) (i := 6) (d := .int (A.length : Nat)) rfl, partI_i]
          show slD false (D.lst _) _ _ _ = _
          rw [sl_lst, cutN_map, cutN_app1]; rfl
        have s2 : (ev cl (E.sl false (E.idx (E.v 1) (E.v 3)) (E.bin Bop.add (E.v 6) (E.k (D.int 1))) E.nil)).1 (tst v0 G (.int (z : Nat)) Q.length (some (nsD (y :: B))) o5 (some (.int (A.length : Nat)))) (G ++ [.lst (tbL (Q ++ (A ++ y :: B) :: P))]) = some (nsD B, G ++ [.lst (tbL (Q ++ (A ++ y :: B) :: P))]) := by
          have hb : (ev cl (E.bin Bop.add (E.v 6) (E.k (D.int 1)))).1 (tst v0 G (.int (z : Nat)) Q.length (some (nsD (y :: B))) o5 (some (.int (A.length : Nat)))) (G ++ [.lst (tbL (Q ++ (A ++ y :: B) :: P))]) = some (.int ((A.length : Nat) + 1), G ++ [.lst (tbL (Q ++ (A ++ y :: B) :: P))]) := bin_s (v_s (i := 6) rfl) k_s bin_addi
          rw [ev_sl1, slF_s, hrow', bnd_s]
          simp only [isNil_nil, if_true, partD_n, bnd_s, isNil_bin, Bool.false_eq_true, if_false, partD_s, hb, partI_i]
          show slD false (D.lst _) _ _ _ = _
          rw [sl_lst, cutN_map, cutN_app2]; rfl
        have s3 : (ev cl (E.idx (E.idx (E.v 1) (E.v 3)) (E.v 6))).1 (tst v0 G (.int (z : Nat)) Q.length (some (nsD (y :: B))) o5 (some (.int (A.length : Nat)))) (G ++ [.lst (tbL (Q ++ (A ++ y :: B) :: P))]) = some (.int (y : Nat), G ++ [.lst (tbL (Q ++ (A ++ y :: B) :: P))]) := by
          refine idx_s hrow' (v_s (i := 6) rfl) ?_
          show idxD (D.lst _) _ _ = _
          rw [idx_lst, atT (d := .int (y : Nat)) (by simp)]; rfl
        have s4 : (ev cl (E.lst false (E.cons (E.v 2) E.nil))).1 (tst v0 G (.int (z : Nat)) Q.length (some (nsD (y :: B))) o5 (some (.int (A.length : Nat)))) (G ++ [.lst (tbL (Q ++ (A ++ y :: B) :: P))]) = some (nsD [z], G ++ [.lst (tbL (Q ++ (A ++ y :: B) :: P))]) := lst_s (one_v (i := 2) rfl) (by simp)
        have e1 : nsD (A ++ z :: B) = nsD ((A ++ [z]) ++ B) := by simp
        rw [e1]
        exact tup_s (cons_s (bin_s (bin_s s1 s4 (addN (by simp at hl ⊢; omega))) s2 (addN (by simp at hl ⊢; omega))) (cons_s s3 nil_s)) (by simp)
      rw [seq_nx (ς' := tst v0 G (.int (y : Nat)) Q.length (some (nsD (y :: B))) o5 (some (.int (A.length : Nat)))) (G1 := G ++ [.lst (tbL (Q ++ (A ++ z :: B) :: P))]), evS_skip]
      show setIx2S _ _ 2 _ _ _ = _
      unfold setIx2S
      rw [a2, bnd_s]
      simp only [v_s (cl := cl) (ς := tst v0 G (.int (z : Nat)) Q.length (some (nsD (y :: B))) o5 (some (.int (A.length : Nat)))) (i := 1) (d := .ref G.length) rfl, v_s (cl := cl) (ς := tst v0 G (.int (z : Nat)) Q.length (some (nsD (y :: B))) o5 (some (.int (A.length : Nat)))) (i := 3) (d := .int (Q.length : Nat)) rfl, bnd_s, tb_put, Option.bind_some]
      rfl
    refine (seq_nx hB3).trans ?_
    rw [set_s (bin_s (v_s (i := 3) rfl) k_s bin_addi), evS_skip]
    rfl
theorem tb_loop : ∀ (P Q : List (List Nat)) (z n : Nat) (o4 o5 o6 : Option D), P.length + 2 ≤ n → (∀ r ∈ P, r.Pairwise (· < ·) ∧ r.length ≤ 500) → Q.length + P.length ≤ 1000 →
    ∃ k u4 u5 u6, loopW (ev cl tbC).2 (evS cl tbB) n (tst v0 G (.int (z : Nat)) Q.length o4 o5 o6) (G ++ [.lst (tbL (Q ++ P))]) = some (.nx (tst v0 G .non k u4 u5 u6) (G ++ [.lst (tbL (Q ++ ins P z))]))
  | P, Q, z, 0, _, _, _, h, _, _ => absurd h (by omega)
  | P, Q, z, 1, _, _, _, h, _, _ => absurd h (by omega)
  | P, Q, z, n + 1 + 1, o4, o5, o6, hn, hP, hl => by
    have t1 : ∀ (zz : Nat) (k : Nat) (a b c : Option D) (G' : Hs), (ev cl tbC).2 (tst v0 G (.int (zz : Nat)) k a b c) G' = some (true, G') := fun zz k a b c G' => rfl
    have t0 : ∀ (k : Nat) (a b c : Option D) (G' : Hs), (ev cl tbC).2 (tst v0 G .non k a b c) G' = some (false, G') := fun k a b c G' => rfl
    have tl : ∀ R : List (List Nat), (ev cl (E.cmp Cop.eq (E.v 3) (E.blt Blt.len (E.cons (E.v 1) E.nil)))).2 (tst v0 G (.int (z : Nat)) Q.length o4 o5 o6) (G ++ [.lst (tbL R)]) = some (((Q.length : Nat) : Int) == (R.length : Nat), G ++ [.lst (tbL R)]) := fun R =>
      cmp_t (v_s (i := 3) rfl) (blt_s (one_v (i := 1) rfl) (by rw [blt_len, one_s, len_r at_new, List.length_map])) cmp_eqI
    cases P with
    | nil =>
      have b1 : evS cl tbB1 (tst v0 G (.int (z : Nat)) Q.length o4 o5 o6) (G ++ [.lst (tbL (Q ++ []))]) = some (.nx (tst v0 G (.int (z : Nat)) Q.length o4 o5 o6) (G ++ [.lst (tbL (Q ++ [] :: []))])) := by
        rw [evS_ife, tl, bnd_s, if_pos (by simp)]
        have a : (ev cl (E.mth Mth.append (E.v 1) (E.cons (E.lst false E.nil) E.nil))).1 (tst v0 G (.int (z : Nat)) Q.length o4 o5 o6) (G ++ [.lst (tbL (Q ++ []))]) = some (.non, G ++ [.lst (tbL (Q ++ [] :: []))]) := by
          refine mth_s (v_s (i := 1) rfl) (ref_ty at_new) (cons_s (lst_s nil_s (by simp)) nil_s) ?_
          rw [mk_append, app_new (by simp at hl ⊢; omega)]
          simp [tbL, nsD]
        rw [drop_s a, evS_skip]
      obtain ⟨u4, u5, u6, e⟩ := tb_step (cl := cl) (v0 := v0) (G := G) (Q := Q) (P := []) (r := []) (z := z) (o4 := o4) (o5 := o5) (o6 := o6) (by simp) (by simp)
      refine ⟨Q.length + 1, u4, u5, u6, (loopW_t (t1 _ _ _ _ _ _) ((seq_nx b1).trans e)).trans ?_⟩
      exact loopW_f (t0 _ _ _ _ _)
    | cons r P =>
      obtain ⟨hr, hrl⟩ := hP r (by simp)
      have b1 : evS cl tbB1 (tst v0 G (.int (z : Nat)) Q.length o4 o5 o6) (G ++ [.lst (tbL (Q ++ r :: P))]) = some (.nx (tst v0 G (.int (z : Nat)) Q.length o4 o5 o6) (G ++ [.lst (tbL (Q ++ r :: P))])) := by
        rw [evS_ife, tl, bnd_s, if_neg (by simp; omega), evS_skip]
      obtain ⟨u4, u5, u6, e⟩ := tb_step (cl := cl) (v0 := v0) (G := G) (Q := Q) (P := P) (r := r) (z := z) (o4 := o4) (o5 := o5) (o6 := o6) hr hrl
      unfold ins
      cases eb : (bump z r).2 with
      | none =>
        rw [eb] at e
        refine ⟨Q.length + 1, u4, u5, u6, (loopW_t (t1 _ _ _ _ _ _) ((seq_nx b1).trans e)).trans ?_⟩
        exact loopW_f (t0 _ _ _ _ _)
      | some y =>
        rw [eb] at e
        obtain ⟨k, w4, w5, w6, ih⟩ := tb_loop P (Q ++ [(bump z r).1]) y (n + 1) u4 u5 u6 (by simp at hn; omega) (fun x hx => hP x (by simp [hx])) (by simp at hl ⊢; omega)
        refine ⟨k, w4, w5, w6, (loopW_t (t1 _ _ _ _ _ _) ((seq_nx b1).trans e)).trans ?_⟩
        rw [List.length_append, List.append_assoc, List.append_assoc] at ih
        exact ih
end
end K14
set_option Elab.async false
set_option linter.all false
set_option autoImplicit false
set_option maxRecDepth 100000
set_option maxHeartbeats 2000000
/-! _law_table, _law_up: the whole -/
namespace K14
open PySem PySem.Spec L2 Mp
open PyProof.Rows hiding St

theorem len_flat {P : List (List Nat)} (h : ∀ r ∈ P, r ≠ []) : P.length ≤ P.flatten.length := by
  induction P with
  | nil => simp
  | cons r P ih =>
    have := ih fun x hx => h x (by simp [hx])
    have h1 : 0 < r.length := List.length_pos_iff.mpr (h r (by simp))
    simp only [List.length_cons, List.flatten_cons, List.length_append]; omega
theorem row_flat {P : List (List Nat)} {r : List Nat} (h : r ∈ P) : r.length ≤ P.flatten.length := by
  induction P with
  | nil => simp at h
  | cons s P ih =>
    simp only [List.flatten_cons, List.length_append]
    rcases List.mem_cons.mp h with rfl | h
    · omega
    · have := ih h; omega
theorem for_table {cl : Nat → List D → Hs → Rs} {v0 : D} {G : Hs} : ∀ (row : List Nat) (P : List (List Nat)) (o2 o3 o4 o5 o6 : Option D), Tb P → (P.flatten ++ row).Nodup → (P.flatten ++ row).length ≤ 400 →
    ∃ ς', ς'[1]? = some (some (.ref G.length)) ∧ loopF (Tg.nm 2) (evS cl (S.seq (S.set 3 (E.k (D.int 0))) (S.seq (S.whl 100000 tbC tbB) S.skip))) (row.map fun x : Nat => D.int (x : Nat)) [some v0, some (.ref G.length), o2, o3, o4, o5, o6] (G ++ [.lst (tbL P)]) = some (.nx ς' (G ++ [.lst (tbL (row.foldl ins P))]))
  | [], P, o2, o3, o4, o5, o6, _, _, _ => ⟨_, rfl, rfl⟩
  | z :: row, P, o2, o3, o4, o5, o6, hT, hn, hl => by
    have p1 : (z :: P.flatten).Nodup := by
      have : (P.flatten ++ z :: row).Perm ((z :: P.flatten) ++ row) := List.perm_middle
      exact (List.nodup_append.mp (this.nodup_iff.mp hn)).1
    have pp : ((ins P z).flatten ++ row).Perm (P.flatten ++ z :: row) := ((ins_perm P z).append_right row).trans List.perm_middle.symm
    have hl1 := len_flat hT.ne
    simp only [List.length_append, List.length_cons] at hl
    obtain ⟨k, u4, u5, u6, e⟩ := tb_loop (cl := cl) (v0 := v0) (G := G) P [] z 100000 o4 o5 o6 (by omega) (fun r hr => ⟨hT.row r hr, by have := row_flat hr; omega⟩) (by simp; omega)
    obtain ⟨ς', h1, ih⟩ := for_table (cl := cl) (v0 := v0) (G := G) row (ins P z) (some .non) (some (.int k)) u4 u5 u6 (ins_tb P z hT p1) (pp.nodup_iff.mpr hn) (by rw [pp.length_eq, List.length_append, List.length_cons]; omega)
    refine ⟨ς', h1, ?_⟩
    rw [List.map_cons, List.foldl_cons]
    refine for_step bindL_nm ?_ ih
    refine (set_s k_s).trans ?_
    exact (whl_nx e).trans evS_skip
theorem law_table_run {m : Nat} (hm : 1 ≤ m) {G : Hs} {row : List Nat} (hn : row.Nodup) (hl : row.length ≤ 400) : F m 49 [nsD row] G = some (.lst (tbL (table row)), G ++ [.gone]) := by
  obtain ⟨ς', h1, e⟩ := for_table (cl := F (m - 1)) (v0 := nsD row) (G := G) row [] none none none none none ⟨fun r h => by simp at h, fun r h => by simp at h⟩ (by simpa using hn) (by simpa using hl)
  refine run_ t49 rfl hm ?_
  show (evS (F (m - 1)) b49 [some (nsD row), none, none, none, none, none, none] G).bind outD = _
  unfold b49
  rw [set_s (lstM_s nil_s (by simp))]
  refine (congrArg (fun z => Option.bind z outD) (for_nx (ds := row.map fun x : Nat => D.int (x : Nat)) (G1 := G ++ [.lst []]) (by rw [ev_iseq1, v_s (i := 0) rfl, bnd_s]; rfl) e)).trans ?_
  refine seq_ret ?_
  rw [ev_frz1, h1, Option.bind_some, Option.bind_some, frz_r at_new, set_new]
  rfl
theorem okDs_tb : ∀ P : List (List Nat), okDs (tbL P) = true ∧ depDs (tbL P) ≤ 2
  | [] => ⟨by simp [okDs], by simp [depDs]⟩
  | r :: P => by
    obtain ⟨h1, h2⟩ := okDs_tb P
    obtain ⟨a, b⟩ := okDs_is (intsOf r)
    have e : tbL (r :: P) = isD (intsOf r) :: tbL P := by simp [tbL, nsD_is]
    rw [e]
    exact ⟨by simp [okDs, isD, okD, a, h1], by simp only [depDs, isD, depD]; omega⟩
theorem ne_tb {P : List (List Nat)} {G : Hs} : cmpB .ne (.lst (tbL P)) (.lst []) G = some (!P.isEmpty) := by
  obtain ⟨h1, h2⟩ := okDs_tb P
  have ok1 : okC (.lst (tbL P)) = true := by simp only [okC, okD, depD, h1]; simp; omega
  show (if okC (.lst (tbL P)) ∧ okC (.lst []) then some (eqD (.lst (tbL P)) (.lst [])) else none).map (!·) = _
  rw [if_pos ⟨ok1, by rfl⟩]
  cases P with
  | nil => simp [eqD, eqDs, tbL]
  | cons r P => simp [eqD, eqDs, tbL]
theorem law_up_run {m : Nat} (hm : 2 ≤ m) {G : Hs} {row : List Nat} (hn : row.Nodup) (hne : row ≠ []) (hl : row.length ≤ 400) : ∃ g, F m 50 [nsD row] G = some (.tup [.int ((fst_ row).length : Nat), .int ((table row).length : Nat)], G ++ g) := by
  have e1 := law_table_run (m := m - 1) (by omega) (G := G) hn hl
  have et : ∃ rs, table row = fst_ row :: rs := by
    cases row with
    | nil => exact absurd rfl hne
    | cons z row => exact table_head
  obtain ⟨rs, et⟩ := et
  refine ⟨[.gone], run_ t50 rfl (by omega) ?_⟩
  show (evS (F (m - 1)) b50 [some (nsD row), none] G).bind outD = _
  unfold b50
  rw [set_s (call_s (n := 1) (one_v rfl) rfl e1)]
  refine seq_ret ?_
  have t : (ev (F (m - 1)) (E.cmp Cop.ne (E.v 1) (E.lst false E.nil))).2 ([some (nsD row), none].set 1 (some (.lst (tbL (table row))))) (G ++ [.gone]) = some (true, G ++ [.gone]) := by
    refine cmp_t (v_s (i := 1) rfl) (lst_s nil_s (by simp)) (ne_tb.trans ?_)
    rw [et]; rfl
  rw [ev_ite1, t, bnd_s, if_pos rfl]
  have h0 : (ev (F (m - 1)) (E.idx (E.v 1) (E.k (D.int 0)))).1 ([some (nsD row), none].set 1 (some (.lst (tbL (table row))))) (G ++ [.gone]) = some (nsD (fst_ row), G ++ [.gone]) := by
    refine idx_s (v_s (i := 1) rfl) k_s ?_
    rw [idx_lst, et, show (0 : Int) = ((0 : Nat) : Int) from rfl, atT (d := nsD (fst_ row)) rfl]; rfl
  have h1 : Blt.len.k [.lst (tbL (table row))] (G ++ [.gone]) = some (.int (table row).length, G ++ [.gone]) := by rw [lenL, List.length_map]
  exact tup_s (cons_s (blt_s (cons_s h0 nil_s) lenN) (cons_s (blt_s (one_v (i := 1) rfl) h1) nil_s)) (by simp)
end K14
set_option Elab.async false
set_option linter.all false
set_option autoImplicit false
set_option maxRecDepth 100000
set_option maxHeartbeats 2000000
/-! _law_led -/
namespace K14
open PySem PySem.Spec L2 Mp
open PyProof.Rows hiding St
variable {G : Hs}
theorem alike_lst {m : Nat} (hm : 1 ≤ m) {ds : List D} (hl : ds.length ≤ 10000) (h : ∀ d ∈ ds, F (m - 1) 38 [d, d] G = some (.bl true, G)) : F m 38 [.lst ds, .lst ds] G = some (.bl true, G) := by
  refine run_ t38 rfl (by omega) ?_
  show (evS (F (m - 1)) b38 [some (.lst ds), some (.lst ds), none] G).bind outD = _
  unfold b38
  have hr : arity 1 rngK [.int (ds.length : Int)] G = some (.tup (rgN 0 1 ds.length), G) := rng1_s (q := (0, 1, ds.length)) (by rw [rgA_1, if_pos (by omega)]; simp)
  have hc : loopC (ev (F (m - 1)) (E.not (E.call 38 2 (E.cons (E.idx (E.v 0) (E.v 2)) (E.cons (E.idx (E.v 1) (E.v 2)) E.nil))))).2 (ev (F (m - 1)) (E.v 2)).1 (Tg.nm 2) [some (.lst ds), some (.lst ds), none] (rgN 0 1 ds.length) [] G = some ([], G) := by
    have := loopC_filter (c := (ev (F (m - 1)) (E.not (E.call 38 2 (E.cons (E.idx (E.v 0) (E.v 2)) (E.cons (E.idx (E.v 1) (E.v 2)) E.nil))))).2) (e := (ev (F (m - 1)) (E.v 2)).1) (t := Tg.nm 2) (ς := [some (.lst ds), some (.lst ds), none]) (G := G) (fun _ => false) id (ds := rgN 0 1 ds.length) (acc := []) (by
      intro d hd
      unfold rgN at hd
      obtain ⟨i, hi, rfl⟩ := List.mem_map.mp hd
      have hi := List.mem_range.mp hi
      have ha : atI ds (0 + (i : Nat) * 1 : Int) = some ds[i] := by
        rw [show (0 + (i : Nat) * 1 : Int) = (i : Int) by omega]
        exact atI_nat (List.getElem?_eq_getElem hi)
      have hc := h ds[i] (by simp)
      refine ⟨_, bindL_nm, ?_, fun q => by cases q⟩
      simp only [List.set_cons_succ, List.set_cons_zero, ev_not2, ev_call2, ev_cons1, ev_idx1, ev_v1, ev_nil1, List.getElem?_cons_zero, List.getElem?_cons_succ, Option.bind_some, bnd_s, idx_lst, ha, Option.map_some, consK_s, argK_s, List.length_cons, List.length_nil, if_true, hc, truD_b]
      rfl) (by rw [sz]; simp [rgN]; omega)
    rw [this]; simp
  rw [evS_seq, evS_ife]
  have c1 : (ev (F (m - 1)) (E.or (E.isi Ty.list (E.v 1)) (E.isi Ty.tuple (E.v 1)))).2 [some (.lst ds), some (.lst ds), none] G = some (true, G) := by simp
  rw [c1, bnd_s, if_pos rfl, seq_ife_f (G1 := G) (by simp; rfl)]
  have c2 : (ev (F (m - 1)) (E.and (E.cmp Cop.eq (E.blt Blt.len (E.cons (E.v 0) E.nil)) (E.blt Blt.len (E.cons (E.v 1) E.nil))) (E.cmp Cop.eq (E.comp false (Tg.nm 2) [2] (E.irng 1 (E.cons (E.blt Blt.len (E.cons (E.v 1) E.nil)) E.nil)) (E.not (E.call 38 2 (E.cons (E.idx (E.v 0) (E.v 2)) (E.cons (E.idx (E.v 1) (E.v 2)) E.nil)))) (E.v 2)) (E.lst false E.nil)))).1 [some (.lst ds), some (.lst ds), none] G = some (.bl true, G) := by
    rw [ev_and1]
    have k1 : (ev (F (m - 1)) (E.cmp Cop.eq (E.blt Blt.len (E.cons (E.v 0) E.nil)) (E.blt Blt.len (E.cons (E.v 1) E.nil)))).1 [some (.lst ds), some (.lst ds), none] G = some (.bl true, G) := by simp
    rw [k1, blB_b, bnd_s, if_pos rfl]
    simp only [ev_cmp1, ev_comp1, ev_irng1, ev_cons1, ev_blt1, ev_v1, ev_nil1, ev_lst1, List.getElem?_cons_zero, List.getElem?_cons_succ, Option.bind_some, bnd_s, consK_s, argK_s, blt_len, one_s, len_lst, hr, wipeE, List.set_cons_succ, List.set_cons_zero, hc, newD_f, lstK_s, List.length_nil, Nat.zero_le, if_true, cmpD_s]
    rfl
  rw [evS_seq, evS_ret, c2]
  rfl
def goneTot (es : List Ed) : Nat := (es.map fun e => e.2.1).sum
theorem hold_len {n : Nat} : ∀ {es : List Ed} {a now : Nat}, Wf n a es → (hold n a now es).length + goneTot es = n - a
  | [], a, now, h => by simp [hold, goneTot]
  | (p, g, c) :: r, a, now, ⟨h1, h2, h3⟩ => by
    have := hold_len (now := now + (p - a) + c.length) h3
    have hg : goneTot ((p, g, c) :: r) = g + goneTot r := by simp [goneTot]
    have := (wf_wf h3).le
    simp only [hold, List.length_append, List.length_map, List.length_range]
    omega

theorem hold_sorted2 {n : Nat} : ∀ {es : List Ed} {a now : Nat}, Wf n a es → (hold n a now es).Pairwise fun x y => x.2 < y.2
  | [], a, now, h => by
    simp only [hold]
    rw [List.pairwise_map]
    exact List.pairwise_lt_range.imp fun h => by simp only; omega
  | (p, g, c) :: r, a, now, ⟨h1, h2, h3⟩ => by
    simp only [hold]
    rw [List.pairwise_append]
    refine ⟨?_, hold_sorted2 h3, fun x hx y hy => ?_⟩
    · rw [List.pairwise_map]
      exact List.pairwise_lt_range.imp fun h => by simp only; omega
    · obtain ⟨i, hi, rfl⟩ := List.mem_map.mp hx
      have hi := List.mem_range.mp hi
      obtain ⟨k, j⟩ := y
      have := (hold_mem (wf_wf h3) hy).2.2
      simp only; omega
/-- the pieces, each edit in turn -/
theorem for_edited {cl : Nat → List D → Hs → Rs} {v0 v1 v2 v3 v4 v5 v6 v7 : Option D} {t : List Nat} {L : Nat} (hcl : ∀ (p : Pc) (e : Ed) (G : Hs), p.ok → okE p.txt e.1 e.2.1 e.2.2 → p.long + e.2.2.length ≤ L → ∃ q, cl 42 [pcD p, eD e] G = some (pcD q, G) ∧ q.txt = putE p.txt e ∧ q.ok) (hL : L ≤ 1000) :
    ∀ (es : List Ed) (a : Nat) (pre : List Nat) (p : Pc) (o9 o10 : Option D), Wf t.length a es → (∀ e ∈ es, Sg e.2.2) → p.ok → p.txt = pre ++ t.drop a → pre.length + (t.length - a) + (es.map (·.2.2.length)).sum ≤ L →
    ∃ q ς', loopF (Tg.nm 9) (evS cl (S.seq (S.set 8 (E.call 42 2 (E.cons (E.v 8) (E.cons (E.v 9) E.nil)))) S.skip)) ((turns a pre.length es).map eD) [v0, v1, v2, v3, v4, v5, v6, v7, some (pcD p), o9, o10] G = some (.nx [v0, v1, v2, v3, v4, v5, v6, v7, some (pcD q), ς', o10] G) ∧ q.ok ∧ q.txt = pre ++ weave t a es
  | [], a, pre, p, o9, o10, _, _, hp, ht, _ => ⟨p, o9, rfl, hp, ht⟩
  | (q, g, c) :: r, a, pre, p, o9, o10, ⟨w1, w2, w3⟩, hs, hp, ht, hl => by
    simp only [List.map_cons, List.sum_cons] at hl
    have lp : p.long = pre.length + (t.length - a) := by show p.txt.length = _; rw [ht]; simp
    have hok : okE p.txt (pre.length + (q - a)) g c := by
      refine ⟨?_, hs (q, g, c) (by simp), ?_, by omega⟩
      · have : p.txt.length = p.long := rfl
        omega
      · have : p.txt.length = p.long := rfl
        omega
    obtain ⟨p', e1, t1, o1⟩ := hcl p (pre.length + (q - a), g, c) G hp hok (by show p.long + c.length ≤ L; omega)
    have e2 : (pre ++ (t.drop a).take (q - a) ++ c).length = pre.length + (q - a) + c.length := by simp; omega
    have t2 : p'.txt = (pre ++ (t.drop a).take (q - a) ++ c) ++ t.drop (q + g) := by
      rw [t1, ht]
      show put _ _ _ _ = _
      unfold put
      simp only
      rw [List.take_append, List.drop_append, List.take_of_length_le (l := pre) (by omega), List.drop_of_length_le (l := pre) (by omega), List.drop_drop]
      have x1 : pre.length + (q - a) - pre.length = q - a := by omega
      have x2 : a + (pre.length + (q - a) + g - pre.length) = q + g := by omega
      rw [x1, x2]
      simp
    obtain ⟨p2, s2, ih, o2, t3⟩ := for_edited hcl hL r (q + g) (pre ++ (t.drop a).take (q - a) ++ c) p' (some (eD (pre.length + (q - a), g, c))) o10 w3 (fun e he => hs e (by simp [he])) o1 t2 (by rw [e2]; omega)
    rw [e2] at ih
    refine ⟨p2, s2, ?_, o2, by rw [t3]; simp [weave]⟩
    simp only [turns, List.map_cons]
    refine for_step bindL_nm ?_ ih
    exact (set_s (call_s (two_v rfl rfl) rfl e1)).trans evS_skip
theorem and_s {cl : Nat → List D → Hs → Rs} {ς : Env'} {G G1 G2 : Hs} {a b : E} {x : Bool} (h : (ev cl a).1 ς G = some (.bl true, G1)) (h2 : (ev cl b).1 ς G1 = some (.bl x, G2)) : (ev cl (.and a b)).1 ς G = some (.bl x, G2) := by
  rw [ev_and1, h, blB_b, bnd_s, if_pos rfl, h2]
theorem mul_lst {a : List D} {n : Int} {G : Hs} : binD .mul (.lst a) (.int n) G = (Mp.listOf G (.lst a)).bind fun a => if -(2 ^ 63) ≤ n ∧ n < 2 ^ 63 ∧ a.length * n.toNat ≤ sizeLine then some (.lst (List.replicate n.toNat a).flatten, G) else none := rfl
theorem mul_l {x : D} {n : Nat} {G : Hs} (hn : n ≤ 100) : binD .mul (.lst [x]) (.int (n : Nat)) G = some (.lst (List.replicate n x), G) := by
  have e : ((n : Nat) : Int).toNat = n := Int.toNat_natCast n
  rw [mul_lst, show Mp.listOf G (.lst [x]) = some [x] from rfl, Option.bind_some, e, if_pos ⟨by omega, by omega, by rw [sz, List.length_singleton]; omega⟩]
  have : ∀ k : Nat, (List.replicate k [x]).flatten = List.replicate k x := by
    intro k
    induction k with
    | zero => rfl
    | succ k ih => rw [List.replicate_succ, List.flatten_cons, ih, List.replicate_succ]; rfl
  rw [this]
end K14
set_option Elab.async false
set_option linter.all false
set_option autoImplicit false
set_option maxRecDepth 100000
set_option maxHeartbeats 2000000
/-! _law_led: the whole -/
namespace K14
open PySem PySem.Spec L2 Mp
open PyProof.Rows hiding St

theorem is_bl {G : Hs} {a b : Bool} : cmpB .is_ (.bl a) (.bl b) G = some (a == b) := rfl
theorem sum_come {t : List Nat} {es : List Ed} (h : Wf t.length 0 es) : (weave t 0 es).length + goneTot es = t.length + (es.map (·.2.2.length)).sum ∧ costOf es = goneTot es + (es.map (·.2.2.length)).sum := by
  refine ⟨?_, ?_⟩
  · have := weave_len t es 0 (wf_wf h)
    have e : goneTot es = (es.map (·.2.1)).sum := rfl
    rw [e]; omega
  · clear h
    induction es with
    | nil => rfl
    | cons e r ih =>
      have e1 : costOf (e :: r) = (e.2.1 + e.2.2.length) + costOf r := by simp [costOf]
      have e2 : goneTot (e :: r) = e.2.1 + goneTot r := by simp [goneTot]
      rw [e1, e2, ih, List.map_cons, List.sum_cons]; omega
theorem law_led_run {m : Nat} (hm : 56 ≤ m) {G : Hs} {a b : List Nat} {many : Nat} (ha : a.length ≤ 20) (hb : b.length = a.length) (hsa : Sg a) (hsb : Sg b) (hd : dist a b + 2 * many = 2 * a.length) : ∃ g, F m 51 [.str a, .str b, .int many] G = some (.bl true, G ++ g) := by
  have f1 : a.length ≤ 16777216 := by omega
  have f2 : b.length ≤ 16777216 := by omega
  -- the told edits
  obtain ⟨es, l1, e1, told⟩ := least_edits_run (m := m - 1) (by omega) (G := G) (a := a) (b := b) (by omega) (by omega) hsb
  have wf := told.ok.wf
  obtain ⟨c1, c2⟩ := sum_come wf
  rw [told.out] at c1
  rw [told.cost] at c2
  have hlen := hold_len (now := 0) wf
  have hH : (hold a.length 0 0 es).length = many := by omega
  have hcome : ∀ x ∈ es, x.2.2.length ≤ 10000 := fun x hx => by have := sub_sum_cost hx; rw [told.cost] at this; omega
  have few := told.ok.few
  have hdz : (2 : Int) * ((a.length : Nat) - (many : Nat)) = ((dist a b : Nat) : Int) := by omega
  -- their cost
  have e2 := cost_of_run (m := m - 1) (by omega) (G := G ++ l1) (es := es) hcome (by omega)
  rw [told.cost] at e2
  obtain ⟨l2, e3⟩ := least_cost_run2 (m := m - 1) (by omega) (G := G ++ l1) (a := a) (b := b) (by omega) (by omega) hsb
  obtain ⟨l3, e4⟩ := least_cost_run2 (m := m - 1) (by omega) (G := G ++ l1 ++ l2) (a := b) (b := a) (by omega) (by omega) hsa
  rw [dist_comm b a] at e4
  have e5 := alike_lst (m := m - 1) (by omega) (G := G ++ l1 ++ l2 ++ l3) (ds := [.int (dist a b : Nat), .int (dist a b : Nat), .int (dist a b : Nat)]) (by simp) (fun d hd' => by
    simp only [List.mem_cons, List.not_mem_nil, or_false] at hd'
    rcases hd' with rfl | rfl | rfl <;> exact alike_int (by omega))
  -- they lead there and back
  have e6 := all_applied_run (m := m - 1) (by omega) (G := G ++ l1 ++ l2 ++ l3) (t := a) (es := es) (by omega) told.ok
  rw [putAll_weave wf, told.out] at e6
  obtain ⟨l4, e7⟩ := all_inverse_run (m := m - 1) (by omega) (G := G ++ l1 ++ l2 ++ l3) (t := a) (es := es) (by omega) told.ok
  have iok := inv_ok told.ok hsa (by omega)
  rw [told.out] at iok
  have e8 := all_applied_run (m := m - 1) (by omega) (G := G ++ l1 ++ l2 ++ l3 ++ l4) (t := b) (es := invs a 0 0 es) (by omega) iok
  have iback := inv_back wf
  rw [told.out] at iback
  rw [putAll_weave iok.wf, iback] at e8
  -- what they hold
  obtain ⟨l5, e9⟩ := hold_of_run (m := m - 1) (by omega) (G := G ++ l1 ++ l2 ++ l3 ++ l4) (t := a) (es := es) (by omega) told.ok
  -- the pieces
  have e10 := in_turn_run (m := m - 1) (by omega) (G := G ++ l1 ++ l2 ++ l3 ++ l4 ++ l5) (t := a) (es := es) (by omega) told.ok
  generalize hl6 : [Cell.lst ((turns 0 0 es).map eD)] = l6 at e10
  obtain ⟨p, e11, pt, po⟩ := pieces_of_run (s := a) (m := m - 1) (G := G ++ l1 ++ l2 ++ l3 ++ l4 ++ l5) (by omega) (by omega)
  obtain ⟨q, o9, e12, qo, qt⟩ := for_edited (cl := F (m - 1)) (G := G ++ l1 ++ l2 ++ l3 ++ l4 ++ l5 ++ l6) (v0 := some (.str a)) (v1 := some (.str b)) (v2 := some (.int many)) (v3 := some (esD es)) (v4 := some (.int a.length)) (v5 := some (psD (hold a.length 0 0 es))) (v6 := none) (v7 := none) (t := a) (L := 42)
    (fun p e G hp ok hl => edited_run (m := m - 1) hp ok (by omega) (by omega)) (by omega) es 0 [] p none none wf (fun e he => (told.ok.each e he).2.1) po (by rw [pt]; rfl) (by simp only [List.length_nil]; omega)
  rw [List.nil_append, told.out] at qt
  -- the paper
  obtain ⟨l7, e13⟩ := paper_of_run (m := m - 1) (by omega) (G := G ++ l1 ++ l2 ++ l3 ++ l4 ++ l5 ++ l6) (a := a) (b := b) (by omega) (by omega) hsb
  obtain ⟨l8, e14⟩ := text_of_run (m := m - 1) (by omega) (G := G ++ l1 ++ l2 ++ l3 ++ l4 ++ l5 ++ l6 ++ l7) (p := q) qo (by show q.txt.length ≤ 5000; rw [qt]; omega)
  rw [qt] at e14
  obtain ⟨l9, e15⟩ := proves_least_run (m := m - 1) (by omega) (G := G ++ l1 ++ l2 ++ l3 ++ l4 ++ l5 ++ l6 ++ l7 ++ l8) (by omega) (by omega) told
  have hturn : (turns 0 ([] : List Nat).length es) = turns 0 0 es := rfl
  rw [hturn] at e12
  refine ⟨l1 ++ l2 ++ l3 ++ l4 ++ l5 ++ l6 ++ l7 ++ l8 ++ l9, run_ t51 rfl (by omega) ?_⟩
  rw [show G ++ (l1 ++ l2 ++ l3 ++ l4 ++ l5 ++ l6 ++ l7 ++ l8 ++ l9) = G ++ l1 ++ l2 ++ l3 ++ l4 ++ l5 ++ l6 ++ l7 ++ l8 ++ l9 by simp only [List.append_assoc]]
  show (evS (F (m - 1)) b51 [some (.str a), some (.str b), some (.int many), none, none, none, none, none, none, none, none] G).bind outD = _
  unfold b51
  rw [par2_s (cons_s (call_s (n := 2) (two_v rfl rfl) rfl e1) (cons_s (blt_s (one_v (i := 0) rfl) (lenS f1)) nil_s))]
  -- the cost
  refine (congrArg (fun z => Option.bind z outD) (seq_ife_f (G1 := G ++ l1 ++ l2 ++ l3) (not_call_f (ds := [.lst [.int (dist a b : Nat), .int (dist a b : Nat), .int (dist a b : Nat)], .lst [.int (dist a b : Nat), .int (dist a b : Nat), .int (dist a b : Nat)]]) (G1 := G ++ l1 ++ l2 ++ l3) ?c1 rfl e5))).trans ?_
  case c1 =>
    refine cons_s (G1 := G ++ l1 ++ l2 ++ l3) (lst_s (cons_s (call_s (n := 1) (one_v (i := 3) rfl) rfl e2) (cons_s (call_s (n := 2) (two_v (i := 0) (j := 1) rfl rfl) rfl e3) (cons_s (call_s (n := 2) (two_v (i := 1) (j := 0) rfl rfl) rfl e4) nil_s))) (by simp)) (cons_s (G1 := G ++ l1 ++ l2 ++ l3) ?_ nil_s)
    refine bin_s (lst_s (cons_s (bin_s k_s (bin_s (v_s (i := 4) rfl) (v_s (i := 2) rfl) bin_subi) (by rw [mul_s, if_pos (by omega), hdz])) nil_s) (by simp)) k_s ?_
    exact mul_l (n := 3) (by omega)
  -- there and back
  refine (congrArg (fun z => Option.bind z outD) (seq_ife_f (G1 := G ++ l1 ++ l2 ++ l3 ++ l4) (or_ff (G1 := G ++ l1 ++ l2 ++ l3) (ne_f (call_s (n := 2) (two_v (i := 0) (j := 3) rfl rfl) rfl e6) (v_s (i := 1) rfl) ne_str) (ne_f (call_s (n := 2) (cons_s (v_s (i := 1) rfl) (cons_s (call_s (n := 2) (two_v (i := 0) (j := 3) rfl rfl) rfl e7) nil_s)) rfl e8) (v_s (i := 0) rfl) ne_str)))).trans ?_
  refine (congrArg (fun z => Option.bind z outD) (set_s (call_s (n := 2) (two_v (i := 0) (j := 3) rfl rfl) rfl e9))).trans ?_
  -- a longest row is held
  let st : Env' := [some (.str a), some (.str b), some (.int many), some (esD es), some (.int a.length), some (psD (hold a.length 0 0 es)), none, none, none, none, none]
  have t1 : (ev (F (m - 1)) (E.or (E.cmp Cop.ne (E.blt Blt.len (E.cons (E.v 5) E.nil)) (E.v 2)) (E.cmp Cop.ne (E.comp false (Tg.nm 6) [6] (E.iseq (E.v 5)) (E.cmp Cop.ne (E.idx (E.v 0) (E.idx (E.v 6) (E.k (D.int 0)))) (E.idx (E.v 1) (E.idx (E.v 6) (E.k (D.int 1))))) (E.v 6)) (E.lst false E.nil)))).2 st (G ++ l1 ++ l2 ++ l3 ++ l4 ++ l5) = some (false, G ++ l1 ++ l2 ++ l3 ++ l4 ++ l5) := by
    refine or_ff (ne_f (blt_s (one_v (i := 5) rfl) lenT) (v_s (i := 2) rfl) ?_) (ne_f (comp_none (ds := (hold a.length 0 0 es).map pD) ?_ (by rw [List.length_map]; omega) fun d hd' => ?_) (lst_s nil_s (by simp)) ne_nil)
    · rw [List.length_map, hH]; simp
    · rw [ev_iseq1, v_s (i := 5) rfl, bnd_s]; rfl
    · obtain ⟨⟨k, j⟩, hp, rfl⟩ := List.mem_map.mp hd'
      obtain ⟨h1, h2⟩ := hold_at a (wf_wf wf) hp
      rw [told.out, Nat.sub_zero] at h1 h2
      have hk := (hold_mem (wf_wf wf) hp).2.1
      rw [List.getElem?_eq_getElem h2, List.getElem?_eq_getElem hk] at h1
      have hx : b[j] = a[k] := Option.some.inj h1
      have v6 : ((wipeE st [6]).set 6 (some (pD (k, j))))[6]? = some (some (pD (k, j))) := List.getElem?_set_self (by simp [wipeE, st])
      have q1 : ∀ G : Hs, (ev (F (m - 1)) (E.idx (E.v 0) (E.idx (E.v 6) (E.k (D.int 0))))).1 ((wipeE st [6]).set 6 (some (pD (k, j)))) G = some (.str [a[k]], G) := fun G => by
        refine idx_s (v_s (d := .str a) (by simp [wipeE, st])) (idx_s (v_s v6) k_s rfl) ?_
        rw [Mp.idx_str, if_pos (by rw [sz]; exact f1), atS hk]; rfl
      have q2 : ∀ G : Hs, (ev (F (m - 1)) (E.idx (E.v 1) (E.idx (E.v 6) (E.k (D.int 1))))).1 ((wipeE st [6]).set 6 (some (pD (k, j)))) G = some (.str [a[k]], G) := fun G => by
        refine idx_s (v_s (d := .str b) (by simp [wipeE, st])) (idx_s (v_s v6) k_s rfl) ?_
        rw [Mp.idx_str, if_pos (by rw [sz]; exact f2), atS h2, hx]; rfl
      exact ne_f (q1 _) (q2 _) ne_str
  refine (congrArg (fun z => Option.bind z outD) (seq_ife_f (ς := st) t1)).trans ?_
  -- it rises
  have t2 : (ev (F (m - 1)) (E.cmp Cop.ne (E.comp false (Tg.nm 7) [7] (E.irng 2 (E.cons (E.k (D.int 1)) (E.cons (E.v 2) E.nil))) (E.or (E.cmp Cop.ge (E.idx (E.idx (E.v 5) (E.bin Bop.sub (E.v 7) (E.k (D.int 1)))) (E.k (D.int 0))) (E.idx (E.idx (E.v 5) (E.v 7)) (E.k (D.int 0)))) (E.cmp Cop.ge (E.idx (E.idx (E.v 5) (E.bin Bop.sub (E.v 7) (E.k (D.int 1)))) (E.k (D.int 1))) (E.idx (E.idx (E.v 5) (E.v 7)) (E.k (D.int 1))))) (E.v 7)) (E.lst false E.nil))).2 st (G ++ l1 ++ l2 ++ l3 ++ l4 ++ l5) = some (false, G ++ l1 ++ l2 ++ l3 ++ l4 ++ l5) := by
    refine ne_f (comp_none (ds := rgN 1 1 ((many : Int) - 1).toNat) ?_ (by simp [rgN]; omega) fun d hd' => ?_) (lst_s nil_s (by simp)) ne_nil
    · rw [ev_irng1, cons_s k_s (one_v (i := 2) rfl), bnd_s, argK_s, rng2_s (q := (1, 1, ((many : Int) - 1).toNat)) (by rw [rgA_2, if_pos (by omega)])]
    · unfold rgN at hd'
      obtain ⟨i, hi, rfl⟩ := List.mem_map.mp hd'
      have hi := List.mem_range.mp hi
      have hi1 : i + 1 < (hold a.length 0 0 es).length := by omega
      have s1 := List.pairwise_iff_getElem.mp (hold_sorted (now := 0) (wf_wf wf)) i (i + 1) (by omega) hi1 (by omega)
      have s2 := List.pairwise_iff_getElem.mp (hold_sorted2 (now := 0) wf) i (i + 1) (by omega) hi1 (by omega)
      have ei : (1 + (i : Nat) * 1 : Int) = ((i + 1 : Nat) : Int) := by omega
      rw [ei]
      have v7 : ((wipeE st [7]).set 7 (some (.int ((i + 1 : Nat) : Int))))[7]? = some (some (.int ((i + 1 : Nat) : Int))) := List.getElem?_set_self (by simp [wipeE, st])
      have v5 : ((wipeE st [7]).set 7 (some (.int ((i + 1 : Nat) : Int))))[5]? = some (some (psD (hold a.length 0 0 es))) := by simp [wipeE, st]
      have g1 : ∀ G : Hs, (ev (F (m - 1)) (E.idx (E.v 5) (E.bin Bop.sub (E.v 7) (E.k (D.int 1))))).1 ((wipeE st [7]).set 7 (some (.int ((i + 1 : Nat) : Int)))) G = some (pD (hold a.length 0 0 es)[i], G) := fun G => by
        refine idx_s (v_s v5) (bin_s (v_s v7) k_s bin_subi) ?_
        show idxD (.tup _) _ _ = _
        rw [show ((i + 1 : Nat) : Int) - 1 = (i : Int) by omega, idx_tup, atT (d := pD (hold a.length 0 0 es)[i]) (by rw [List.getElem?_map, List.getElem?_eq_getElem (by omega)]; rfl)]; rfl
      have g2 : ∀ G : Hs, (ev (F (m - 1)) (E.idx (E.v 5) (E.v 7))).1 ((wipeE st [7]).set 7 (some (.int ((i + 1 : Nat) : Int)))) G = some (pD (hold a.length 0 0 es)[i + 1], G) := fun G => by
        refine idx_s (v_s v5) (v_s v7) ?_
        show idxD (.tup _) _ _ = _
        rw [idx_tup, atT (d := pD (hold a.length 0 0 es)[i + 1]) (by rw [List.getElem?_map, List.getElem?_eq_getElem hi1]; rfl)]; rfl
      refine or_ff (cmp_t (idx_s (g1 _) k_s rfl) (idx_s (g2 _) k_s rfl) ?_) (cmp_t (idx_s (g1 _) k_s rfl) (idx_s (g2 _) k_s rfl) ?_)
      · rw [cmp_geI]; simp; omega
      · rw [cmp_geI]; simp; omega
  refine (congrArg (fun z => Option.bind z outD) (seq_ife_f (ς := st) t2)).trans ?_
  -- the pieces
  refine (congrArg (fun z => Option.bind z outD) (set_s (call_s (n := 1) (one_v (i := 0) rfl) rfl e11))).trans ?_
  refine (congrArg (fun z => Option.bind z outD) (for_nx (ds := (turns 0 0 es).map eD) (G1 := G ++ l1 ++ l2 ++ l3 ++ l4 ++ l5 ++ l6) ?f1 e12)).trans ?_
  case f1 => rw [ev_iseq1, call_s (n := 2) (two_v (i := 0) (j := 3) rfl rfl) rfl e10, bnd_s]; rfl
  refine (congrArg (fun z => Option.bind z outD) (set_s (call_s (n := 2) (two_v (i := 0) (j := 1) rfl rfl) rfl e13))).trans ?_
  refine seq_ret (and_s (cmp_s (call_s (n := 1) (one_v (i := 8) rfl) rfl e14) (v_s (i := 1) rfl) (r := true) (by simp)) (and_s (G1 := G ++ l1 ++ l2 ++ l3 ++ l4 ++ l5 ++ l6 ++ l7 ++ l8) (cmp_s (blt_s (one_v (i := 10) rfl) lenT) (bin_s k_s (bin_s (v_s (i := 4) rfl) (v_s (i := 2) rfl) bin_subi) (by rw [mul_s, if_pos (by omega), hdz])) (r := true) ?_) (cmp_s (call_s (n := 4) (four_v (i := 0) (j := 1) (k := 3) (l := 10) rfl rfl rfl rfl) rfl e15) k_s is_bl)))
  simp [prows]
end K14
set_option Elab.async false
set_option linter.all false
set_option autoImplicit false
set_option maxRecDepth 100000
set_option maxHeartbeats 2000000
/-! parts of the law -/
namespace K14
open PySem PySem.Spec L2 Mp
open PyProof.Rows hiding St

theorem perm_map {α β : Type} (f : α → β) {l : List β} {m : List α} (h : l.Perm (m.map f)) : ∃ xs : List α, xs.Perm m ∧ l = xs.map f := by
  generalize e : m.map f = k at h
  induction h generalizing m with
  | nil =>
    have : m = [] := by simpa using e
    subst this; exact ⟨[], List.Perm.nil, rfl⟩
  | cons x _ ih =>
    obtain ⟨y, m', rfl, rfl, e2⟩ := List.map_eq_cons_iff.mp e
    obtain ⟨xs, p, rfl⟩ := ih e2
    exact ⟨y :: xs, p.cons y, rfl⟩
  | swap x y l =>
    obtain ⟨u, m', rfl, rfl, e2⟩ := List.map_eq_cons_iff.mp e
    obtain ⟨v, m2, rfl, rfl, e3⟩ := List.map_eq_cons_iff.mp e2
    exact ⟨v :: u :: m2, List.Perm.swap _ _ _, by simp [e3]⟩
  | trans h1 h2 ih1 ih2 =>
    obtain ⟨xs, p, rfl⟩ := ih2 e
    obtain ⟨ys, q, rfl⟩ := ih1 rfl
    exact ⟨ys, q.trans p, rfl⟩
def chD (c : Nat) : D := .str [c]
theorem strs_ch : ∀ xs : List Nat, strsD (xs.map chD) = some (xs.map fun c => [c])
  | [] => rfl
  | x :: xs => by simp [strsD, chD, strs_ch xs]
theorem flat_ch (xs : List Nat) : (xs.map fun c => [c]).flatten = xs := by
  induction xs with
  | nil => rfl
  | cons x xs ih => simp [ih]
theorem join_s {cl : Nat → List D → Hs → Rs} {ς : Env'} {G G1 : Hs} {e : E} {xs : List Nat} (h : (ev cl e).1 ς G = some (.lst (xs.map chD), G1)) (hl : xs.length ≤ 10000) : (ev cl (E.mth Mth.join (E.k (D.str [])) (E.cons e E.nil))).1 ς G = some (.str xs, G1) := by
  refine mth_s k_s rfl (cons_s h nil_s) ?_
  rw [mk_join]
  unfold joinM
  have es : seqOf G1 (.lst (xs.map chD)) = some (xs.map chD) := rfl
  have el : ((xs.map fun c => [c]).map List.length).sum ≤ 16777216 := by
    have : ((xs.map fun c => [c]).map List.length).sum = xs.length := by rw [← List.length_flatten, flat_ch]
    omega
  simp only [es, strs_ch, Option.bind_some, if_pos el, flat_ch]
/-- a comprehension that finds none, whatever is made on the way -/
theorem comp_noneG {cl : Nat → List D → Hs → Rs} {ς : Env'} {own : List Nat} {i : Nat} {it c e : E} {G G1 : Hs} : ∀ {ds : List D}, (ev cl it).1 ς G = some (.tup ds, G1) → (∀ d ∈ ds, ∀ G', ∃ g, (ev cl c).2 ((wipeE ς own).set i (some d)) G' = some (false, G' ++ g)) →
    ∃ g, (ev cl (E.comp false (Tg.nm i) own it c e)).1 ς G = some (.lst [], G1 ++ g) := by
  intro ds hi h
  have key : ∀ (ds : List D) (G : Hs), (∀ d ∈ ds, ∀ G', ∃ g, (ev cl c).2 ((wipeE ς own).set i (some d)) G' = some (false, G' ++ g)) → ∃ g, loopC (ev cl c).2 (ev cl e).1 (Tg.nm i) (wipeE ς own) ds [] G = some ([], G ++ g) := by
    intro ds
    induction ds with
    | nil => intro G _; exact ⟨[], by simp [loopC]⟩
    | cons d ds ih =>
      intro G h
      obtain ⟨g1, e1⟩ := h d (by simp) G
      obtain ⟨g2, e2⟩ := ih (G ++ g1) fun d' h' => h d' (by simp [h'])
      refine ⟨g1 ++ g2, ?_⟩
      simp only [loopC, bindL_nm, Option.bind_some, e1, bnd_s, Bool.false_eq_true, if_false, e2]
      simp
  obtain ⟨g, e1⟩ := key ds G1 h
  refine ⟨g, ?_⟩
  rw [ev_comp1, hi, bnd_s, argK_s, e1, bnd_s, newD_f]
/-! the signs -/
def sgn : List Nat := [97, 98, 99, 100, 101, 102, 103, 104, 105, 106, 107, 108, 109, 110, 111, 112, 113, 114, 115, 116, 117, 118, 119, 120, 121, 122, 32, 43, 45, 44, 46, 59]
theorem sgn_nd : sgn.Nodup := by decide
theorem sgn_ok : ∀ c ∈ sgn, 32 ≤ c ∧ c ≤ 126 := by decide
theorem sort_ch {xs : List Nat} (hl : xs.length < 64) {G : Hs} : ∃ sg : List Nat, sg.Perm xs ∧ sortD false (.lst (xs.map chD)) G = some (.lst (sg.map chD), G) := by
  have hp : (sortStrs (xs.map fun c => [c])).Perm (xs.map fun c => [c]) := List.mergeSort_perm _ _
  obtain ⟨sg, p, e⟩ := perm_map _ hp
  refine ⟨sg, p, ?_⟩
  unfold sortD
  have hr : Mp.roOf G (.lst (xs.map chD)) = some (xs.map chD) := rfl
  simp only [hr, Option.bind_some, strs_ch, List.length_map, if_pos hl, e, newD_f, List.map_map]
  rfl
/-! places -/
theorem idxOf_hd (k : Nat) (o : List Nat) : (k :: o).idxOf k = 0 := by simp [List.idxOf_cons]
theorem idxOf_tl {x k : Nat} (o : List Nat) (h : x ≠ k) : (x :: o).idxOf k = o.idxOf k + 1 := by
  have : (x == k) = false := by simpa using h
  rw [List.idxOf_cons, this]; rfl
theorem find_idx : ∀ {o : List Nat} {k : Nat}, k ∈ o → (o.map fun x : Nat => D.int (x : Nat)).findIdx? (fun z => eqD z (.int (k : Nat))) = some (o.idxOf k)
  | [], k, h => by simp at h
  | x :: o, k, h => by
    rw [List.map_cons, List.findIdx?_cons]
    by_cases e : x = k
    · subst e
      rw [idxOf_hd]; simp [eqD]
    · have hk : k ∈ o := (List.mem_cons.mp h).resolve_left fun q => e q.symm
      have h1 : eqD (.int (x : Nat)) (.int (k : Nat)) = false := by simp [eqD]; omega
      rw [h1, idxOf_tl o e, find_idx hk]; rfl
theorem index_s {o : List Nat} {k : Nat} {G : Hs} (hk : k ∈ o) (hl : o.length ≤ 900) : indexM (nsD o) [.int (k : Nat)] G = some (.int (o.idxOf k : Nat), G) := by
  have ok1 : okC (.int (k : Nat)) = true := by simp [okC, okD, depD]
  have ok2 : okC (nsD o) = true := by rw [nsD_is]; exact okC_is _
  unfold indexM
  simp only []
  have hlo : Mp.listOf G (nsD o) = some (o.map fun x : Nat => D.int (x : Nat)) := rfl
  rw [hlo, Option.bind_some, if_pos ⟨ok1, ok2⟩, find_idx hk]; rfl
/-- the one place -/
theorem hits_one {φ : Nat → Nat} : ∀ {o : List Nat} {k s : Nat}, k ∈ o → o.Nodup → (∀ x ∈ o, φ x = φ k → x = k) → hits (φ k) ((o.map φ).zipIdx s) = [.int ((s + o.idxOf k : Nat) : Int)]
  | [], k, s, h, _, _ => by simp at h
  | x :: o, k, s, h, hn, hi => by
    rw [List.nodup_cons] at hn
    by_cases e : x = k
    · subst e
      have h0 : hits (φ x) ((o.map φ).zipIdx (s + 1)) = [] := by
        unfold hits
        rw [List.map_eq_nil_iff, List.filter_eq_nil_iff]
        rintro ⟨v, i⟩ hv
        simp only [beq_iff_eq]
        intro q
        have : v ∈ o.map φ := List.fst_mem_of_mem_zipIdx hv
        obtain ⟨y, hy, ey⟩ := List.mem_map.mp this
        have := hi y (by simp [hy]) (by rw [ey, q])
        exact hn.1 (this ▸ hy)
      have e1 : hits (φ x) (((x :: o).map φ).zipIdx s) = D.int (s : Nat) :: hits (φ x) ((o.map φ).zipIdx (s + 1)) := by
        rw [List.map_cons, List.zipIdx_cons]; unfold hits; rw [List.filter_cons_of_pos (by simp)]; rfl
      rw [e1, h0, idxOf_hd]; simp
    · have hk : k ∈ o := (List.mem_cons.mp h).resolve_left fun q => e q.symm
      have ih := hits_one (φ := φ) (s := s + 1) hk hn.2 fun y hy => hi y (by simp [hy])
      have e1 : hits (φ k) (((x :: o).map φ).zipIdx s) = hits (φ k) ((o.map φ).zipIdx (s + 1)) := by
        rw [List.map_cons, List.zipIdx_cons]; unfold hits
        rw [List.filter_cons_of_neg (by
          simp only [beq_iff_eq]
          exact fun q => e (hi x (by simp) q))]
      rw [e1, ih, idxOf_tl o e]
      congr 2; omega
end K14
set_option Elab.async false
set_option linter.all false
set_option autoImplicit false
set_option maxRecDepth 100000
set_option maxHeartbeats 2000000
/-! one turn of the law, first half -/
namespace K14
open PySem PySem.Spec L2 Mp
open PyProof.Rows hiding St

abbrev q3 : S := S.set 3 (E.bin Bop.add (E.k (D.int 1)) (E.call 37 2 (E.cons (E.v 1) (E.cons (E.k (D.int 20)) E.nil))))
abbrev q4 : S := S.set 4 (E.blt (Blt.sorted false) (E.cons (E.sl false (E.call 48 2 (E.cons (E.v 1) (E.cons (E.blt (Blt.list false) (E.cons (E.k (D.str [97, 98, 99, 100, 101, 102, 103, 104, 105, 106, 107, 108, 109, 110, 111, 112, 113, 114, 115, 116, 117, 118, 119, 120, 121, 122, 32, 43, 45, 44, 46, 59])) E.nil)) E.nil))) E.nil (E.v 3)) E.nil))
abbrev q5 : S := S.set 5 (E.lst false (E.cons (E.call 48 2 (E.cons (E.v 1) (E.cons (E.lrg false 1 (E.cons (E.v 3) E.nil)) E.nil))) (E.cons (E.call 48 2 (E.cons (E.v 1) (E.cons (E.lrg false 1 (E.cons (E.v 3) E.nil)) E.nil))) E.nil)))
structure Got (n : Nat) (sg o0 o1 : List Nat) : Prop where
  n1 : 1 ≤ n
  n20 : n ≤ 20
  len : sg.length = n
  nd : sg.Nodup
  ok : Sg sg
  p0 : o0.Perm (List.range n)
  p1 : o1.Perm (List.range n)
theorem plain_ch {xs : List Nat} (h : ∀ c ∈ xs, c ≤ 126) : Plain (xs.map chD) := fun d hd => by
  obtain ⟨c, hc, rfl⟩ := List.mem_map.mp hd
  exact .inr ⟨[c], rfl, fun x hx => by rw [List.mem_singleton.mp hx]; have := h c hc; omega⟩
theorem plain_int (xs : List Nat) : Plain (xs.map fun x : Nat => D.int (x : Nat)) := fun d hd => by
  obtain ⟨c, _, rfl⟩ := List.mem_map.mp hd
  exact .inl ⟨_, rfl⟩
theorem shuf_range {m : Nat} (hm : 2 ≤ m) {dn : Nat} {G : Hs} (hd : Dr dn G) {n : Nat} (hn : n ≤ 20) : ∃ o G', F m 48 [.ref dn, nsD (List.range n)] G = some (nsD o, G') ∧ o.Perm (List.range n) ∧ Mv dn G G' ∧ Dr dn G' := by
  obtain ⟨fs, G', e, p, mv, dr⟩ := shuffled_run hm hd (plain_int (List.range n)) (by simp; omega)
  obtain ⟨o, po, rfl⟩ := perm_map _ p
  exact ⟨o, G', e, po, mv, dr⟩
theorem turn_a {m : Nat} (hm : 5 ≤ m) {dn : Nat} {G : Hs} (hd : Dr dn G) {v0 v2 o3 o4 o5 o6 o7 o8 o9 o10 o11 o12 o13 o14 o15 : Option D} : ∃ n sg o0 o1 G', Got n sg o0 o1 ∧ Mv dn G G' ∧ Dr dn G' ∧ ∀ r : S,
    evS (F m) (S.seq q3 (S.seq q4 (S.seq q5 r))) [v0, some (.ref dn), v2, o3, o4, o5, o6, o7, o8, o9, o10, o11, o12, o13, o14, o15] G =
      evS (F m) r [v0, some (.ref dn), v2, some (.int (n : Nat)), some (.lst (sg.map chD)), some (.lst [nsD o0, nsD o1]), o6, o7, o8, o9, o10, o11, o12, o13, o14, o15] G' := by
  obtain ⟨k, G1, hk, m1, d1, e1⟩ := take0_run (m := m) (by omega) hd (b := 20) (by omega)
  obtain ⟨fs, G2, e2, p2, m2, d2⟩ := shuffled_run (m := m) (by omega) d1 (ds := sgn.map chD) (plain_ch fun c hc => (sgn_ok c hc).2) (by simp [sgn])
  obtain ⟨cs, pc, rfl⟩ := perm_map chD p2
  have hcl : cs.length = 32 := pc.length_eq
  obtain ⟨sg, ps, e3⟩ := sort_ch (xs := cs.take (1 + k)) (by rw [List.length_take]; omega) (G := G2)
  obtain ⟨o0, G3, e4, p0, m3, d3⟩ := shuf_range (m := m) (by omega) d2 (n := 1 + k) (by omega)
  obtain ⟨o1, G4, e5, p1, m4, d4⟩ := shuf_range (m := m) (by omega) d3 (n := 1 + k) (by omega)
  have hsub : ∀ c ∈ sg, c ∈ sgn := fun c hc => pc.mem_iff.mp (List.mem_of_mem_take (ps.mem_iff.mp hc))
  refine ⟨1 + k, sg, o0, o1, G4, ⟨by omega, by omega, by rw [ps.length_eq, List.length_take]; omega, ps.nodup_iff.mpr ((pc.nodup_iff.mpr sgn_nd).sublist (List.take_sublist _ _)), fun c hc => .inr (sgn_ok c (hsub c hc)), p0, p1⟩, ((m1.tr hd m2).tr hd m3).tr hd m4, d4, fun r => ?_⟩
  have s3 : ∀ (st : Env'), st[1]? = some (some (.ref dn)) → (ev (F m) (E.bin Bop.add (E.k (D.int 1)) (E.call 37 2 (E.cons (E.v 1) (E.cons (E.k (D.int 20)) E.nil))))).1 st G = some (.int ((1 + k : Nat) : Int), G1) := fun st h => by
    refine bin_s k_s (call_s (n := 2) (cons_s (v_s h) (cons_s k_s nil_s)) rfl e1) ?_
    rw [bin_addi]; simp
  rw [set_s (s3 _ rfl)]
  have s4 : ∀ (st : Env'), st[1]? = some (some (.ref dn)) → st[3]? = some (some (.int ((1 + k : Nat) : Int))) → (ev (F m) (E.blt (Blt.sorted false) (E.cons (E.sl false (E.call 48 2 (E.cons (E.v 1) (E.cons (E.blt (Blt.list false) (E.cons (E.k (D.str [97, 98, 99, 100, 101, 102, 103, 104, 105, 106, 107, 108, 109, 110, 111, 112, 113, 114, 115, 116, 117, 118, 119, 120, 121, 122, 32, 43, 45, 44, 46, 59])) E.nil)) E.nil))) E.nil (E.v 3)) E.nil))).1 st G1 = some (.lst (sg.map chD), G2) := fun st h1 h3 => by
    have hl : (ev (F m) (E.blt (Blt.list false) (E.cons (E.k (D.str [97, 98, 99, 100, 101, 102, 103, 104, 105, 106, 107, 108, 109, 110, 111, 112, 113, 114, 115, 116, 117, 118, 119, 120, 121, 122, 32, 43, 45, 44, 46, 59])) E.nil))).1 st G1 = some (.lst (sgn.map chD), G1) := by
      refine blt_s (cons_s k_s nil_s) ?_
      rw [blt_list, one_s]; rfl
    have hc : (ev (F m) (E.call 48 2 (E.cons (E.v 1) (E.cons (E.blt (Blt.list false) (E.cons (E.k (D.str [97, 98, 99, 100, 101, 102, 103, 104, 105, 106, 107, 108, 109, 110, 111, 112, 113, 114, 115, 116, 117, 118, 119, 120, 121, 122, 32, 43, 45, 44, 46, 59])) E.nil)) E.nil)))).1 st G1 = some (.lst (cs.map chD), G2) := call_s (n := 2) (cons_s (v_s h1) (cons_s hl nil_s)) rfl e2
    refine blt_s (cons_s (x := .lst ((cs.take (1 + k)).map chD)) (G1 := G2) ?_ nil_s) ?_
    · rw [ev_sl1, slF_s, hc, bnd_s]
      simp only [isNil_nil, if_true, partD_n, bnd_s, isNil_v, Bool.false_eq_true, if_false, partD_s, v_s h3, partI_i]
      rw [sl_lst, cut_to, List.map_take]
    · rw [blt_sorted, one_s]; exact e3
  refine (set_s (s4 _ rfl rfl)).trans ?_
  have hr : ∀ (st : Env') (G : Hs), st[3]? = some (some (.int ((1 + k : Nat) : Int))) → (ev (F m) (E.lrg false 1 (E.cons (E.v 3) E.nil))).1 st G = some (nsD (List.range (1 + k)), G) := fun st G h => by
    rw [ev_lrg1, one_v h, bnd_s, argK_s]
    exact (if_pos rfl).trans (range_s (by omega))
  refine (set_s (d := .lst [nsD o0, nsD o1]) (G1 := G4) (lst_s (cons_s (call_s (n := 2) (cons_s (v_s (i := 1) rfl) (cons_s (hr _ _ rfl) nil_s)) rfl e4) (cons_s (call_s (n := 2) (cons_s (v_s (i := 1) rfl) (cons_s (hr _ _ rfl) nil_s)) rfl e5) nil_s)) (by simp))).trans ?_
  rfl
abbrev q6 : S := S.set 6 (E.comp false (Tg.nm 8) [8] (E.iseq (E.v 5)) E.yes (E.mth Mth.join (E.k (D.str [])) (E.cons (E.comp false (Tg.nm 7) [7] (E.iseq (E.v 8)) E.yes (E.idx (E.v 4) (E.v 7))) E.nil)))
abbrev q7 : S := S.par2 9 10 (E.cons (E.mth Mth.join (E.k (D.str [])) (E.cons (E.v 4) E.nil)) (E.cons (E.mth Mth.join (E.k (D.str [])) (E.cons (E.rev false (E.v 4)) E.nil)) E.nil))
abbrev q8 : S := S.tgt (Tg.tp (Tg.cons (Tg.nm 11) (Tg.cons (Tg.nm 12) Tg.nil))) (E.call 50 1 (E.cons (E.idx (E.v 5) (E.k (D.int 0))) E.nil))
/-- the text of an order -/
def tx (sg o : List Nat) : List Nat := o.map fun k => sg.getD k 0
theorem tx_comp {cl : Nat → List D → Hs → Rs} {ς : Env'} {G G1 : Hs} {sg o : List Nat} {it : E} (hi : (ev cl it).1 ς G = some (nsD o, G1)) (h4 : ς[4]? = some (some (.lst (sg.map chD)))) (h7 : 7 < ς.length) (ho : ∀ k ∈ o, k < sg.length) (hl : o.length ≤ 1000) :
    (ev cl (E.comp false (Tg.nm 7) [7] (E.iseq it) E.yes (E.idx (E.v 4) (E.v 7)))).1 ς G = some (.lst ((tx sg o).map chD), G1) := by
  have := comp_map (cl := cl) (ς := ς) (G := G) (G1 := G1) (own := [7]) (t := Tg.nm 7) (it := E.iseq it) (c := E.yes) (e := E.idx (E.v 4) (E.v 7)) (ds := o.map fun x : Nat => D.int (x : Nat)) (fun d => match d with | .int i => chD (sg.getD i.toNat 0) | _ => d) (by rw [ev_iseq1, hi, bnd_s]; rfl) (by simp; omega) (fun d hd => by
    obtain ⟨k, hk, rfl⟩ := List.mem_map.mp hd
    have hks := ho k hk
    refine ⟨_, bindL_nm, rfl, idx_s (v_s (d := .lst (sg.map chD)) ?_) (v_s (d := .int (k : Nat)) (List.getElem?_set_self (by rw [wipe_len]; exact h7))) ?_⟩
    · rw [List.getElem?_set_ne (by decide), wipe_at (by decide)]; exact h4
    · rw [idx_lst, atT (d := chD (sg.getD k 0)) (by rw [List.getElem?_map, List.getElem?_eq_getElem hks, List.getD_eq_getElem?_getD, List.getElem?_eq_getElem hks]; rfl)]
      rfl)
  rw [this]
  unfold tx
  rw [List.map_map, List.map_map]
  rfl
def dec (d : D) : List Nat := match d with
  | .lst xs => xs.map fun x => match x with | .int i => i.toNat | _ => 0
  | _ => []
theorem dec_ns (o : List Nat) : dec (nsD o) = o := by
  show ((o.map fun x : Nat => D.int (x : Nat)).map fun x => match x with | .int i => i.toNat | _ => 0) = o
  rw [List.map_map]
  conv => rhs; rw [← List.map_id o]
  apply List.map_congr_left
  intro x _
  exact Int.toNat_natCast x
theorem turn_b {m : Nat} (hm : 5 ≤ m) {G : Hs} {n : Nat} {sg oA oB : List Nat} (g : Got n sg oA oB) {v0 v1 v2 o6 o7 o8 o9 o10 o11 o12 o13 o14 o15 : Option D} : ∃ l, ∀ r : S,
    evS (F m) (S.seq q6 (S.seq q7 (S.seq q8 r))) [v0, v1, v2, some (.int (n : Nat)), some (.lst (sg.map chD)), some (.lst [nsD oA, nsD oB]), o6, o7, o8, o9, o10, o11, o12, o13, o14, o15] G =
      evS (F m) r [v0, v1, v2, some (.int (n : Nat)), some (.lst (sg.map chD)), some (.lst [nsD oA, nsD oB]), some (.lst [.str (tx sg oA), .str (tx sg oB)]), o7, o8, some (.str sg), some (.str sg.reverse), some (.int ((fst_ oA).length : Nat)), some (.int ((table oA).length : Nat)), o13, o14, o15] (G ++ l) := by
  have hA := perm_len g.p0
  have hB := perm_len g.p1
  have lA : ∀ k ∈ oA, k < sg.length := fun k hk => by rw [g.len]; exact perm_lt g.p0 hk
  have lB : ∀ k ∈ oB, k < sg.length := fun k hk => by rw [g.len]; exact perm_lt g.p1 hk
  have n20 := g.n20
  obtain ⟨l, e1⟩ := law_up_run (m := m) (by omega) (G := G) (row := oA) (perm_nd g.p0) (fun q => by have := g.n1; rw [q] at hA; simp at hA; omega) (by omega)
  refine ⟨l, fun r => ?_⟩
  have s6 : ∀ (st : Env'), st[5]? = some (some (.lst [nsD oA, nsD oB])) → st[4]? = some (some (.lst (sg.map chD))) → 9 < st.length → (ev (F m) (E.comp false (Tg.nm 8) [8] (E.iseq (E.v 5)) E.yes (E.mth Mth.join (E.k (D.str [])) (E.cons (E.comp false (Tg.nm 7) [7] (E.iseq (E.v 8)) E.yes (E.idx (E.v 4) (E.v 7))) E.nil)))).1 st G = some (.lst [.str (tx sg oA), .str (tx sg oB)], G) := fun st h5 h4 hl => by
    have := comp_map (cl := F m) (ς := st) (G := G) (G1 := G) (own := [8]) (t := Tg.nm 8) (it := E.iseq (E.v 5)) (c := E.yes) (e := E.mth Mth.join (E.k (D.str [])) (E.cons (E.comp false (Tg.nm 7) [7] (E.iseq (E.v 8)) E.yes (E.idx (E.v 4) (E.v 7))) E.nil)) (ds := [nsD oA, nsD oB]) (fun d => .str (tx sg (dec d))) (by rw [ev_iseq1, v_s h5, bnd_s]; rfl) (by simp) (fun d hd => by
      obtain ⟨o, rfl, ho, hol⟩ : ∃ o, d = nsD o ∧ (∀ k ∈ o, k < sg.length) ∧ o.length ≤ 20 := by
        simp only [List.mem_cons, List.not_mem_nil, or_false] at hd
        rcases hd with rfl | rfl
        · exact ⟨oA, rfl, lA, by omega⟩
        · exact ⟨oB, rfl, lB, by omega⟩
      refine ⟨_, bindL_nm, rfl, ?_⟩
      rw [dec_ns]
      have hw : ((wipeE st [8]).set 8 (some (nsD o)))[4]? = some (some (.lst (sg.map chD))) := by rw [List.getElem?_set_ne (by decide), wipe_at (by decide)]; exact h4
      exact join_s (tx_comp (v_s (List.getElem?_set_self (by rw [wipe_len]; omega))) hw (by rw [List.length_set, wipe_len]; omega) ho (by omega)) (by unfold tx; rw [List.length_map]; omega))
    rw [this]
    simp only [List.map_cons, List.map_nil, dec_ns]
  rw [set_s (s6 _ rfl rfl (by simp))]
  refine (par2_s (G1 := G) (cons_s (join_s (v_s (i := 4) rfl) (by rw [g.len]; omega)) (cons_s (join_s (xs := sg.reverse) (G1 := G) ?_ (by rw [List.length_reverse, g.len]; omega)) nil_s))).trans ?_
  · rw [ev_rev1, v_s (i := 4) rfl, bnd_s, rev_lst, List.map_reverse]
  refine (tgt_s (call_s (n := 1) (cons_s (idx_s (v_s (i := 5) rfl) k_s rfl) nil_s) rfl e1) bind2).trans ?_
  rfl
end K14
set_option Elab.async false
set_option linter.all false
set_option autoImplicit false
set_option maxRecDepth 100000
set_option maxHeartbeats 2000000
/-! one turn of the law, second half; the law -/
namespace K14
open PySem PySem.Spec L2 Mp
open PyProof.Rows hiding St

theorem tx_len {sg o : List Nat} : (tx sg o).length = o.length := by unfold tx; rw [List.length_map]
theorem tx_range {sg : List Nat} : tx sg (List.range sg.length) = sg := by
  unfold tx
  apply List.ext_getElem?
  intro i
  rw [List.getElem?_map]
  by_cases h : i < sg.length
  · rw [List.getElem?_range h, Option.map_some, List.getD_eq_getElem?_getD, List.getElem?_eq_getElem h]; rfl
  · rw [List.getElem?_eq_none (by simp; omega), List.getElem?_eq_none (by omega)]; rfl
theorem tx_rev {sg : List Nat} : tx sg (List.range sg.length).reverse = sg.reverse := by
  conv => rhs; rw [← tx_range (sg := sg)]
  unfold tx
  rw [List.map_reverse]
theorem tx_inj {sg : List Nat} (hn : sg.Nodup) {x y : Nat} (hx : x < sg.length) (hy : y < sg.length) (e : sg.getD x 0 = sg.getD y 0) : x = y := by
  rw [List.getD_eq_getElem?_getD, List.getD_eq_getElem?_getD, List.getElem?_eq_getElem hx, List.getElem?_eq_getElem hy] at e
  exact (List.getElem_inj hn).mp e
theorem tx_sg {sg o : List Nat} (hs : Sg sg) (ho : ∀ k ∈ o, k < sg.length) : Sg (tx sg o) := fun c hc => by
  obtain ⟨k, hk, rfl⟩ := List.mem_map.mp hc
  have := ho k hk
  rw [List.getD_eq_getElem?_getD, List.getElem?_eq_getElem this]
  exact hs _ (List.getElem_mem this)
theorem tx_dist {sg a b : List Nat} (hn : sg.Nodup) (ha : ∀ k ∈ a, k < sg.length) (hb : ∀ k ∈ b, k < sg.length) : dist (tx sg a) (tx sg b) = dist a b :=
  dist_inj fun x hx y hy e => tx_inj hn (ha x hx) (hb y hy) e
theorem places_comp {cl : Nat → List D → Hs → Rs} {ς : Env'} {G G1 : Hs} {o a : List Nat} {it oe : E} (hi : (ev cl it).1 ς G = some (.tup (a.map fun x : Nat => D.int (x : Nat)), G1)) (h7 : 7 < ς.length) (ho : ∀ d, (ev cl oe).1 ((wipeE ς [7]).set 7 d) G1 = some (nsD o, G1)) (hm : ∀ k ∈ a, k ∈ o) (hl : a.length ≤ 800) (hl2 : o.length ≤ 800) :
    (ev cl (E.comp false (Tg.nm 7) [7] it E.yes (E.mth Mth.index oe (E.cons (E.v 7) E.nil)))).1 ς G = some (nsD (placesIn o a), G1) := by
  have := comp_map (cl := cl) (ς := ς) (G := G) (G1 := G1) (own := [7]) (t := Tg.nm 7) (it := it) (c := E.yes) (e := E.mth Mth.index oe (E.cons (E.v 7) E.nil)) (ds := a.map fun x : Nat => D.int (x : Nat)) (fun d => match d with | .int i => .int (o.idxOf i.toNat : Nat) | _ => d) hi (by simp; omega) (fun d hd => by
    obtain ⟨k, hk, rfl⟩ := List.mem_map.mp hd
    refine ⟨_, bindL_nm, rfl, mth_s (ho _) rfl (one_v (d := .int (k : Nat)) (List.getElem?_set_self (by rw [wipe_len]; exact h7))) ?_⟩
    rw [mk_index, index_s (hm k hk) (by omega)]
    rfl)
  rw [this]
  unfold placesIn nsD
  rw [List.map_map, List.map_map]
  rfl
abbrev q9 : S := S.ife (E.or (E.not (E.call 51 3 (E.cons (E.idx (E.v 6) (E.k (D.int 0))) (E.cons (E.v 9) (E.cons (E.v 11) E.nil))))) (E.or (E.not (E.call 51 3 (E.cons (E.idx (E.v 6) (E.k (D.int 0))) (E.cons (E.v 10) (E.cons (E.v 12) E.nil))))) (E.cmp Cop.lt (E.bin Bop.mul (E.v 11) (E.v 12)) (E.v 3)))) (S.seq (S.ret (E.k (D.bl false))) S.skip) S.skip
abbrev q10 : S := S.set 13 (E.comp false (Tg.nm 7) [7] (E.iseq (E.idx (E.v 5) (E.k (D.int 0)))) E.yes (E.mth Mth.index (E.idx (E.v 5) (E.k (D.int 1))) (E.cons (E.v 7) E.nil)))
abbrev q11 : S := S.set 14 (E.idx (E.call 50 1 (E.cons (E.v 13) E.nil)) (E.k (D.int 0)))
abbrev q12 : S := S.ife (E.or (E.not (E.call 51 3 (E.cons (E.idx (E.v 6) (E.k (D.int 0))) (E.cons (E.idx (E.v 6) (E.k (D.int 1))) (E.cons (E.v 14) E.nil))))) (E.cmp Cop.gt (E.call 35 2 (E.cons (E.idx (E.v 6) (E.k (D.int 0))) (E.cons (E.idx (E.v 6) (E.k (D.int 1))) E.nil))) (E.bin Bop.add (E.bin Bop.mul (E.k (D.int 2)) (E.bin Bop.sub (E.v 3) (E.v 11))) (E.call 35 2 (E.cons (E.v 9) (E.cons (E.idx (E.v 6) (E.k (D.int 1))) E.nil)))))) (S.seq (S.ret (E.k (D.bl false))) S.skip) S.skip
abbrev q13 : S := S.set 15 (E.comp false (Tg.nm 7) [7] (E.irng 1 (E.cons (E.v 3) E.nil)) E.yes (E.mth Mth.index (E.idx (E.v 5) (E.k (D.int 0))) (E.cons (E.v 7) E.nil)))
abbrev q14 : S := S.ife (E.cmp Cop.ne (E.call 35 2 (E.cons (E.mth Mth.join (E.k (D.str [])) (E.cons (E.comp false (Tg.nm 7) [7] (E.iseq (E.v 15)) E.yes (E.idx (E.v 4) (E.v 7))) E.nil)) (E.cons (E.v 9) E.nil))) (E.bin Bop.mul (E.k (D.int 2)) (E.bin Bop.sub (E.v 3) (E.v 11)))) (S.seq (S.ret (E.k (D.bl false))) S.skip) S.skip
abbrev q15 : S := S.ife (E.cmp Cop.ne (E.comp false (Tg.nm 7) [7] (E.irng 1 (E.cons (E.v 3) E.nil)) (E.not (E.call 38 2 (E.cons (E.call 47 2 (E.cons (E.idx (E.v 6) (E.k (D.int 0))) (E.cons (E.tup (E.cons (E.idx (E.v 4) (E.v 7)) (E.cons (E.k (D.bl false)) (E.cons (E.k (D.bl true)) E.nil)))) E.nil))) (E.cons (E.tup (E.cons (E.idx (E.v 15) (E.v 7)) E.nil)) E.nil)))) (E.v 7)) (E.lst false E.nil)) (S.seq (S.ret (E.k (D.bl false))) S.skip) S.skip
theorem turn_c {m : Nat} (hm : 57 ≤ m) {G : Hs} {n : Nat} {sg oA oB : List Nat} (g : Got n sg oA oB) {v0 v1 v2 o7 o8 o13 o14 o15 : Option D} : ∃ u13 u14 u15 l,
    evS (F m) (S.seq q9 (S.seq q10 (S.seq q11 (S.seq q12 (S.seq q13 (S.seq q14 (S.seq q15 S.skip))))))) [v0, v1, v2, some (.int (n : Nat)), some (.lst (sg.map chD)), some (.lst [nsD oA, nsD oB]), some (.lst [.str (tx sg oA), .str (tx sg oB)]), o7, o8, some (.str sg), some (.str sg.reverse), some (.int ((fst_ oA).length : Nat)), some (.int ((table oA).length : Nat)), o13, o14, o15] G =
      some (.nx [v0, v1, v2, some (.int (n : Nat)), some (.lst (sg.map chD)), some (.lst [nsD oA, nsD oB]), some (.lst [.str (tx sg oA), .str (tx sg oB)]), o7, o8, some (.str sg), some (.str sg.reverse), some (.int ((fst_ oA).length : Nat)), some (.int ((table oA).length : Nat)), u13, u14, u15] (G ++ l)) := by
  obtain ⟨n1, n20, hsl, hnd, hok, p0, p1⟩ := g
  have hA := perm_len p0
  have hB := perm_len p1
  have lA : ∀ k ∈ oA, k < sg.length := fun k hk => by rw [hsl]; exact perm_lt p0 hk
  have lB : ∀ k ∈ oB, k < sg.length := fun k hk => by rw [hsl]; exact perm_lt p1 hk
  have lR : ∀ k ∈ List.range sg.length, k < sg.length := fun k hk => List.mem_range.mp hk
  have lRr : ∀ k ∈ (List.range sg.length).reverse, k < sg.length := fun k hk => List.mem_range.mp (by simpa using hk)
  have sA := tx_sg hok lA
  have sB := tx_sg hok lB
  have sR : Sg sg.reverse := fun c hc => hok c (by simpa using hc)
  have tA : (tx sg oA).length = n := by rw [tx_len, hA]
  have tB : (tx sg oB).length = n := by rw [tx_len, hB]
  -- what it costs
  have d1 : dist (tx sg oA) sg + 2 * (fst_ oA).length = 2 * n := by
    have e := tx_dist hnd lA lR
    rw [tx_range] at e
    rw [e, hsl]; exact dist_up p0
  have d2 : dist (tx sg oA) sg.reverse + 2 * (table oA).length = 2 * n := by
    have e := tx_dist hnd lA lRr
    rw [tx_rev] at e
    rw [e, hsl]; exact dist_down p0
  have pp := places_perm p1 p0
  have d3 : dist (tx sg oA) (tx sg oB) + 2 * (fst_ (placesIn oB oA)).length = 2 * n := by
    rw [tx_dist hnd lA lB, dist_places p1 p0]; exact dist_up pp
  have pt := places_perm p0 (List.Perm.refl (List.range n))
  have lT : ∀ k ∈ placesIn oA (List.range n), k < sg.length := fun k hk => by rw [hsl]; exact perm_lt pt hk
  have d4 : dist (tx sg (placesIn oA (List.range n))) sg + 2 * (fst_ oA).length = 2 * n := by
    have e := tx_dist hnd lT lR
    rw [tx_range] at e
    rw [e, hsl, dist_turned p0]; exact dist_up p0
  have tri := dist_tri (tx sg oA) sg (tx sg oB)
  have ud := up_down (perm_nd p0)
  rw [hA] at ud
  -- the runs
  obtain ⟨l1, e1⟩ := law_led_run (m := m) (by omega) (G := G) (a := tx sg oA) (b := sg) (many := (fst_ oA).length) (by omega) (by omega) sA hok (by omega)
  obtain ⟨l2, e2⟩ := law_led_run (m := m) (by omega) (G := G ++ l1) (a := tx sg oA) (b := sg.reverse) (many := (table oA).length) (by omega) (by rw [List.length_reverse]; omega) sA sR (by omega)
  have hpl := perm_len pp
  obtain ⟨l3, e3⟩ := law_up_run (m := m) (by omega) (G := G ++ l1 ++ l2) (row := placesIn oB oA) (perm_nd pp) (fun q => by rw [q] at hpl; simp at hpl; omega) (by omega)
  obtain ⟨l4, e4⟩ := law_led_run (m := m) (by omega) (G := G ++ l1 ++ l2 ++ l3) (a := tx sg oA) (b := tx sg oB) (many := (fst_ (placesIn oB oA)).length) (by omega) (by omega) sA sB (by omega)
  obtain ⟨l5, e5⟩ := least_cost_run2 (m := m) (by omega) (G := G ++ l1 ++ l2 ++ l3 ++ l4) (a := tx sg oA) (b := tx sg oB) (by omega) (by omega) sB
  obtain ⟨l6, e6⟩ := least_cost_run2 (m := m) (by omega) (G := G ++ l1 ++ l2 ++ l3 ++ l4 ++ l5) (a := sg) (b := tx sg oB) (by omega) (by omega) sB
  have htl : (tx sg (placesIn oA (List.range n))).length = n := by rw [tx_len]; exact perm_len pt
  obtain ⟨l7, e7⟩ := least_cost_run2 (m := m) (by omega) (G := G ++ l1 ++ l2 ++ l3 ++ l4 ++ l5 ++ l6) (a := tx sg (placesIn oA (List.range n))) (b := sg) (by omega) (by omega) hok
  let st : Option D → Option D → Option D → Env' := fun a b c => [v0, v1, v2, some (.int (n : Nat)), some (.lst (sg.map chD)), some (.lst [nsD oA, nsD oB]), some (.lst [.str (tx sg oA), .str (tx sg oB)]), o7, o8, some (.str sg), some (.str sg.reverse), some (.int ((fst_ oA).length : Nat)), some (.int ((table oA).length : Nat)), a, b, c]
  have x0 : ∀ (a b c : Option D) (G : Hs), (ev (F m) (E.idx (E.v 6) (E.k (D.int 0)))).1 (st a b c) G = some (.str (tx sg oA), G) := fun a b c G => idx_s (v_s (i := 6) rfl) k_s rfl
  have x1 : ∀ (a b c : Option D) (G : Hs), (ev (F m) (E.idx (E.v 6) (E.k (D.int 1)))).1 (st a b c) G = some (.str (tx sg oB), G) := fun a b c G => idx_s (v_s (i := 6) rfl) k_s rfl
  -- 9
  have t9 : (ev (F m) (E.or (E.not (E.call 51 3 (E.cons (E.idx (E.v 6) (E.k (D.int 0))) (E.cons (E.v 9) (E.cons (E.v 11) E.nil))))) (E.or (E.not (E.call 51 3 (E.cons (E.idx (E.v 6) (E.k (D.int 0))) (E.cons (E.v 10) (E.cons (E.v 12) E.nil))))) (E.cmp Cop.lt (E.bin Bop.mul (E.v 11) (E.v 12)) (E.v 3))))).2 (st o13 o14 o15) G = some (false, G ++ l1 ++ l2) := by
    refine or_ff (not_call_f (cons_s (x0 _ _ _ _) (two_v (i := 9) (j := 11) rfl rfl)) rfl e1) (or_ff (not_call_f (cons_s (x0 _ _ _ _) (two_v (i := 10) (j := 12) rfl rfl)) rfl e2) (cmp_t (bin_s (v_s (i := 11) rfl) (v_s (i := 12) rfl) (by rw [mul_s, if_pos (by omega)])) (v_s (i := 3) rfl) ?_))
    rw [cmp_ltI]
    refine congrArg some (decide_eq_false ?_)
    have : (((fst_ oA).length * (table oA).length : Nat) : Int) = ((fst_ oA).length : Int) * ((table oA).length : Int) := by simp
    omega
  -- 10
  have t10 : (ev (F m) (E.comp false (Tg.nm 7) [7] (E.iseq (E.idx (E.v 5) (E.k (D.int 0)))) E.yes (E.mth Mth.index (E.idx (E.v 5) (E.k (D.int 1))) (E.cons (E.v 7) E.nil)))).1 (st o13 o14 o15) (G ++ l1 ++ l2) = some (nsD (placesIn oB oA), G ++ l1 ++ l2) :=
    places_comp (by rw [ev_iseq1, idx_s (r := some (nsD oA, G ++ l1 ++ l2)) (v_s (i := 5) (d := .lst [nsD oA, nsD oB]) rfl) k_s rfl, bnd_s]; rfl) (by simp [st]) (fun d => idx_s (v_s (i := 5) rfl) k_s rfl) (fun k hk => p1.mem_iff.mpr (p0.mem_iff.mp hk)) (by omega) (by omega)
  -- 11
  have t11 : (ev (F m) (E.idx (E.call 50 1 (E.cons (E.v 13) E.nil)) (E.k (D.int 0)))).1 (st (some (nsD (placesIn oB oA))) o14 o15) (G ++ l1 ++ l2) = some (.int ((fst_ (placesIn oB oA)).length : Nat), G ++ l1 ++ l2 ++ l3) := idx_s (call_s (n := 1) (one_v (i := 13) rfl) rfl e3) k_s rfl
  -- 12
  have t12 : (ev (F m) (E.or (E.not (E.call 51 3 (E.cons (E.idx (E.v 6) (E.k (D.int 0))) (E.cons (E.idx (E.v 6) (E.k (D.int 1))) (E.cons (E.v 14) E.nil))))) (E.cmp Cop.gt (E.call 35 2 (E.cons (E.idx (E.v 6) (E.k (D.int 0))) (E.cons (E.idx (E.v 6) (E.k (D.int 1))) E.nil))) (E.bin Bop.add (E.bin Bop.mul (E.k (D.int 2)) (E.bin Bop.sub (E.v 3) (E.v 11))) (E.call 35 2 (E.cons (E.v 9) (E.cons (E.idx (E.v 6) (E.k (D.int 1))) E.nil))))))).2
      (st (some (nsD (placesIn oB oA))) (some (.int ((fst_ (placesIn oB oA)).length : Nat))) o15) (G ++ l1 ++ l2 ++ l3) = some (false, G ++ l1 ++ l2 ++ l3 ++ l4 ++ l5 ++ l6) := by
    refine or_ff (not_call_f (cons_s (x0 _ _ _ _) (cons_s (x1 _ _ _ _) (one_v (i := 14) rfl))) rfl e4) (cmp_t (G1 := G ++ l1 ++ l2 ++ l3 ++ l4 ++ l5) (call_s (n := 2) (cons_s (x0 _ _ _ _) (cons_s (x1 _ _ _ _) nil_s)) rfl e5) (bin_s (G1 := G ++ l1 ++ l2 ++ l3 ++ l4 ++ l5) (bin_s k_s (bin_s (v_s (i := 3) rfl) (v_s (i := 11) rfl) bin_subi) (by rw [mul_s, if_pos (by omega)])) (call_s (n := 2) (cons_s (v_s (i := 9) rfl) (cons_s (x1 _ _ _ _) nil_s)) rfl e6) bin_addi) ?_)
    rw [cmp_gtI]
    refine congrArg some (decide_eq_false ?_)
    omega
  -- 13
  have t13 : (ev (F m) (E.comp false (Tg.nm 7) [7] (E.irng 1 (E.cons (E.v 3) E.nil)) E.yes (E.mth Mth.index (E.idx (E.v 5) (E.k (D.int 0))) (E.cons (E.v 7) E.nil)))).1 (st (some (nsD (placesIn oB oA))) (some (.int ((fst_ (placesIn oB oA)).length : Nat))) o15) (G ++ l1 ++ l2 ++ l3 ++ l4 ++ l5 ++ l6) = some (nsD (placesIn oA (List.range n)), G ++ l1 ++ l2 ++ l3 ++ l4 ++ l5 ++ l6) :=
    places_comp (by rw [ev_irng1, one_v (i := 3) rfl, bnd_s, argK_s, rng1 (by omega), rgN_ns]) (by simp [st]) (fun d => idx_s (v_s (i := 5) rfl) k_s rfl) (fun k hk => p0.mem_iff.mpr hk) (by simp; omega) (by omega)
  -- 14
  have t14 : (ev (F m) (E.cmp Cop.ne (E.call 35 2 (E.cons (E.mth Mth.join (E.k (D.str [])) (E.cons (E.comp false (Tg.nm 7) [7] (E.iseq (E.v 15)) E.yes (E.idx (E.v 4) (E.v 7))) E.nil)) (E.cons (E.v 9) E.nil))) (E.bin Bop.mul (E.k (D.int 2)) (E.bin Bop.sub (E.v 3) (E.v 11))))).2
      (st (some (nsD (placesIn oB oA))) (some (.int ((fst_ (placesIn oB oA)).length : Nat))) (some (nsD (placesIn oA (List.range n))))) (G ++ l1 ++ l2 ++ l3 ++ l4 ++ l5 ++ l6) = some (false, G ++ l1 ++ l2 ++ l3 ++ l4 ++ l5 ++ l6 ++ l7) := by
    refine ne_f (G1 := G ++ l1 ++ l2 ++ l3 ++ l4 ++ l5 ++ l6 ++ l7) (call_s (n := 2) (cons_s (join_s (tx_comp (v_s (i := 15) rfl) rfl (by simp [st]) lT (by rw [perm_len pt]; omega)) (by omega)) (one_v (i := 9) rfl)) rfl e7) (bin_s k_s (bin_s (v_s (i := 3) rfl) (v_s (i := 11) rfl) bin_subi) (by rw [mul_s, if_pos (by omega)])) ?_
    rw [cmp_neI]
    refine congrArg some ?_
    rw [Bool.not_eq_false', beq_iff_eq]
    omega
  -- 15
  obtain ⟨l8, t15⟩ := comp_noneG (cl := F m) (ς := st (some (nsD (placesIn oB oA))) (some (.int ((fst_ (placesIn oB oA)).length : Nat))) (some (nsD (placesIn oA (List.range n))))) (own := [7]) (i := 7) (it := E.irng 1 (E.cons (E.v 3) E.nil)) (e := E.v 7)
    (c := E.not (E.call 38 2 (E.cons (E.call 47 2 (E.cons (E.idx (E.v 6) (E.k (D.int 0))) (E.cons (E.tup (E.cons (E.idx (E.v 4) (E.v 7)) (E.cons (E.k (D.bl false)) (E.cons (E.k (D.bl true)) E.nil)))) E.nil))) (E.cons (E.tup (E.cons (E.idx (E.v 15) (E.v 7)) E.nil)) E.nil))))
    (G := G ++ l1 ++ l2 ++ l3 ++ l4 ++ l5 ++ l6 ++ l7) (G1 := G ++ l1 ++ l2 ++ l3 ++ l4 ++ l5 ++ l6 ++ l7) (ds := (List.range n).map fun x : Nat => D.int (x : Nat)) (by rw [ev_irng1, one_v (i := 3) rfl, bnd_s, argK_s, rng1 (by omega), rgN_ns]) (fun d hd G' => by
      obtain ⟨k, hk, rfl⟩ := List.mem_map.mp hd
      have hkn := List.mem_range.mp hk
      have hkA : k ∈ oA := p0.mem_iff.mpr hk
      obtain ⟨gg, ef⟩ := finds_run (m := m) (by omega) (G := G') (t := tx sg oA) (c := sg.getD k 0) (by omega)
      have eh := hits_one (φ := fun k => sg.getD k 0) (s := 0) hkA (perm_nd p0) fun x hx e => tx_inj hnd (lA x hx) (by omega) e
      rw [Nat.zero_add] at eh
      have eh2 : hits (sg.getD k 0) (tx sg oA).zipIdx = [.int (oA.idxOf k : Nat)] := eh
      rw [eh2] at ef
      have ea := alike_tup (m := m) (by omega) (G := G' ++ gg) (ds := [.int (oA.idxOf k : Nat)]) (by simp) (fun d hd => by rw [List.mem_singleton.mp hd]; exact alike_int (by omega))
      have h7 : ((wipeE (st (some (nsD (placesIn oB oA))) (some (.int ((fst_ (placesIn oB oA)).length : Nat))) (some (nsD (placesIn oA (List.range n))))) [7]).set 7 (some (.int (k : Nat))))[7]? = some (some (.int (k : Nat))) := rfl
      have c1 : ∀ G : Hs, (ev (F m) (E.idx (E.v 4) (E.v 7))).1 ((wipeE (st (some (nsD (placesIn oB oA))) (some (.int ((fst_ (placesIn oB oA)).length : Nat))) (some (nsD (placesIn oA (List.range n))))) [7]).set 7 (some (.int (k : Nat)))) G = some (.str [sg.getD k 0], G) := fun G => by
        refine idx_s (v_s (i := 4) (d := .lst (sg.map chD)) rfl) (v_s h7) ?_
        have hks : k < sg.length := by omega
        rw [idx_lst, atT (d := chD (sg.getD k 0)) (by rw [List.getElem?_map, List.getElem?_eq_getElem hks, List.getD_eq_getElem?_getD, List.getElem?_eq_getElem hks]; rfl)]
        rfl
      have c2 : ∀ G : Hs, (ev (F m) (E.idx (E.v 15) (E.v 7))).1 ((wipeE (st (some (nsD (placesIn oB oA))) (some (.int ((fst_ (placesIn oB oA)).length : Nat))) (some (nsD (placesIn oA (List.range n))))) [7]).set 7 (some (.int (k : Nat)))) G = some (.int (oA.idxOf k : Nat), G) := fun G => by
        refine idx_s (v_s (i := 15) (d := nsD (placesIn oA (List.range n))) rfl) (v_s h7) ?_
        show idxD (.lst _) _ _ = _
        rw [idx_lst, atT (d := .int (oA.idxOf k : Nat)) (by
          unfold placesIn
          rw [List.getElem?_map, List.getElem?_map, List.getElem?_range hkn]; rfl)]
        rfl
      have c0 : ∀ G : Hs, (ev (F m) (E.idx (E.v 6) (E.k (D.int 0)))).1 ((wipeE (st (some (nsD (placesIn oB oA))) (some (.int ((fst_ (placesIn oB oA)).length : Nat))) (some (nsD (placesIn oA (List.range n))))) [7]).set 7 (some (.int (k : Nat)))) G = some (.str (tx sg oA), G) := fun G => idx_s (v_s (i := 6) (d := .lst [.str (tx sg oA), .str (tx sg oB)]) rfl) k_s rfl
      exact ⟨gg, not_call_f (G1 := G' ++ gg) (cons_s (G1 := G' ++ gg) (call_s (n := 2) (cons_s (c0 _) (cons_s (tup_s (cons_s (c1 _) (cons_s k_s (cons_s k_s nil_s))) (by simp)) nil_s)) rfl ef) (cons_s (G1 := G' ++ gg) (tup_s (cons_s (c2 _) nil_s) (by simp)) nil_s)) rfl ea⟩)
  refine ⟨some (nsD (placesIn oB oA)), some (.int ((fst_ (placesIn oB oA)).length : Nat)), some (nsD (placesIn oA (List.range n))), l1 ++ l2 ++ l3 ++ l4 ++ l5 ++ l6 ++ l7 ++ l8, ?_⟩
  rw [show G ++ (l1 ++ l2 ++ l3 ++ l4 ++ l5 ++ l6 ++ l7 ++ l8) = G ++ l1 ++ l2 ++ l3 ++ l4 ++ l5 ++ l6 ++ l7 ++ l8 by simp only [List.append_assoc]]
  refine (seq_ife_f (ς := st o13 o14 o15) t9).trans ?_
  refine (set_s t10).trans ?_
  refine (set_s t11).trans ?_
  refine (seq_ife_f (ς := st (some (nsD (placesIn oB oA))) (some (.int ((fst_ (placesIn oB oA)).length : Nat))) o15) t12).trans ?_
  refine (set_s t13).trans ?_
  refine (seq_ife_f (ς := st (some (nsD (placesIn oB oA))) (some (.int ((fst_ (placesIn oB oA)).length : Nat))) (some (nsD (placesIn oA (List.range n))))) t14).trans ?_
  exact (seq_ife_f (ne_f t15 (lst_s nil_s (by simp)) ne_nil)).trans evS_skip
abbrev bLaw : S := (S.seq q3 (S.seq q4 (S.seq q5 (S.seq q6 (S.seq q7 (S.seq q8 (S.seq q9 (S.seq q10 (S.seq q11 (S.seq q12 (S.seq q13 (S.seq q14 (S.seq q15 S.skip)))))))))))))
theorem for_law {m : Nat} (hm : 57 ≤ m) {dn : Nat} {v0 : Option D} : ∀ (ds : List D) (o2 o3 o4 o5 o6 o7 o8 o9 o10 o11 o12 o13 o14 o15 : Option D) (G : Hs), Dr dn G →
    ∃ ς' G', loopF (Tg.nm 2) (evS (F m) bLaw) ds [v0, some (.ref dn), o2, o3, o4, o5, o6, o7, o8, o9, o10, o11, o12, o13, o14, o15] G = some (.nx ς' G')
  | [], _, _, _, _, _, _, _, _, _, _, _, _, _, _, G, _ => ⟨_, G, rfl⟩
  | d :: ds, o2, o3, o4, o5, o6, o7, o8, o9, o10, o11, o12, o13, o14, o15, G, hd => by
    obtain ⟨n, sg, oA, oB, G1, g, mv, d1, ea⟩ := turn_a (m := m) (by omega) hd (v0 := v0) (v2 := some d) (o3 := o3) (o4 := o4) (o5 := o5) (o6 := o6) (o7 := o7) (o8 := o8) (o9 := o9) (o10 := o10) (o11 := o11) (o12 := o12) (o13 := o13) (o14 := o14) (o15 := o15)
    obtain ⟨l1, eb⟩ := turn_b (m := m) (by omega) (G := G1) g (v0 := v0) (v1 := some (.ref dn)) (v2 := some d) (o6 := o6) (o7 := o7) (o8 := o8) (o9 := o9) (o10 := o10) (o11 := o11) (o12 := o12) (o13 := o13) (o14 := o14) (o15 := o15)
    obtain ⟨u13, u14, u15, l2, ec⟩ := turn_c (m := m) hm (G := G1 ++ l1) g (v0 := v0) (v1 := some (.ref dn)) (v2 := some d) (o7 := o7) (o8 := o8) (o13 := o13) (o14 := o14) (o15 := o15)
    have d3 : Dr dn (G1 ++ l1 ++ l2) := (d1.app).app
    obtain ⟨ς', G', e⟩ := for_law hm ds _ _ _ _ _ o7 o8 _ _ _ _ u13 u14 u15 (G1 ++ l1 ++ l2) d3
    exact ⟨ς', G', for_step bindL_nm (((ea _).trans (eb _)).trans ec) e⟩
theorem law_runs : ∀ mk : List D → D, (mk = .lst ∨ mk = .fz) → ∀ ns : List Int, ns.length ≤ 63 → (∀ z ∈ ns, Builtin.Int.intBits z ≤ 1048576) → ∃ G', callF (tbOf consts defs) 60 52 [mk (ns.map .int)] [] = some (.bl true, G') := by
  intro mk hmk ns hn _
  obtain ⟨xs, G1, e1⟩ := draws_run (m := 59) (by omega) hmk hn
  have hd : Dr 1 [G1, iD xs] := ⟨xs, rfl⟩
  obtain ⟨ς', G', e2⟩ := for_law (m := 59) (by omega) (dn := 1) (v0 := some (mk (ns.map .int))) (rgN 0 1 2) none none none none none none none none none none none none none none [G1, iD xs] hd
  refine ⟨G', ?_⟩
  show F 60 52 _ _ = _
  refine run_ t52 rfl (by omega) ?_
  show (evS (F 59) b52 [some (mk (ns.map .int)), none, none, none, none, none, none, none, none, none, none, none, none, none, none, none] []).bind outD = _
  unfold b52
  rw [set_s (call_s (n := 1) (one_v rfl) rfl e1)]
  refine (congrArg (fun z => Option.bind z outD) (for_nx (ds := rgN 0 1 2) (G1 := [G1, iD xs]) ?_ e2)).trans ?_
  · rw [ev_irng1, cons_s k_s nil_s, bnd_s, argK_s]
    exact rng1 (n := 2) (by omega)
  · exact seq_ret k_s
end K14
set_option Elab.async false
set_option linter.all false
set_option autoImplicit false
set_option maxRecDepth 100000
set_option maxHeartbeats 0
namespace K14
open PySem PySem.Spec L2 Mp
open PyProof.Rows hiding St
theorem ok0 : DefOk d0 := ⟨⟨rfl, rfl, rfl, by decide +kernel, rfl, by decide +kernel, by decide +kernel⟩, by decide, fun _ _ _ _ _ _ us hl => match us, hl with | [_, _, _], _ => rfl⟩
theorem ok1 : DefOk d1 := ⟨⟨rfl, rfl, rfl, by decide +kernel, rfl, by decide +kernel, by decide +kernel⟩, by decide, fun _ _ _ _ _ _ us hl => match us, hl with | [_], _ => rfl⟩
theorem ok2 : DefOk d2 := ⟨⟨rfl, rfl, rfl, by decide +kernel, rfl, by decide +kernel, by decide +kernel⟩, by decide, fun _ _ _ _ _ _ us hl => match us, hl with | [_], _ => rfl⟩
theorem ok3 : DefOk d3 := ⟨⟨rfl, rfl, rfl, by decide +kernel, rfl, by decide +kernel, by decide +kernel⟩, by decide, fun _ _ _ _ _ _ us hl => match us, hl with | [_, _], _ => rfl⟩
theorem ok4 : DefOk d4 := ⟨⟨rfl, rfl, rfl, by decide +kernel, rfl, by decide +kernel, by decide +kernel⟩, by decide, fun _ _ _ _ _ _ us hl => match us, hl with | [_, _], _ => rfl⟩
theorem ok5 : DefOk d5 := ⟨⟨rfl, rfl, rfl, by decide +kernel, rfl, by decide +kernel, by decide +kernel⟩, by decide, fun _ _ _ _ _ _ us hl => match us, hl with | [_, _], _ => rfl⟩
theorem ok6 : DefOk d6 := ⟨⟨rfl, rfl, rfl, by decide +kernel, rfl, by decide +kernel, by decide +kernel⟩, by decide, fun _ _ _ _ _ _ us hl => match us, hl with | [_, _, _, _], _ => rfl⟩
theorem ok7 : DefOk d7 := ⟨⟨rfl, rfl, rfl, by decide +kernel, rfl, by decide +kernel, by decide +kernel⟩, by decide, fun _ _ _ _ _ _ us hl => match us, hl with | [_, _, _], _ => rfl⟩
theorem ok8 : DefOk d8 := ⟨⟨rfl, rfl, rfl, by decide +kernel, rfl, by decide +kernel, by decide +kernel⟩, by decide, fun _ _ _ _ _ _ us hl => match us, hl with | [_, _], _ => rfl⟩
theorem ok9 : DefOk d9 := ⟨⟨rfl, rfl, rfl, by decide +kernel, rfl, by decide +kernel, by decide +kernel⟩, by decide, fun _ _ _ _ _ _ us hl => match us, hl with | [_, _, _], _ => rfl⟩
theorem ok10 : DefOk d10 := ⟨⟨rfl, rfl, rfl, by decide +kernel, rfl, by decide +kernel, by decide +kernel⟩, by decide, fun _ _ _ _ _ _ us hl => match us, hl with | [_, _], _ => rfl⟩
theorem ok11 : DefOk d11 := ⟨⟨rfl, rfl, rfl, by decide +kernel, rfl, by decide +kernel, by decide +kernel⟩, by decide, fun _ _ _ _ _ _ us hl => match us, hl with | [_, _, _, _], _ => rfl⟩
theorem ok12 : DefOk d12 := ⟨⟨rfl, rfl, rfl, by decide +kernel, rfl, by decide +kernel, by decide +kernel⟩, by decide, fun _ _ _ _ _ _ us hl => match us, hl with | [_, _], _ => rfl⟩
theorem ok13 : DefOk d13 := ⟨⟨rfl, rfl, rfl, by decide +kernel, rfl, by decide +kernel, by decide +kernel⟩, by decide, fun _ _ _ _ _ _ us hl => match us, hl with | [_, _], _ => rfl⟩
theorem ok14 : DefOk d14 := ⟨⟨rfl, rfl, rfl, by decide +kernel, rfl, by decide +kernel, by decide +kernel⟩, by decide, fun _ _ _ _ _ _ us hl => match us, hl with | [_, _], _ => rfl⟩
theorem ok15 : DefOk d15 := ⟨⟨rfl, rfl, rfl, by decide +kernel, rfl, by decide +kernel, by decide +kernel⟩, by decide, fun _ _ _ _ _ _ us hl => match us, hl with | [_, _], _ => rfl⟩
theorem ok16 : DefOk d16 := ⟨⟨rfl, rfl, rfl, by decide +kernel, rfl, by decide +kernel, by decide +kernel⟩, by decide, fun _ _ _ _ _ _ us hl => match us, hl with | [_, _], _ => rfl⟩
theorem ok17 : DefOk d17 := ⟨⟨rfl, rfl, rfl, by decide +kernel, rfl, by decide +kernel, by decide +kernel⟩, by decide, fun _ _ _ _ _ _ us hl => match us, hl with | [_, _], _ => rfl⟩
theorem ok18 : DefOk d18 := ⟨⟨rfl, rfl, rfl, by decide +kernel, rfl, by decide +kernel, by decide +kernel⟩, by decide, fun _ _ _ _ _ _ us hl => match us, hl with | [_, _, _, _], _ => rfl⟩
theorem ok19 : DefOk d19 := ⟨⟨rfl, rfl, rfl, by decide +kernel, rfl, by decide +kernel, by decide +kernel⟩, by decide, fun _ _ _ _ _ _ us hl => match us, hl with | [_, _, _, _], _ => rfl⟩
theorem ok20 : DefOk d20 := ⟨⟨rfl, rfl, rfl, by decide +kernel, rfl, by decide +kernel, by decide +kernel⟩, by decide, fun _ _ _ _ _ _ us hl => match us, hl with | [_], _ => rfl⟩
theorem ok21 : DefOk d21 := ⟨⟨rfl, rfl, rfl, by decide +kernel, rfl, by decide +kernel, by decide +kernel⟩, by decide, fun _ _ _ _ _ _ us hl => match us, hl with | [_], _ => rfl⟩
theorem ok22 : DefOk d22 := ⟨⟨rfl, rfl, rfl, by decide +kernel, rfl, by decide +kernel, by decide +kernel⟩, by decide, fun _ _ _ _ _ _ us hl => match us, hl with | [_], _ => rfl⟩
theorem ok23 : DefOk d23 := ⟨⟨rfl, rfl, rfl, by decide +kernel, rfl, by decide +kernel, by decide +kernel⟩, by decide, fun _ _ _ _ _ _ us hl => match us, hl with | [_], _ => rfl⟩
theorem ok24 : DefOk d24 := ⟨⟨rfl, rfl, rfl, by decide +kernel, rfl, by decide +kernel, by decide +kernel⟩, by decide, fun _ _ _ _ _ _ us hl => match us, hl with | [_, _], _ => rfl⟩
theorem ok25 : DefOk d25 := ⟨⟨rfl, rfl, rfl, by decide +kernel, rfl, by decide +kernel, by decide +kernel⟩, by decide, fun _ _ _ _ _ _ us hl => match us, hl with | [_, _], _ => rfl⟩
theorem ok26 : DefOk d26 := ⟨⟨rfl, rfl, rfl, by decide +kernel, rfl, by decide +kernel, by decide +kernel⟩, by decide, fun _ _ _ _ _ _ us hl => match us, hl with | [_, _], _ => rfl⟩
theorem ok27 : DefOk d27 := ⟨⟨rfl, rfl, rfl, by decide +kernel, rfl, by decide +kernel, by decide +kernel⟩, by decide, fun _ _ _ _ _ _ us hl => match us, hl with | [_, _], _ => rfl⟩
theorem ok28 : DefOk d28 := ⟨⟨rfl, rfl, rfl, by decide +kernel, rfl, by decide +kernel, by decide +kernel⟩, by decide, fun _ _ _ _ _ _ us hl => match us, hl with | [_, _], _ => rfl⟩
theorem ok29 : DefOk d29 := ⟨⟨rfl, rfl, rfl, by decide +kernel, rfl, by decide +kernel, by decide +kernel⟩, by decide, fun _ _ _ _ _ _ us hl => match us, hl with | [_], _ => rfl⟩
theorem ok30 : DefOk d30 := ⟨⟨rfl, rfl, rfl, by decide +kernel, rfl, by decide +kernel, by decide +kernel⟩, by decide, fun _ _ _ _ _ _ us hl => match us, hl with | [_, _], _ => rfl⟩
theorem ok31 : DefOk d31 := ⟨⟨rfl, rfl, rfl, by decide +kernel, rfl, by decide +kernel, by decide +kernel⟩, by decide, fun _ _ _ _ _ _ us hl => match us, hl with | [_, _], _ => rfl⟩
theorem ok32 : DefOk d32 := ⟨⟨rfl, rfl, rfl, by decide +kernel, rfl, by decide +kernel, by decide +kernel⟩, by decide, fun _ _ _ _ _ _ us hl => match us, hl with | [_, _, _], _ => rfl⟩
theorem ok33 : DefOk d33 := ⟨⟨rfl, rfl, rfl, by decide +kernel, rfl, by decide +kernel, by decide +kernel⟩, by decide, fun _ _ _ _ _ _ us hl => match us, hl with | [_, _], _ => rfl⟩
theorem ok34 : DefOk d34 := ⟨⟨rfl, rfl, rfl, by decide +kernel, rfl, by decide +kernel, by decide +kernel⟩, by decide, fun _ _ _ _ _ _ us hl => match us, hl with | [_, _], _ => rfl⟩
theorem ok35 : DefOk d35 := ⟨⟨rfl, rfl, rfl, by decide +kernel, rfl, by decide +kernel, by decide +kernel⟩, by decide, fun _ _ _ _ _ _ us hl => match us, hl with | [_, _], _ => rfl⟩
theorem ok36 : DefOk d36 := ⟨⟨rfl, rfl, rfl, by decide +kernel, rfl, by decide +kernel, by decide +kernel⟩, by decide, fun _ _ _ _ _ _ us hl => match us, hl with | [_], _ => rfl⟩
theorem ok37 : DefOk d37 := ⟨⟨rfl, rfl, rfl, by decide +kernel, rfl, by decide +kernel, by decide +kernel⟩, by decide, fun _ _ _ _ _ _ us hl => match us, hl with | [_, _], _ => rfl⟩
theorem ok38 : DefOk d38 := ⟨⟨rfl, rfl, rfl, by decide +kernel, rfl, by decide +kernel, by decide +kernel⟩, by decide, fun _ _ _ _ _ _ us hl => match us, hl with | [_, _], _ => rfl⟩
theorem ok39 : DefOk d39 := ⟨⟨rfl, rfl, rfl, by decide +kernel, rfl, by decide +kernel, by decide +kernel⟩, by decide, fun _ _ _ _ _ _ us hl => match us, hl with | [_], _ => rfl⟩
theorem ok40 : DefOk d40 := ⟨⟨rfl, rfl, rfl, by decide +kernel, rfl, by decide +kernel, by decide +kernel⟩, by decide, fun _ _ _ _ _ _ us hl => match us, hl with | [_], _ => rfl⟩
theorem ok41 : DefOk d41 := ⟨⟨rfl, rfl, rfl, by decide +kernel, rfl, by decide +kernel, by decide +kernel⟩, by decide, fun _ _ _ _ _ _ us hl => match us, hl with | [_], _ => rfl⟩
theorem ok42 : DefOk d42 := ⟨⟨rfl, rfl, rfl, by decide +kernel, rfl, by decide +kernel, by decide +kernel⟩, by decide, fun _ _ _ _ _ _ us hl => match us, hl with | [_, _], _ => rfl⟩
theorem ok43 : DefOk d43 := ⟨⟨rfl, rfl, rfl, by decide +kernel, rfl, by decide +kernel, by decide +kernel⟩, by decide, fun _ _ _ _ _ _ us hl => match us, hl with | [_], _ => rfl⟩
theorem ok44 : DefOk d44 := ⟨⟨rfl, rfl, rfl, by decide +kernel, rfl, by decide +kernel, by decide +kernel⟩, by decide, fun _ _ _ _ _ _ us hl => match us, hl with | [_], _ => rfl⟩
theorem ok45 : DefOk d45 := ⟨⟨rfl, rfl, rfl, by decide +kernel, rfl, by decide +kernel, by decide +kernel⟩, by decide, fun _ _ _ _ _ _ us hl => match us, hl with | [_, _], _ => rfl⟩
theorem ok46 : DefOk d46 := ⟨⟨rfl, rfl, rfl, by decide +kernel, rfl, by decide +kernel, by decide +kernel⟩, by decide, fun _ _ _ _ _ _ us hl => match us, hl with | [_, _, _], _ => rfl⟩
theorem ok47 : DefOk d47 := ⟨⟨rfl, rfl, rfl, by decide +kernel, rfl, by decide +kernel, by decide +kernel⟩, by decide, fun _ _ _ _ _ _ us hl => match us, hl with | [_, _], _ => rfl⟩
theorem ok48 : DefOk d48 := ⟨⟨rfl, rfl, rfl, by decide +kernel, rfl, by decide +kernel, by decide +kernel⟩, by decide, fun _ _ _ _ _ _ us hl => match us, hl with | [_, _], _ => rfl⟩
theorem ok49 : DefOk d49 := ⟨⟨rfl, rfl, rfl, by decide +kernel, rfl, by decide +kernel, by decide +kernel⟩, by decide, fun _ _ _ _ _ _ us hl => match us, hl with | [_], _ => rfl⟩
theorem ok50 : DefOk d50 := ⟨⟨rfl, rfl, rfl, by decide +kernel, rfl, by decide +kernel, by decide +kernel⟩, by decide, fun _ _ _ _ _ _ us hl => match us, hl with | [_], _ => rfl⟩
theorem ok51 : DefOk d51 := ⟨⟨rfl, rfl, rfl, by decide +kernel, rfl, by decide +kernel, by decide +kernel⟩, by decide, fun _ _ _ _ _ _ us hl => match us, hl with | [_, _, _], _ => rfl⟩
theorem ok52 : DefOk d52 := ⟨⟨rfl, rfl, rfl, by decide +kernel, rfl, by decide +kernel, by decide +kernel⟩, by decide, fun _ _ _ _ _ _ us hl => match us, hl with | [_], _ => rfl⟩
theorem oks : ∀ d ∈ defs, DefOk d := by
  unfold defs
  simp only [List.forall_mem_cons]
  exact ⟨ok0, ok1, ok2, ok3, ok4, ok5, ok6, ok7, ok8, ok9, ok10, ok11, ok12, ok13, ok14, ok15, ok16, ok17, ok18, ok19, ok20, ok21, ok22, ok23, ok24, ok25, ok26, ok27, ok28, ok29, ok30, ok31, ok32, ok33, ok34, ok35, ok36, ok37, ok38, ok39, ok40, ok41, ok42, ok43, ok44, ok45, ok46, ok47, ok48, ok49, ok50, ok51, ok52, fun _ h => absurd h List.not_mem_nil⟩
abbrev R : PySem.W.OpenRow := PySem.W.OpenLaw.row PySem.Challenge.rw_editsagree_k14_whole_signs_put_in_order
abbrev hk : PySem.W.Hook := He.hookX 5 (faOf consts defs) (defs.map fnD) [] (tfOf defs) (fun _ => true)
def ob (s : PySem.W.SharedT) : He.AlX := He.obsX 5 (faOf consts defs) (defs.map fnD) [] (tfOf defs) (fun _ => true) (HandSHeadRun.getT s)
theorem ob_eq (s : PySem.W.SharedT) : ob s = hk.obs s.abs := He.obsX_eq (HandSHeadRun.getT_eq s)
def loose0 : List PySem.Str := ["EditError", "Malformed", "TooMuch", "is_number", "MOST_SIGNS", "MOST_EDITS", "FIRST_SIGN", "LAST_SIGN", "LINE_END", "is_signs", "is_text", "is_change", "is_edit", "put_in", "common_ahead", "common_behind", "between", "are_edits", "check_edits", "all_applied", "in_turn", "all_inverse", "MOST_CELLS", "cost_of", "cost_rows", "steps_of", "edits_by", "middle_of", "least_edits", "least_cost"]
def loose1 : List PySem.Str := ["slid", "lines_in", "reached", "paper_of", "is_row", "proves_least", "hold_of", "MOST_LEAF", "LEAF", "PAIR", "leaf_of", "long_of", "ends_of", "deep_of", "pair_of", "evened", "put_together", "parted", "made_of", "pieces_of", "text_of", "edited", "LETTERS", "GREAT", "NAMED", "small", "borders_of", "places_of", "is_alone", "finds"]
def loose2 : List PySem.Str := ["_law_draws", "_law_take", "_law_alike", "_law_shuffled", "_law_table", "_law_up", "_law_led"]
def loose : List PySem.Str := loose0 ++ loose1 ++ loose2
theorem run (w : World) : HandSHeadRun.RunEq R (PySem.W.view R.prog [75]) hk ob 6000 loose w := by
  intro os
  kernel_rfl
end K14
open PySem PySem.W PySem.Calls PyProof.Rows
theorem PySem.Challenge.cw_editsagree_k14_whole_signs_put_in_order_holds : PySem.Challenge.rw_editsagree_k14_whole_signs_put_in_order.Holds := by
  w_on; o_law
  refine HandSHeadRun.head_any (r := OpenLaw.row PySem.Challenge.rw_editsagree_k14_whole_signs_put_in_order) (q := view (OpenLaw.row PySem.Challenge.rw_editsagree_k14_whole_signs_put_in_order).prog [75]) (H := K14.hk) (ob := K14.ob) (M := 6000) (loose := K14.loose) (d := HandSHeadRun.topDef (OpenLaw.row PySem.Challenge.rw_editsagree_k14_whole_signs_put_in_order).prog 75) (kwd := []) K14.ob_eq
    (by kernel_rfl) (fun s => by kernel_rfl) K14.run (by kernel_rfl) (by kernel_rfl) (by kernel_rfl) (by rfl) (by first | assumption | decide +kernel) (by decide +kernel) ⟨rfl, rfl, rfl, rfl, rfl, by decide +kernel⟩ ?hw ?hc
  case hw => w_witness2
  case hc =>
    refine LamX.walk_ofTsE (l := PySem.Challenge.rw_editsagree_k14_whole_signs_put_in_order) (n := 63) (k := 3 * 60) (x := "script") (CX := fun _ => L2.CX0) rfl (by decide) (by kernel_rfl) ⟨rfl, by decide, by decide⟩ ?F (fun _ _ _ _ _ z => z)
    intro w mg fa h Y G hmg0
    obtain ⟨K, KX, c⟩ := Y
    have hmg : mg ("law" : PySem.Str) = some (.ref fa) := by
      have e : (HandSHeadRun.topDef (OpenLaw.row PySem.Challenge.rw_editsagree_k14_whole_signs_put_in_order).prog 75).name = ("law" : PySem.Str) := by kernel_rfl
      rw [← e]
      exact hmg0
    exact ⟨K, KX, Mp.law_end (ds := K14.defs) (consts := K14.consts) (jl := 52) (dl := K14.d52) (n0 := 60) rfl rfl rfl KX G hmg c (by decide) K14.oks K14.law_runs⟩
