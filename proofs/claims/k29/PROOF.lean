import PyProof.Rows.All
import Wide.All
import OpenK.AllK
import Wide.FinOn
import KE.KStateDown
import HandS.ForMost
import HandS.ForExc
import HandS.ReplaceLit
import HandS.StrMore
import PyProof.StrLawsReplace
import HandS.IsInst
import HandS.Defaults
import HandS.Flow
import HandS.Wide
import HandS.Lambda
import HandS.TupAny
import HandS.Style
import KE.DataMinMax
import KE.SortData
import HandS.Deep
import HandS.SortKw
import KE.GoesEnum
import HandS.Zip
import HandS.Rev
import HandS.Head0
import HandS.Head1
import HandS.Head2
import HandS.HeadEnd
import HandS.HeadHook1
import HandS.HeadHook2
import HandS.ExcOwn
import PyProof.ExcBaseAll.ValueError
import PySem.Challenge.RW_diffcourt_k29_whole_measures
set_option Elab.async false
set_option linter.all false
set_option maxRecDepth 100000
set_option maxHeartbeats 1000000
namespace DC
open PySem PySem.Spec L2 Builtin Builtin.Str
abbrev occs (x y : Str) : List Nat := occurrences x y 0 x.length (x.length + 1)
theorem occs_short {x y : Str} (h : x.length < y.length) : occs x y = [] := by
  cases e : occs x y with
  | nil => rfl
  | cons i r =>
    have := (StrLaws.occ_spec x y 0 x.length (x.length + 1) i (by show i ∈ occs x y; rw [e]; simp)).1
    omega
theorem split_parts (x y : Str) (hk : ¬ strKind x < strKind y) : Txt.split x y = if (occs x y).isEmpty then [x] else partsBetween x (occs x y) y.length := by
  unfold Txt.split
  by_cases h : x.length < y.length
  · rw [if_pos (by simp [h]), occs_short h]; rfl
  · rw [if_neg (by simp [h, hk])]
theorem split_len (x y : Str) (hk : ¬ strKind x < strKind y) : (Txt.split x y).length = (occs x y).length + 1 := by
  rw [split_parts x y hk]
  cases e : (occs x y).isEmpty with
  | true =>
    rw [if_pos rfl]
    rw [List.isEmpty_iff.mp e]; rfl
  | false => rw [if_neg (by decide), length_partsBetween]
theorem replace_split (x y z : Str) (hy : y.length ≠ 0) (hk : ¬ strKind x < strKind y) : Txt.replace x y z = Str.join z (Txt.split x y) := by
  rw [split_parts x y hk]
  unfold Txt.replace
  have h0 : (y.length == 0) = false := by simpa using hy
  rw [h0, Bool.false_and, Bool.or_false]
  show (if (occs x y).isEmpty = true then x else _) = _
  cases e : (occs x y).isEmpty with
  | true => rw [if_pos rfl, if_pos rfl]; rfl
  | false => rw [if_neg (by decide), if_neg (by decide), StrLaws.glued_eq_join]
theorem count_split (x y : Str) (hk : ¬ strKind x < strKind y) : Txt.count x y = ((Txt.split x y).length : Int) - 1 := by
  rw [split_len x y hk]
  unfold Txt.count
  show (((occs x y).length : Nat) : Int) = _
  omega
theorem in_split (x y : Str) (hy : y.length ≠ 0) (hk : ¬ strKind x < strKind y) : (!(occurrences x y 0 x.length 1).isEmpty) = decide (2 ≤ (Txt.split x y).length) := by
  rw [split_len x y hk]
  have h1 : (!(occurrences x y 0 x.length 1).isEmpty) = true ↔ occs x y ≠ [] := by
    rw [StrLaws.found_iff]
    constructor
    · rintro ⟨i, h2, h3⟩ e
      obtain ⟨f, h4, h5⟩ := StrLaws.occ_tight x y (by omega)
      rw [show occurrences x y 0 x.length (x.length + 1) = [] from e] at h4
      exact absurd (show StrLaws.At x y x.length i from ⟨h2, h3⟩) (by
        have hf : f ≤ i ∨ i < f := by omega
        rcases hf with hf | hf
        · exact h5 i hf
        · exact absurd hf (by rw [show f = 0 from h4]; omega))
    · intro h
      cases e : occs x y with
      | nil => exact absurd e h
      | cons i r =>
        have := StrLaws.occ_spec x y 0 x.length (x.length + 1) i (by show i ∈ occs x y; rw [e]; simp)
        exact ⟨i, this.1, this.2⟩
  cases e : occs x y with
  | nil =>
    have : (!(occurrences x y 0 x.length 1).isEmpty) = false := by
      cases h : (!(occurrences x y 0 x.length 1).isEmpty) with
      | false => rfl
      | true => exact absurd e (h1.mp h)
    rw [this]; rfl
  | cons i r =>
    rw [h1.mpr (by rw [e]; simp)]
    simp
def stripL (b a : List Nat) : List Nat := ((a.dropWhile b.contains).reverse.dropWhile b.contains).reverse
theorem drop_tw {α : Type} (p : α → Bool) : ∀ l : List α, l.drop (l.takeWhile p).length = l.dropWhile p
  | [] => rfl
  | a :: r => by
    rw [List.takeWhile_cons, List.dropWhile_cons]
    cases h : p a with
    | true => simpa using drop_tw p r
    | false => simp
theorem take_rev_tw {α : Type} (p : α → Bool) (l : List α) : l.take (l.length - (l.reverse.takeWhile p).length) = (l.reverse.dropWhile p).reverse := by
  rw [← drop_tw, List.drop_reverse, List.reverse_reverse]
theorem strip_tl (x y : Str) : (Txt.stripChars x y).cps.toList = stripL y.cps.toList x.cps.toList := by
  unfold Txt.stripChars
  rw [PyProof.Rows.stripBy_eq, StrLaws.strSub_toList]
  have hg : (y.cps.contains : Nat → Bool) = y.cps.toList.contains := by funext c; simp
  rw [hg]
  simp only [stripLo, stripHi, if_true]
  rw [drop_tw]
  unfold stripL
  rw [← take_rev_tw]
  have hl : x.length - (((x.cps.toList.dropWhile y.cps.toList.contains).reverse.takeWhile y.cps.toList.contains).length) - (x.cps.toList.takeWhile y.cps.toList.contains).length = (x.cps.toList.dropWhile y.cps.toList.contains).length - (((x.cps.toList.dropWhile y.cps.toList.contains).reverse.takeWhile y.cps.toList.contains).length) := by
    have h1 : x.length = x.cps.toList.length := by simp [Str.length]
    have h2 : (x.cps.toList.dropWhile y.cps.toList.contains).length = x.cps.toList.length - (x.cps.toList.takeWhile y.cps.toList.contains).length := by
      rw [← drop_tw, List.length_drop]
    omega
  rw [hl]
end DC
set_option Elab.async false
set_option linter.all false
set_option maxRecDepth 100000
set_option maxHeartbeats 1000000
namespace DC
open PySem PySem.Spec L2

inductive D where
  | non | bl (b : Bool) | int (i : Int) | str (s : List Nat) | lst (ds : List D) | tup (ds : List D) | dic (ks : List Key) (ds : List D) | scr (ns : List Int)

abbrev MS := Addr → Prop
def KL (K : PySem.W.Frag) (a : Addr) (xs : List V) : Prop := ∃ (o : Obj) (its : Array Value) (n : Nat), K.lookup a = some o ∧ o.cls = .type "list" ∧ o.dict = none ∧ o.data = .seq its n ∧ its.size ≤ sizeLine ∧ Vals xs its.toList
section
variable (K : PySem.W.Frag) (M : MS) (H : Hp)
mutual
def Rp : D → V → Prop
  | .non, v => v = .non
  | .bl b, v => v = .bl b
  | .int i, v => v = .int i
  | .str s, v => v = .str ⟨s.toArray⟩ ∧ s.length ≤ sizeLine ∧ ∀ c ∈ s, c < 128
  | .lst ds, v => ∃ a vs, v = .ref a ∧ H a = some (.lst vs) ∧ ¬ M a ∧ ds.length ≤ sizeLine ∧ Rps ds vs
  | .tup ds, v => ∃ a vs, v = .ref a ∧ SqT K H a vs ∧ ds.length ≤ sizeLine ∧ Rps ds vs
  | .scr ns, v => ∃ a, v = .ref a ∧ SqL K H a (ns.map V.int) ∧ (M a → KL K a (ns.map V.int)) ∧ ns.length ≤ sizeLine
  | .dic ks ds, v => ∃ a vs, v = .ref a ∧ H a = some (.dK (ks.zip vs)) ∧ ¬ M a ∧ ks.length = ds.length ∧ ds.length ≤ sizeLine ∧ Rps ds vs
def Rps : List D → List V → Prop
  | [], vs => vs = []
  | d :: ds, vs => ∃ v r, vs = v :: r ∧ Rp d v ∧ Rps ds r
end
end

structure Ext (P : MS) (H H' : Hp) : Prop where
  keep : ∀ a o, H a = some o → ¬ P a → (∀ ps, o ≠ .tbl ps) → H' a = some o
  tbl : ∀ a ps, H a = some (.tbl ps) → ∃ ps', H' a = some (.tbl ps')
  tb : ∀ a ps, H a = some (.tbl ps) → ¬ P a → H' a = some (.tbl ps)
theorem Ext.refl (P : MS) (H : Hp) : Ext P H H := ⟨fun _ _ h _ _ => h, fun _ ps h => ⟨ps, h⟩, fun _ _ h _ => h⟩
theorem Ext.trans {P : MS} {H H1 H2 : Hp} (x : Ext P H H1) (y : Ext P H1 H2) : Ext P H H2 := ⟨fun a o h n t => y.keep a o (x.keep a o h n t) n t, fun a ps h => by
  obtain ⟨p1, h1⟩ := x.tbl a ps h
  exact y.tbl a p1 h1, fun a ps h n => y.tb a ps (x.tb a ps h n) n⟩
theorem Ext.mono {P P' : MS} {H H' : Hp} (x : Ext P H H') (h : ∀ a, P a → P' a) : Ext P' H H' := ⟨fun a o e n t => x.keep a o e (fun z => n (h a z)) t, x.tbl, fun a ps e n => x.tb a ps e (fun z => n (h a z))⟩
theorem Ext.upd {P : MS} {H : Hp} {p : Addr} {o : HO} (h : H p = none) : Ext P H (upd H p o) := ⟨fun a u e _ _ => by rw [upd_ne (ne_of_none e h)]; exact e, fun a ps e => ⟨ps, by rw [upd_ne (ne_of_none e h)]; exact e⟩, fun a ps e _ => by rw [upd_ne (ne_of_none e h)]; exact e⟩
theorem Ext.write {P : MS} {H : Hp} {p : Addr} {o u : HO} (h : P p) (e : H p = some u) (t : ∀ ps, u ≠ .tbl ps) : Ext P H (L2.upd H p o) := ⟨fun a u e n _ => by
  rw [upd_ne (fun z => n (by rw [z]; exact h))]; exact e, fun a ps q => ⟨ps, by
  rw [upd_ne (fun z => by rw [z, e] at q; exact t ps (Option.some.inj q))]; exact q⟩, fun a ps q _ => by
  rw [upd_ne (fun z => by rw [z, e] at q; exact t ps (Option.some.inj q))]; exact q⟩
theorem Ext.rd {P : MS} {H H' : Hp} (x : Ext P H H') {a : Addr} {o : HO} (h : Rd H a o) (n : ¬ P a) (t : ∀ ps, o ≠ .tbl ps) : Rd H' a o := by
  rcases h with h | ⟨ob, h⟩
  · exact .inl (x.keep a _ h n t)
  · exact .inr ⟨ob, x.keep a _ h n (fun ps z => nomatch z)⟩
theorem Ext.free {P : MS} {H H' : Hp} (x : Ext P H H') {a : Addr} (h : H' a = none) (n : ¬ P a) : H a = none := by
  cases e : H a with
  | none => rfl
  | some o =>
    by_cases t : ∃ ps, o = .tbl ps
    · obtain ⟨ps, rfl⟩ := t
      obtain ⟨p', q⟩ := x.tbl a ps e
      rw [q] at h; cases h
    · rw [x.keep a o e n (fun ps z => t ⟨ps, z⟩)] at h; cases h

def MOk (M : MS) (H : Hp) : Prop := ∀ a, M a → (∃ xs, H a = some (.lst xs)) ∨ (∃ kvs, H a = some (.dK kvs)) ∨ ∃ ps, H a = some (.tbl ps)
theorem MOk.tup {M : MS} {H : Hp} (m : MOk M H) {a : Addr} {vs : List V} (h : Rd H a (.tup vs)) : ¬ M a := fun z => by
  rcases m a z with ⟨xs, e⟩ | ⟨xs, e⟩ | ⟨xs, e⟩ <;> rcases h with h | ⟨o, h⟩ <;> rw [h] at e <;> cases e
theorem MOk.none {M : MS} {H : Hp} (m : MOk M H) {a : Addr} (h : H a = none) : ¬ M a := fun z => by
  rcases m a z with ⟨xs, e⟩ | ⟨xs, e⟩ | ⟨xs, e⟩ <;> rw [h] at e <;> cases e
theorem MOk.sub {M M' : MS} {H : Hp} (m : MOk M H) (h : ∀ a, M' a → M a) : MOk M' H := fun a z => m a (h a z)

section
variable {K : PySem.W.Frag} {M M' P : MS} {H H' : Hp}
mutual
theorem Rp.ext (x : Ext P H H') (hP : ∀ a, P a → M a) (m : ∀ a vs, Rd H a (.tup vs) → ¬ P a) : ∀ (d : D) (v : V), Rp K M H d v → Rp K M H' d v
  | .non, _, h => h
  | .bl _, _, h => h
  | .int _, _, h => h
  | .str _, _, h => h
  | .lst ds, v, h => by
    obtain ⟨a, vs, e, hr, hn, hl, hs⟩ := h
    exact ⟨a, vs, e, x.keep a _ hr (fun z => hn (hP a z)) (fun _ z => nomatch z), hn, hl, Rps.ext x hP m ds vs hs⟩
  | .tup ds, v, h => by
    obtain ⟨a, vs, e, hr, hl, hs⟩ := h
    refine ⟨a, vs, e, ?_, hl, Rps.ext x hP m ds vs hs⟩
    rcases hr with hr | hr
    · exact .inl (x.rd hr (m _ _ hr) (fun _ z => nomatch z))
    · exact .inr hr
  | .dic ks ds, v, h => by
    obtain ⟨a, vs, e, hr, hn, hk, hl, hs⟩ := h
    exact ⟨a, vs, e, x.keep a _ hr (fun z => hn (hP a z)) (fun _ z => nomatch z), hn, hk, hl, Rps.ext x hP m ds vs hs⟩
  | .scr ns, v, h => by
    obtain ⟨a, e, hr, hn, hl⟩ := h
    refine ⟨a, e, ?_, hn, hl⟩
    rcases hr with hr | hr
    · by_cases hp : P a
      · exact .inr (hn (hP a hp))
      · exact .inl (x.rd hr hp (fun _ z => nomatch z))
    · exact .inr hr
theorem Rps.ext (x : Ext P H H') (hP : ∀ a, P a → M a) (m : ∀ a vs, Rd H a (.tup vs) → ¬ P a) : ∀ (ds : List D) (vs : List V), Rps K M H ds vs → Rps K M H' ds vs
  | [], _, h => h
  | d :: ds, _, h => by
    obtain ⟨v, r, e, h1, h2⟩ := h
    exact ⟨v, r, e, Rp.ext x hP m d v h1, Rps.ext x hP m ds r h2⟩
end
mutual
theorem Rp.mono (hM : ∀ a, M' a → M a) : ∀ (d : D) (v : V), Rp K M H d v → Rp K M' H d v
  | .non, _, h => h
  | .bl _, _, h => h
  | .int _, _, h => h
  | .str _, _, h => h
  | .lst ds, v, h => by
    obtain ⟨a, vs, e, hr, hn, hl, hs⟩ := h
    exact ⟨a, vs, e, hr, fun z => hn (hM a z), hl, Rps.mono hM ds vs hs⟩
  | .tup ds, v, h => by
    obtain ⟨a, vs, e, hr, hl, hs⟩ := h
    exact ⟨a, vs, e, hr, hl, Rps.mono hM ds vs hs⟩
  | .dic ks ds, v, h => by
    obtain ⟨a, vs, e, hr, hn, hk, hl, hs⟩ := h
    exact ⟨a, vs, e, hr, fun z => hn (hM a z), hk, hl, Rps.mono hM ds vs hs⟩
  | .scr ns, v, h => by
    obtain ⟨a, e, hr, hn, hl⟩ := h
    exact ⟨a, e, hr, fun z => hn (hM a z), hl⟩
theorem Rps.mono (hM : ∀ a, M' a → M a) : ∀ (ds : List D) (vs : List V), Rps K M H ds vs → Rps K M' H ds vs
  | [], _, h => h
  | d :: ds, _, h => by
    obtain ⟨v, r, e, h1, h2⟩ := h
    exact ⟨v, r, e, Rp.mono hM d v h1, Rps.mono hM ds r h2⟩
end
def orAt (M : MS) (p : Addr) : MS := fun a => M a ∨ a = p
mutual
theorem Rp.free {p : Addr} (hp : H p = none) : ∀ (d : D) (v : V), Rp K M H d v → Rp K (orAt M p) H d v
  | .non, _, h => h
  | .bl _, _, h => h
  | .int _, _, h => h
  | .str _, _, h => h
  | .lst ds, v, h => by
    obtain ⟨a, vs, e, hr, hn, hl, hs⟩ := h
    refine ⟨a, vs, e, hr, fun z => ?_, hl, Rps.free hp ds vs hs⟩
    rcases z with z | z
    · exact hn z
    · rw [z, hp] at hr; cases hr
  | .tup ds, v, h => by
    obtain ⟨a, vs, e, hr, hl, hs⟩ := h
    exact ⟨a, vs, e, hr, hl, Rps.free hp ds vs hs⟩
  | .dic ks ds, v, h => by
    obtain ⟨a, vs, e, hr, hn, hk, hl, hs⟩ := h
    refine ⟨a, vs, e, hr, fun z => ?_, hk, hl, Rps.free hp ds vs hs⟩
    rcases z with z | z
    · exact hn z
    · rw [z, hp] at hr; cases hr
  | .scr ns, v, h => by
    obtain ⟨a, e, hr, hn, hl⟩ := h
    refine ⟨a, e, hr, fun z => ?_, hl⟩
    rcases z with z | z
    · exact hn z
    · rcases hr with hr | hr
      · rcases hr with hr | ⟨o, hr⟩ <;> rw [z, hp] at hr <;> cases hr
      · exact hr
theorem Rps.free {p : Addr} (hp : H p = none) : ∀ (ds : List D) (vs : List V), Rps K M H ds vs → Rps K (orAt M p) H ds vs
  | [], _, h => h
  | d :: ds, _, h => by
    obtain ⟨v, r, e, h1, h2⟩ := h
    exact ⟨v, r, e, Rp.free hp d v h1, Rps.free hp ds r h2⟩
end
mutual
def D.flat : D → Bool
  | .lst _ => false
  | .dic _ _ => false
  | .scr _ => false
  | .tup ds => flats ds
  | _ => true
def flats : List D → Bool
  | [] => true
  | d :: ds => d.flat && flats ds
end
mutual
theorem Rp.flat : ∀ (d : D) (v : V), d.flat = true → Rp K M H d v → Rp K M' H d v
  | .non, _, _, h => h
  | .bl _, _, _, h => h
  | .int _, _, _, h => h
  | .str _, _, _, h => h
  | .lst ds, v, f, h => by simp [D.flat] at f
  | .tup ds, v, f, h => by
    obtain ⟨a, vs, e, hr, hl, hs⟩ := h
    exact ⟨a, vs, e, hr, hl, Rps.flat ds vs (by simpa [D.flat] using f) hs⟩
  | .dic ks ds, v, f, h => by simp [D.flat] at f
  | .scr ns, v, f, h => by simp [D.flat] at f
theorem Rps.flat : ∀ (ds : List D) (vs : List V), flats ds = true → Rps K M H ds vs → Rps K M' H ds vs
  | [], _, _, h => h
  | d :: ds, _, f, h => by
    obtain ⟨v, r, e, h1, h2⟩ := h
    have f' : d.flat = true ∧ flats ds = true := by simpa [flats] using f
    exact ⟨v, r, e, Rp.flat d v f'.1 h1, Rps.flat ds r f'.2 h2⟩
end
theorem Rps.length : ∀ {ds : List D} {vs : List V}, Rps K M H ds vs → ds.length = vs.length
  | [], vs, h => by rw [show vs = [] from h]; rfl
  | d :: ds, vs, h => by
    obtain ⟨v, r, e, _, h2⟩ := h
    rw [e, List.length_cons, List.length_cons, Rps.length h2]
theorem Rps.get : ∀ {ds : List D} {vs : List V} {i : Nat} {d : D}, Rps K M H ds vs → ds[i]? = some d → ∃ v, vs[i]? = some v ∧ Rp K M H d v
  | [], vs, i, d, _, e => by simp at e
  | d :: ds, vs, 0, x, h, e => by
    obtain ⟨v, r, rfl, h1, h2⟩ := h
    have : d = x := by simpa using e
    subst this
    exact ⟨v, rfl, h1⟩
  | d :: ds, vs, i + 1, x, h, e => by
    obtain ⟨v, r, rfl, h1, h2⟩ := h
    obtain ⟨u, e1, e2⟩ := Rps.get (i := i) (d := x) h2 (by simpa using e)
    exact ⟨u, by simpa using e1, e2⟩
theorem Rps.get' {ds : List D} {vs : List V} {i : Nat} {v : V} (h : Rps K M H ds vs) (e : vs[i]? = some v) : ∃ d, ds[i]? = some d ∧ Rp K M H d v := by
  have hl := h.length
  have hi : i < ds.length := by
    have := (List.getElem?_eq_some_iff.mp e).1
    omega
  obtain ⟨u, e1, e2⟩ := h.get (List.getElem?_eq_getElem hi)
  rw [e] at e1
  cases e1
  exact ⟨_, List.getElem?_eq_getElem hi, e2⟩
theorem Rps.append : ∀ {ds es : List D} {vs us : List V}, Rps K M H ds vs → Rps K M H es us → Rps K M H (ds ++ es) (vs ++ us)
  | [], es, vs, us, h, h' => by rw [show vs = [] from h]; exact h'
  | d :: ds, es, vs, us, h, h' => by
    obtain ⟨v, r, rfl, h1, h2⟩ := h
    exact ⟨v, r ++ us, rfl, h1, Rps.append h2 h'⟩
theorem Rps.take : ∀ {ds : List D} {vs : List V} (n : Nat), Rps K M H ds vs → Rps K M H (ds.take n) (vs.take n)
  | ds, vs, 0, h => by simp [Rps]
  | [], vs, n + 1, h => by rw [show vs = [] from h]; simp [Rps]
  | d :: ds, vs, n + 1, h => by
    obtain ⟨v, r, rfl, h1, h2⟩ := h
    exact ⟨v, r.take n, rfl, h1, Rps.take n h2⟩
theorem Rps.drop : ∀ {ds : List D} {vs : List V} (n : Nat), Rps K M H ds vs → Rps K M H (ds.drop n) (vs.drop n)
  | ds, vs, 0, h => h
  | [], vs, n + 1, h => by rw [show vs = [] from h]; simp [Rps]
  | d :: ds, vs, n + 1, h => by
    obtain ⟨v, r, rfl, h1, h2⟩ := h
    exact Rps.drop n h2
theorem Rps.reverse : ∀ {ds : List D} {vs : List V}, Rps K M H ds vs → Rps K M H ds.reverse vs.reverse
  | [], vs, h => by rw [show vs = [] from h]; simp [Rps]
  | d :: ds, vs, h => by
    obtain ⟨v, r, rfl, h1, h2⟩ := h
    rw [List.reverse_cons, List.reverse_cons]
    exact Rps.append (Rps.reverse h2) ⟨v, [], rfl, h1, rfl⟩
theorem Rps.set : ∀ {ds : List D} {vs : List V} (i : Nat) {d : D} {v : V}, Rps K M H ds vs → Rp K M H d v → Rps K M H (ds.set i d) (vs.set i v)
  | [], vs, i, d, v, h, _ => by rw [show vs = [] from h]; simp [Rps]
  | d' :: ds, vs, 0, d, v, h, h' => by
    obtain ⟨u, r, rfl, h1, h2⟩ := h
    exact ⟨v, r, rfl, h', h2⟩
  | d' :: ds, vs, i + 1, d, v, h, h' => by
    obtain ⟨u, r, rfl, h1, h2⟩ := h
    exact ⟨u, r.set i v, rfl, h1, Rps.set i h2 h'⟩
theorem Rps.eraseIdx : ∀ {ds : List D} {vs : List V} (i : Nat), Rps K M H ds vs → Rps K M H (ds.eraseIdx i) (vs.eraseIdx i)
  | [], vs, i, h => by rw [show vs = [] from h]; simp [Rps]
  | d' :: ds, vs, 0, h => by
    obtain ⟨u, r, rfl, h1, h2⟩ := h
    exact h2
  | d' :: ds, vs, i + 1, h => by
    obtain ⟨u, r, rfl, h1, h2⟩ := h
    exact ⟨u, r.eraseIdx i, rfl, h1, Rps.eraseIdx i h2⟩
theorem Rps.all : ∀ {ds : List D} {vs : List V}, ds.length = vs.length → (∀ (i : Nat) d v, ds[i]? = some d → vs[i]? = some v → Rp K M H d v) → Rps K M H ds vs
  | [], vs, e, _ => List.length_eq_zero_iff.mp e.symm
  | d :: ds, [], e, _ => by simp at e
  | d :: ds, v :: vs, e, f => ⟨v, vs, rfl, f 0 d v rfl rfl, Rps.all (by simpa using e) fun i d' v' e1 e2 => f (i + 1) d' v' (by simpa using e1) (by simpa using e2)⟩
end
end DC
set_option Elab.async false
set_option linter.all false
set_option maxRecDepth 100000
set_option maxHeartbeats 1000000
namespace DC
open PySem PySem.Spec L2

abbrev Dice := Int × Int × List (List Int)
abbrev En := List (Option D)
structure Exc where
  cls : Str
  fld : Option D
inductive Res (α : Type) where
  | ok (a : α) (δ : Dice)
  | exc (x : Exc) (δ : Dice)
  | stk
@[reducible] def Res.bind {α β : Type} : Res α → (α → Dice → Res β) → Res β
  | .ok a δ, f => f a δ
  | .exc x δ, _ => .exc x δ
  | .stk, _ => .stk

inductive Op where
  | add | sub | mul | fdiv | mod | neg | pow
  | eq | ne | lt | le | gt | ge | isn | notn | isin | notin
  | idx | slc (lo hi : Bool) | len | tupd | lstd | list | tuple | all | any | sum | max2 | min2 | abs | int
  | isi (t : String) | join | split | upper | lower | strip | count | replace | str
  | rng (n : Nat) | enm | zip | rev | lcount | index | revs | maxl | minl | maxd | isb (neg : Bool) | lstr | mint | mind | srt | chr2
  deriving DecidableEq
inductive Pat where
  | nm (i : Nat) | nil | cons (p r : Pat)
  deriving DecidableEq
inductive Ex where
  | var (i : Nat)
  | cst (d : D)
  | glb (x : Str)
  | dget (i : Nat)
  | nil
  | cons (a r : Ex)
  | op (o : Op) (args : Ex)
  | and (a b : Ex)
  | or (a b : Ex)
  | not (a : Ex)
  | ife (c a b : Ex)
  | chn (o p : Op) (a b c : Ex)
  | comp (own : List Nat) (p : Pat) (it cond elt : Ex)
  | call (f : Str) (dice : Bool) (pt : Nat) (args kws : Ex)
  | tget (a b : Ex)
  | told (x : Ex)

mutual
def D.eqv : D → D → Bool
  | .non, .non => true
  | .bl a, .bl b => a == b
  | .bl a, .int j => (if a then 1 else 0) == j
  | .int i, .bl b => i == (if b then 1 else 0)
  | .int i, .int j => i == j
  | .str x, .str y => x == y
  | .lst xs, .lst ys => eqvs xs ys
  | .tup xs, .tup ys => eqvs xs ys
  | _, _ => false
def eqvs : List D → List D → Bool
  | [], [] => true
  | x :: xs, y :: ys => x.eqv y && eqvs xs ys
  | _, _ => false
end
mutual
def D.dep : D → Option Nat
  | .lst xs => (deps xs).map (· + 1)
  | .tup xs => (deps xs).map (· + 1)
  | .dic _ _ => none
  | .scr _ => none
  | _ => some 0
def deps : List D → Option Nat
  | [] => some 0
  | x :: xs => match x.dep, deps xs with
    | some a, some b => some (max a b)
    | _, _ => none
end
def D.shp (d : D) : Bool := match d.dep with
  | some n => decide (n ≤ 64)
  | none => false
def D.ty : D → String
  | .non => "NoneType"
  | .bl _ => "bool"
  | .int _ => "int"
  | .str _ => "str"
  | .lst _ => "list"
  | .tup _ => "tuple"
  | .dic _ _ => "dict"
  | .scr _ => "list"
def isiB (a b : String) : Option Bool :=
  if b = "int" then some (a == "int" || a == "bool")
  else if b = "str" || b = "bool" || b = "list" || b = "tuple" then some (a == b) else none
def dAdd : D → D → Option D
  | .int a, .int b => some (.int (a + b))
  | .str a, .str b => if a.length + b.length ≤ 16777216 then some (.str (a ++ b)) else none
  | .lst a, .lst b => if a.length + b.length ≤ 16777216 then some (.lst (a ++ b)) else none
  | .tup a, .tup b => if a.length + b.length ≤ 16777216 then some (.tup (a ++ b)) else none
  | _, _ => none
def dMul : D → D → Option D
  | .int a, .int b => if decide (a.natAbs < 18446744073709551616) || decide (b.natAbs < 18446744073709551616) || decide (a.natAbs.log2 + b.natAbs.log2 < 1000000) then some (.int (a * b)) else none
  | .lst a, .int k => if a.length * k.toNat ≤ 16777216 ∧ k.natAbs < 9223372036854775808 then some (.lst (List.replicate k.toNat a).flatten) else none
  | _, _ => none
def dIdx : D → D → Option D
  | .lst a, .int i => atI a i
  | .tup a, .int i => atI a i
  | .scr a, .int i => (atI a i).map .int
  | .str a, .int i => (atI a i).map fun c => .str [c]
  | _, _ => none
def cutD {α : Type} (xs : List α) (lo hi : Option Int) : List α := (xs.drop (HT.sIx xs.length 0 lo)).take (HT.sIx xs.length xs.length hi - HT.sIx xs.length 0 lo)
def dSlc : D → Option Int → Option Int → Option D
  | .lst a, lo, hi => some (.lst (cutD a lo hi))
  | .str a, lo, hi => some (.str (cutD a lo hi))
  | .tup a, lo, hi => some (.tup (cutD a lo hi))
  | _, _, _ => none
def dLt : D → D → Option Bool
  | .int a, .int b => some (decide (a < b))
  | .str a, .str b => some (decide (a < b))
  | _, _ => none
def D.items : D → Option (List D)
  | .lst ds => some ds
  | .tup ds => some ds
  | .str s => some (s.map fun c => .str [c])
  | _ => none
def rngL (lo : Int) (n : Nat) : List D := (List.range n).map fun i : Nat => D.int (lo + (i : Int))
def small (i : Int) : Bool := decide (-4611686018427387904 ≤ i ∧ i ≤ 16777216)
def stpL (lo st : Int) (n : Nat) : List D := (List.range n).map fun i : Nat => D.int (lo + (i : Int) * st)
def dRng : Nat → List D → Option D
  | 1, [.int n] => if small n then some (.lst (rngL 0 n.toNat)) else none
  | 2, [.int a, .int b] => if small a && small b && decide (b - a ≤ 16777216) then some (.lst (rngL a (b - a).toNat)) else none
  | 3, [.int a, .int b, .int s] => if small a && small b && decide (a - b ≤ 16777216) && decide (s = -1) then some (.lst (stpL a (-1) (a - b).toNat)) else none
  | _, _ => none
def enmL : Nat → List D → List D
  | _, [] => []
  | n, d :: ds => .tup [.int (n : Int), d] :: enmL (n + 1) ds
def zipL : List D → List D → List D
  | d :: ds, e :: es => .tup [d, e] :: zipL ds es
  | _, _ => []
def blsOf : List D → Option (List Bool)
  | [] => some []
  | .bl b :: r => (blsOf r).map (b :: ·)
  | _ :: _ => none
def intsOf : List D → Option (List Int)
  | [] => some []
  | .int b :: r => (intsOf r).map (b :: ·)
  | _ :: _ => none
def strsOf : List D → Option (List (List Nat))
  | [] => some []
  | .str b :: r => (strsOf r).map (b :: ·)
  | _ :: _ => none
def upC (c : Nat) : Nat := if 97 ≤ c ∧ c ≤ 122 then c - 32 else c
def lowC (c : Nat) : Nat := if 65 ≤ c ∧ c ≤ 90 then c + 32 else c
def D.isNon : D → Bool
  | .non => true
  | _ => false
def D.scl : D → Bool
  | .non => true
  | .bl _ => true
  | .int _ => true
  | .str _ => true
  | _ => false
def dIn : D → D → Option Bool
  | x, .lst ys => if x.shp && (D.lst ys).shp then some (ys.any fun y => y.eqv x) else none
  | x, .tup ys => if x.scl && ys.all D.scl then some (ys.any fun y => y.eqv x) else none
  | .str [c], .str z => some (decide (c ∈ z))
  | .str (c :: c2 :: r), .str z => some (decide (2 ≤ (TL.spl (c :: c2 :: r) 0 [] z).length))
  | _, _ => none
def dLen : D → Option Nat
  | .lst a => some a.length
  | .tup a => some a.length
  | .str a => some a.length
  | .scr a => some a.length
  | _ => none
def dEqS : D → D → Option D
  | .scr ns, .lst [] => some (.bl ns.isEmpty)
  | _, _ => none
mutual
def D.py : D → PyData
  | .non => .none
  | .bl b => .bool b
  | .int i => .int i
  | .str s => .str ⟨s.toArray⟩
  | .lst ds => .list (pys ds)
  | .tup ds => .tuple (pys ds)
  | .dic _ _ => .none
  | .scr ns => .list (ns.map .int)
def pys : List D → List PyData
  | [] => []
  | d :: ds => d.py :: pys ds
end
def alk (ds : List D) : Bool := (D.lst ds).shp && ds.all fun a => !a.isNon && ds.all fun b => PySem.W.alike a.py b.py
def minF (x : D) (xs : List D) : D := xs.foldl (fun a y => if PySem.W.dataLt y.py a.py then y else a) x
def maxF (x : D) (xs : List D) : D := xs.foldl (fun a y => if PySem.W.dataLt a.py y.py then y else a) x
def opv : Op → List D → Option D
  | .add, [a, b] => dAdd a b
  | .sub, [.int a, .int b] => some (.int (a - b))
  | .mul, [a, b] => dMul a b
  | .pow, [.int a, .int b] => if 0 ≤ b ∧ b ≤ 1000000 ∧ a.natAbs < 18446744073709551616 then some (.int (a ^ b.toNat)) else none
  | .fdiv, [.int a, .int b] => if 0 < b ∧ b.natAbs.log2 < 9000 then some (.int (a / b)) else none
  | .mod, [.int a, .int b] => if 0 < b then some (.int (a % b)) else none
  | .neg, [.int a] => some (.int (-a))
  | .eq, [a, b] => if a.shp && b.shp then some (.bl (a.eqv b)) else dEqS a b
  | .ne, [a, b] => if a.shp && b.shp then some (.bl (!a.eqv b)) else none
  | .lt, [a, b] => (dLt a b).map .bl
  | .gt, [a, b] => (dLt b a).map .bl
  | .le, [a, b] => (dLt b a).map fun x => .bl (!x)
  | .ge, [a, b] => (dLt a b).map fun x => .bl (!x)
  | .isn, [a, .non] => some (.bl a.isNon)
  | .notn, [a, .non] => some (.bl (!a.isNon))
  | .isin, [a, b] => (dIn a b).map .bl
  | .notin, [a, b] => (dIn a b).map fun x => .bl (!x)
  | .idx, [a, b] => dIdx a b
  | .slc false false, [a] => dSlc a none none
  | .slc true false, [a, .int i] => dSlc a (some i) none
  | .slc false true, [a, .int j] => dSlc a none (some j)
  | .slc true true, [a, .int i, .int j] => dSlc a (some i) (some j)
  | .len, [a] => (dLen a).map fun (n : Nat) => .int (n : Int)
  | .tupd, ds => if ds.length ≤ 16777216 then some (.tup ds) else none
  | .lstd, ds => if ds.length ≤ 16777216 then some (.lst ds) else none
  | .list, [.lst a] => some (.lst a)
  | .list, [.tup a] => some (.lst a)
  | .tuple, [.lst a] => some (.tup a)
  | .tuple, [.tup a] => some (.tup a)
  | .all, [.lst a] => (blsOf a).map fun bs => .bl (bs.all id)
  | .any, [.lst a] => (blsOf a).map fun bs => .bl (bs.any id)
  | .sum, [.lst a] => (intsOf a).map fun bs => .int bs.sum
  | .max2, [.int a, .int b] => some (.int (if b > a then b else a))
  | .min2, [.int a, .int b] => some (.int (if b < a then b else a))
  | .abs, [.int a] => some (.int (if a < 0 then -a else a))
  | .int, [.int a] => some (.int a)
  | .int, [.bl a] => some (.int (if a then 1 else 0))
  | .isi t, [a] => (isiB a.ty t).map .bl
  | .join, [.str y, .lst a] => (strsOf a).bind fun ss => if (ss.map List.length).sum + ss.length * y.length ≤ 16777216 then some (.str (TL.joinL y ss)) else none
  | .split, [.str a, .str (c :: r)] => if a.length + 2 ≤ 16777216 then some (.lst ((TL.spl (c :: r) 0 [] a).map .str)) else none
  | .upper, [.str a] => if a.length ≤ 5592405 then some (.str (a.map upC)) else none
  | .lower, [.str a] => if a.length ≤ 5592405 then some (.str (a.map lowC)) else none
  | .strip, [.str a, .str b] => some (.str (stripL b a))
  | .count, [.str a, .str (c :: r)] => some (.int ((TL.spl (c :: r) 0 [] a).length - 1))
  | .replace, [.str a, .str (c :: r), .str z] => if decide ((c :: r) ≠ z) && decide (a.length + (a.length + 1) * z.length ≤ 16777216) then some (.str (TL.joinL z (TL.spl (c :: r) 0 [] a))) else none
  | .rng n, ds => dRng n ds
  | .enm, [.lst ds] => some (.lst (enmL 0 ds))
  | .enm, [.tup ds] => some (.lst (enmL 0 ds))
  | .enm, [.str s] => some (.lst (enmL 0 (s.map fun c => .str [c])))
  | .zip, [.lst a, .lst b] => some (.lst (zipL a b))
  | .zip, [.tup a, .tup b] => some (.lst (zipL a b))
  | .rev, [.lst a] => some (.lst a.reverse)
  | .lcount, [.lst a, x] => if x.scl && a.all D.scl then some (.int ((a.countP fun y => y.eqv x : Nat) : Int)) else none
  | .index, [.lst a, x] => if x.scl && a.all D.scl then (a.findIdx? fun y => y.eqv x).map fun (n : Nat) => .int (n : Int) else none
  | .revs, [.lst a] => some (.lst a.reverse)
  | .minl, [.lst (x :: xs)] => if alk (x :: xs) then some (minF x xs) else none
  | .maxl, [.lst (x :: xs)] => if alk (x :: xs) then some (maxF x xs) else none
  | .mind, [.lst [], d] => some d
  | .mind, [.lst (x :: xs), _] => if alk (x :: xs) then some (minF x xs) else none
  | .maxd, [.lst [], d] => some d
  | .maxd, [.lst (x :: xs), _] => if alk (x :: xs) then some (maxF x xs) else none
  | _, _ => none

abbrev Way := Nat × List Str × Option (List (Nat ⊕ D))
structure Fs where
  dice : Bool := false
  fr : Bool := false
  np : Nat
  pats : List Way
  sem : List D → Dice → Res D
structure Glo where
  fn : Str → Option Fs
  cs : Str → Option D
def wipeE (ρ : En) : List Nat → En
  | [] => ρ
  | v :: vs => (wipeE ρ vs).set v none
def bindP : Pat → D → En → Option En
  | .nm i, d, ρ => some (ρ.set i (some d))
  | .nil, .tup [], ρ => some ρ
  | .cons p r, .tup (d :: ds), ρ => match bindP p d ρ with
    | some ρ' => bindP r (.tup ds) ρ'
    | none => none
  | _, _, _ => none
def arrG (ar : Option (List (Nat ⊕ D))) (ds : List D) : Option (List D) := match ar with
  | none => some ds
  | some l => l.foldr (fun x acc => match x, acc with
    | .inl i, some r => ds[i]?.map (· :: r)
    | .inr d, some r => some (d :: r)
    | _, none => none) (some [])
def compL (fb : D → En → Option En) (fc fe : En → Dice → Res D) (ρ : En) : List D → Dice → Res (List D)
  | [], δ => .ok [] δ
  | d :: r, δ => match fb d ρ with
    | none => .stk
    | some ρ' => match fc ρ' δ with
      | .ok (.bl true) δ1 => (fe ρ' δ1).bind fun x δ2 => (compL fb fc fe ρ r δ2).bind fun xs δ3 => .ok (x :: xs) δ3
      | .ok (.bl false) δ1 => compL fb fc fe ρ r δ1
      | .exc x δ1 => .stk
      | _ => .stk
def noExc {α : Type} : Res α → Res α
  | .exc _ _ => .stk
  | r => r
def tabG (t : List (List Int)) (i j : Int) : Option Int := (atI t i).bind fun r => atI r j
def tabS (t : List (List Int)) (i j v : Int) : Option (List (List Int)) := match ixN t.length i with
  | some a => (match t[a]? with
    | some r => (match ixN r.length j with
      | some b => some (t.set a (r.set b v))
      | none => none)
    | none => none)
  | none => none
def sRefused : List Nat := [114, 101, 102, 117, 115, 101, 100]
def refD (y : Exc) : Option D := match y.fld with
  | none => some (.tup [.str sRefused, .str y.cls.cps.toList])
  | some d => if d.flat then some (.tup [.str sRefused, .str y.cls.cps.toList, d]) else none
def ev (Γ : Glo) : Ex → En → Dice → Res D
  | .var i, ρ, δ => match ρ[i]? with
    | some (some d) => .ok d δ
    | _ => .stk
  | .cst d, _, δ => .ok d δ
  | .glb x, _, δ => match Γ.cs x with
    | some d => .ok d δ
    | none => .stk
  | .dget i, _, δ => .ok (.int (if i = 0 then δ.1 else δ.2.1)) δ
  | .nil, _, δ => .ok (.tup []) δ
  | .cons a r, ρ, δ => (ev Γ a ρ δ).bind fun d δ1 => (ev Γ r ρ δ1).bind fun ds δ2 => match ds with
    | .tup ds => .ok (.tup (d :: ds)) δ2
    | _ => .stk
  | .op o args, ρ, δ => (ev Γ args ρ δ).bind fun ds δ1 => match ds with
    | .tup ds => match opv o ds with
      | some d => .ok d δ1
      | none => .stk
    | _ => .stk
  | .and a b, ρ, δ => (ev Γ a ρ δ).bind fun d δ1 => match d with
    | .bl true => ev Γ b ρ δ1
    | .bl false => .ok (.bl false) δ1
    | _ => .stk
  | .or a b, ρ, δ => (ev Γ a ρ δ).bind fun d δ1 => match d with
    | .bl true => .ok (.bl true) δ1
    | .bl false => ev Γ b ρ δ1
    | _ => .stk
  | .not a, ρ, δ => (ev Γ a ρ δ).bind fun d δ1 => match d with
    | .bl k => .ok (.bl (!k)) δ1
    | _ => .stk
  | .ife c a b, ρ, δ => (ev Γ c ρ δ).bind fun d δ1 => match d with
    | .bl true => ev Γ a ρ δ1
    | .bl false => ev Γ b ρ δ1
    | _ => .stk
  | .chn o p a b c, ρ, δ => (ev Γ a ρ δ).bind fun x δ1 => (ev Γ b ρ δ1).bind fun y δ2 => match opv o [x, y] with
    | some (.bl true) => (ev Γ c ρ δ2).bind fun z δ3 => match opv p [y, z] with
      | some (.bl k) => .ok (.bl k) δ3
      | _ => .stk
    | some (.bl false) => .ok (.bl false) δ2
    | _ => .stk
  | .comp own p it cond elt, ρ, δ => (ev Γ it ρ δ).bind fun d δ1 => match d.items with
    | some ds => (noExc (compL (bindP p) (ev Γ cond) (ev Γ elt) (wipeE ρ own) ds δ1)).bind fun xs δ2 => .ok (.lst xs) δ2
    | none => .stk
  | .call f dc pt args kws, ρ, δ => match Γ.fn f with
    | some fs => if fs.dice = dc then (ev Γ args ρ δ).bind fun ds δ1 => (ev Γ kws ρ δ1).bind fun es δ2 => match ds, es with
        | .tup ds, .tup es => match (fs.pats[pt]?).bind fun w => arrG w.2.2 (ds ++ es) with
          | some gs => if fs.dice then fs.sem gs δ2 else match fs.sem gs (0, 0, []) with
            | .ok d _ => .ok d δ2
            | .exc x _ => .exc x δ2
            | .stk => .stk
          | none => .stk
        | _, _ => .stk
      else .stk
    | none => .stk
  | .tget a b, ρ, δ => (ev Γ a ρ δ).bind fun x δ1 => (ev Γ b ρ δ1).bind fun y δ2 => match x, y with
    | .int i, .int j => if δ2.2.2.length = δ1.2.2.length then (match tabG δ2.2.2 i j with
      | some n => .ok (.int n) δ2
      | none => .stk) else .stk
    | _, _ => .stk
  | .told x, ρ, δ => match ev Γ x ρ δ with
    | .ok d δ' => .ok d δ'
    | .exc y δ' => (match refD y with
      | some d => .ok d δ'
      | none => .stk)
    | .stk => .stk

def Op.kind : Op → Nat
  | .add => 1 | .mul => 1 | .idx => 1 | .slc _ _ => 1 | .list => 1 | .tuple => 1 | .rng _ => 0 | .enm => 2 | .zip => 2 | .rev => 2 | .revs => 1
  | .tupd => 2 | .lstd => 2 | .join => 0 | .split => 0
  | .minl => 1 | .maxl => 1 | .mind => 2 | .maxd => 2
  | _ => 0
def Op.fr : Op → Bool
  | .revs => true | .lstd => true | .list => true | .split => true | .add => true | .mul => true | .slc _ _ => true
  | _ => false
mutual
def tpc (md : List Bool) : Ex → Bool
  | .var _ => true
  | .nil => true
  | .cons a r => tpc md a && tpc md r
  | .op o args => if o.kind = 0 then true else if o.kind = 1 then tpc md args else cln md args
  | .and a b => cln md a && cln md b
  | .or a b => cln md a && cln md b
  | .ife _ a b => tpc md a && tpc md b
  | .comp _ _ it _ elt => tpc md it && cln md elt
  | .call _ _ _ args kws => cln md args && cln md kws
  | .told x => cln md x
  | _ => true
def cln (md : List Bool) : Ex → Bool
  | .var i => !(md.getD i false)
  | .nil => true
  | .cons a r => cln md a && cln md r
  | .op o args => if o.kind = 0 then true else if o.kind = 1 then tpc md args else cln md args
  | .and a b => cln md a && cln md b
  | .or a b => cln md a && cln md b
  | .ife _ a b => cln md a && cln md b
  | .comp _ _ it _ elt => tpc md it && cln md elt
  | .call _ _ _ args kws => cln md args && cln md kws
  | .told x => cln md x
  | _ => true
end
def frs (Γ : Glo) (md : List Bool) : Ex → Bool
  | .op o args => o.fr && (if o.kind = 0 then true else if o.kind = 1 then tpc md args else cln md args)
  | .ife _ a b => frs Γ md a && frs Γ md b
  | .comp _ _ it _ elt => tpc md it && cln md elt
  | .call f _ _ args kws => cln md args && cln md kws && (match Γ.fn f with | some fs => fs.fr | none => false)
  | _ => false
end DC
set_option Elab.async false
set_option linter.all false
set_option maxRecDepth 100000
set_option maxHeartbeats 1000000
namespace DC
open PySem PySem.Spec L2

structure Cz where
  K : PySem.W.Frag
  mg : Str → Option Value
  Γ : Glo
  md : List Bool
  H0 : Hp
  Mc : MS
  pd : Option Addr
  kd : Nat
  E : XK
  fr : Bool := false
  tb : Option (Addr × List Addr) := none
  T : List (Addr × Str) := []
def Cz.pds (C : Cz) : MS := fun a => C.pd = some a ∨ (∃ ta ras, C.tb = some (ta, ras) ∧ (a = ta ∨ a ∈ ras)) ∨ ∃ q, (a, q) ∈ C.T
def RpT (K : PySem.W.Frag) (M : MS) (H : Hp) (d : D) (v : V) : Prop := match d with
  | .lst ds => ∃ a vs, v = .ref a ∧ H a = some (.lst vs) ∧ ds.length ≤ sizeLine ∧ Rps K M H ds vs
  | .dic ks ds => ∃ a vs, v = .ref a ∧ H a = some (.dK (ks.zip vs)) ∧ ks.length = ds.length ∧ ds.length ≤ sizeLine ∧ Rps K M H ds vs
  | d => Rp K M H d v
theorem Rp.top {K : PySem.W.Frag} {M : MS} {H : Hp} {d : D} {v : V} (h : Rp K M H d v) : RpT K M H d v := by
  cases d with
  | lst ds => obtain ⟨a, vs, e, hr, hn, hl, hs⟩ := h; exact ⟨a, vs, e, hr, hl, hs⟩
  | dic ks ds => obtain ⟨a, vs, e, hr, hn, hk, hl, hs⟩ := h; exact ⟨a, vs, e, hr, hk, hl, hs⟩
  | _ => exact h
def KD (K : PySem.W.Frag) (H : Hp) : Prop := ∀ a vs, Rd H a (.tup vs) → K.lookup a = none
theorem KD.tup {K : PySem.W.Frag} {H : Hp} (k : KD K H) {a : Addr} {xs ys : List V} (h : SqT K H a xs) (h' : SqT K H a ys) : xs = ys := by
  rcases h with h | ⟨o, its, n, hk, hc, hs, hz, r⟩
  · rcases h' with h' | ⟨o', its', n', hk', hc', hs', hz', r'⟩
    · rcases h with h | ⟨ob, h⟩ <;> rcases h' with h' | ⟨ob', h'⟩ <;> rw [h] at h' <;> cases h' <;> rfl
    · rw [k _ _ h] at hk'; cases hk'
  · rcases h' with h' | ⟨o', its', n', hk', hc', hs', hz', r'⟩
    · rw [k _ _ h'] at hk; cases hk
    · rw [hk] at hk'
      cases hk'
      rw [hs] at hs'
      cases hs'
      exact r.inj r'
theorem KD.of {X : Cx} {pins : List (Addr × Obj)} {σ : St} {H : Hp} {s : Shared} (I : Inv X pins σ H s) : KD X.K H := fun a vs e => by
  cases q : X.K.lookup a with
  | none => rfl
  | some o =>
    have := (I.bs a o (I.ok.mod.kin a o q)).2
    rcases e with e | ⟨ob, e⟩ <;> rw [this] at e <;> cases e
theorem KD.lst {K : PySem.W.Frag} {H : Hp} (k : KD K H) {p : Addr} {xs : List V} : KD K (upd H p (.lst xs)) := fun a vs e => by
  by_cases h : a = p
  · subst h
    rcases e with e | ⟨ob, e⟩ <;> rw [upd_same] at e <;> cases e
  · refine k a vs ?_
    rcases e with e | ⟨ob, e⟩ <;> rw [upd_ne h] at e
    · exact .inl e
    · exact .inr ⟨ob, e⟩
theorem Cz.pds0 {C : Cz} (h1 : C.tb = none) (h2 : C.T = []) {a : Addr} (h : C.pds a) : C.pd = some a := by
  rcases h with h | ⟨ta, ras, z, _⟩ | ⟨q, z⟩
  · exact h
  · rw [h1] at z; cases z
  · rw [h2] at z; cases z
structure DiceAt (C : Cz) (δ : Dice) (H : Hp) : Prop where
  at_ : ∀ a, C.pd = some a → H a = some (.lst [.int δ.1, .int δ.2.1])
  row : ∀ ta ras, C.tb = some (ta, ras) → H ta = some (.lst (ras.map V.ref)) ∧ ras.length = δ.2.2.length ∧ ras.length ≤ sizeLine ∧ ∀ (j : Nat) a r, ras[j]? = some a → δ.2.2[j]? = some r → H a = some (.lst (r.map V.int)) ∧ r.length ≤ sizeLine
  tab : LamX.Tabs C.T H
theorem DiceAt.keep {C : Cz} {δ : Dice} {H H' : Hp} (d : DiceAt C δ H) (x : Ext (fun _ => False) H H') : DiceAt C δ H' where
  at_ := fun a z => x.keep a _ (d.at_ a z) (fun q => q) (fun _ q => nomatch q)
  row := fun ta ras e => by
    obtain ⟨h1, h2, h3, h4⟩ := d.row ta ras e
    exact ⟨x.keep ta _ h1 (fun q => q) (fun _ q => nomatch q), h2, h3, fun j a r e1 e2 => ⟨x.keep a _ (h4 j a r e1 e2).1 (fun q => q) (fun _ q => nomatch q), (h4 j a r e1 e2).2⟩⟩
  tab := d.tab.ext fun b o e => by
    by_cases t : ∃ ps, o = .tbl ps
    · obtain ⟨ps, rfl⟩ := t
      exact x.tb b ps e (fun q => q)
    · exact x.keep b o e (fun q => q) (fun ps z => t ⟨ps, z⟩)
theorem tabs_ext {T : List (Addr × Str)} {P : MS} {H H' : Hp} (t : LamX.Tabs T H) (x : Ext P H H') (hP : ∀ a, P a → ∃ xs, H a = some (.lst xs)) : LamX.Tabs T H' := fun p hp => by
  obtain ⟨ps, h1, h2, h3⟩ := t p hp
  refine ⟨ps, x.tb _ _ h1 (fun z => by obtain ⟨xs, e⟩ := hP _ z; rw [h1] at e; cases e), h2, fun pos cv hc => ?_⟩
  obtain ⟨c, e1, e2⟩ := h3 pos cv hc
  exact ⟨c, e1, x.keep _ _ e2 (fun z => by obtain ⟨xs, e⟩ := hP _ z; rw [e2] at e; cases e) LamX.codeO_ne⟩
theorem DiceAt.write {C : Cz} {δ : Dice} {H : Hp} (d : DiceAt C δ H) {p : Addr} {xs ys : List V} (h : H p = some (.lst xs)) (n : ¬ C.pds p) : DiceAt C δ (upd H p (.lst ys)) where
  at_ := fun a z => by rw [upd_ne (fun w => n (by rw [← w]; exact .inl z))]; exact d.at_ a z
  row := fun ta ras e => by
    obtain ⟨h1, h2, h3, h4⟩ := d.row ta ras e
    refine ⟨by rw [upd_ne (fun w => n (by rw [← w]; exact .inr (.inl ⟨ta, ras, e, .inl rfl⟩)))]; exact h1, h2, h3, fun j a r e1 e2 => ⟨?_, (h4 j a r e1 e2).2⟩⟩
    rw [upd_ne (fun w => n (by rw [← w]; exact .inr (.inl ⟨ta, ras, e, .inr (List.mem_of_getElem? e1)⟩)))]
    exact (h4 j a r e1 e2).1
  tab := tabs_ext d.tab (Ext.write (P := fun b => b = p) rfl h (fun _ z => nomatch z)) fun a z => by cases z; exact ⟨_, h⟩
theorem DiceAt.some_ {C : Cz} {δ : Dice} {H : Hp} (d : DiceAt C δ H) : ∀ a, C.pds a → ∃ o, H a = some o := fun a z => by
  rcases z with z | ⟨ta, ras, z1, z2⟩ | ⟨q, z⟩
  · exact ⟨_, d.at_ a z⟩
  · obtain ⟨h1, h2, h3, h4⟩ := d.row ta ras z1
    rcases z2 with rfl | z2
    · exact ⟨_, h1⟩
    obtain ⟨j, hj, e⟩ := List.getElem_of_mem z2
    exact ⟨_, (h4 j a (δ.2.2[j]'(by omega)) (by rw [List.getElem?_eq_getElem hj, e]) (List.getElem?_eq_getElem (by omega))).1⟩
  · obtain ⟨ps, h1, _⟩ := d.tab _ z
    exact ⟨_, h1⟩
structure Stt (C : Cz) (M : MS) (ρ : En) (δ : Dice) (σ : St) (H : Hp) : Prop where
  sub : ∀ a, C.Mc a → M a
  mok : MOk M H
  new : ∀ a, M a → C.Mc a ∨ C.H0 a = none
  ext : Ext C.pds C.H0 H
  dice : DiceAt C δ H
  dpl : ∀ a, C.pd = some a → C.Mc a ∧ σ[C.kd]? = some (some (.ref a))
  tpl : ∀ ta ras, C.tb = some (ta, ras) → σ[C.kd]? = some (some (.ref ta)) ∧ ta ∉ ras ∧ ras.Nodup ∧ C.pd = none ∧ C.T = [] ∧ ∀ a, a = ta ∨ a ∈ ras → C.Mc a
  Tpl : ∀ p ∈ C.T, C.Mc p.1
  slot : ∀ (i : Nat) d, ρ[i]? = some (some d) → ∃ v, σ[i]? = some (some v) ∧ Rp C.K C.Mc H d v ∧ RpT C.K M H d v ∧
    (C.md.getD i false = false → Rp C.K M H d v) ∧ (C.md.getD i false = true → ∃ a ds, v = .ref a ∧ d = .lst ds ∧ M a ∧ ¬ C.Mc a)
  dist : ∀ (i j : Nat) d e v, C.md.getD i false = true → C.md.getD j false = true → i ≠ j → ρ[i]? = some (some d) → ρ[j]? = some (some e) → σ[i]? = some (some v) → σ[j]? = some (some v) → False
  len : ρ.length = σ.length
  kd : KD C.K H
section
variable {C : Cz} {M : MS} {ρ : En} {δ δ' : Dice} {σ : St} {H H' : Hp}
theorem Stt.pdM (S : Stt C M ρ δ σ H) : ∀ a, C.pds a → C.Mc a := fun a h => by
  rcases h with h | ⟨ta, ras, h1, h2⟩ | ⟨q, h⟩
  · exact (S.dpl a h).1
  · exact (S.tpl ta ras h1).2.2.2.2.2 a h2
  · exact S.Tpl _ h
theorem Stt.mokc (S : Stt C M ρ δ σ H) : MOk C.Mc H := S.mok.sub S.sub
theorem Stt.moke (S : Stt C M ρ δ σ H) (x : Ext C.pds H H') (dc : DiceAt C δ' H') : MOk M H' := fun a h => by
  by_cases hp : C.pds a
  · rcases hp with hp | ⟨ta, ras, z1, z2⟩ | ⟨q, hp⟩
    · exact .inl ⟨_, dc.at_ a hp⟩
    · obtain ⟨h1, h2, h3, h4⟩ := dc.row ta ras z1
      rcases z2 with rfl | z2
      · exact .inl ⟨_, h1⟩
      obtain ⟨j, hj, e⟩ := List.getElem_of_mem z2
      exact .inl ⟨_, (h4 j a (δ'.2.2[j]'(by omega)) (by rw [List.getElem?_eq_getElem hj, e]) (List.getElem?_eq_getElem (by omega))).1⟩
    · obtain ⟨ps, h1, _⟩ := dc.tab _ hp
      exact .inr (.inr ⟨ps, h1⟩)
  · rcases S.mok a h with ⟨xs, e⟩ | ⟨xs, e⟩ | ⟨xs, e⟩
    · exact .inl ⟨xs, x.keep a _ e hp (fun _ z => nomatch z)⟩
    · exact .inr (.inl ⟨xs, x.keep a _ e hp (fun _ z => nomatch z)⟩)
    · exact .inr (.inr ⟨xs, x.tb a _ e hp⟩)
theorem Stt.rp (S : Stt C M ρ δ σ H) (x : Ext C.pds H H') {d : D} {v : V} (h : Rp C.K M H d v) : Rp C.K M H' d v := Rp.ext x (fun a z => S.sub a (S.pdM a z)) (fun a vs r z => S.mok.tup r (S.sub a (S.pdM a z))) d v h
theorem Stt.rps (S : Stt C M ρ δ σ H) (x : Ext C.pds H H') {d : List D} {v : List V} (h : Rps C.K M H d v) : Rps C.K M H' d v := Rps.ext x (fun a z => S.sub a (S.pdM a z)) (fun a vs r z => S.mok.tup r (S.sub a (S.pdM a z))) d v h
theorem Stt.rpc (S : Stt C M ρ δ σ H) (x : Ext C.pds H H') {d : D} {v : V} (h : Rp C.K C.Mc H d v) : Rp C.K C.Mc H' d v := Rp.ext x S.pdM (fun a vs r z => S.mokc.tup r (S.pdM a z)) d v h
theorem Stt.rpsc (S : Stt C M ρ δ σ H) (x : Ext C.pds H H') {d : List D} {v : List V} (h : Rps C.K C.Mc H d v) : Rps C.K C.Mc H' d v := Rps.ext x S.pdM (fun a vs r z => S.mokc.tup r (S.pdM a z)) d v h
theorem Stt.rpt (S : Stt C M ρ δ σ H) (x : Ext C.pds H H') {d : D} {v : V} (hc : Rp C.K C.Mc H d v) (h : RpT C.K M H d v) : RpT C.K M H' d v := by
  cases d with
  | lst ds =>
    obtain ⟨a, vs, e, hr, hl, hs⟩ := h
    obtain ⟨a', vs', e', hr', hn, _⟩ := hc
    rw [e] at e'; cases e'
    exact ⟨a, vs, e, x.keep a _ hr (fun z => hn (S.pdM a z)) (fun _ z => nomatch z), hl, S.rps x hs⟩
  | dic ks ds =>
    obtain ⟨a, vs, e, hr, hk, hl, hs⟩ := h
    obtain ⟨a', vs', e', hr', hn, _⟩ := hc
    rw [e] at e'; cases e'
    exact ⟨a, vs, e, x.keep a _ hr (fun z => hn (S.pdM a z)) (fun _ z => nomatch z), hk, hl, S.rps x hs⟩
  | non => exact S.rp x h
  | bl _ => exact S.rp x h
  | int _ => exact S.rp x h
  | str _ => exact S.rp x h
  | tup _ => exact S.rp x h
  | scr _ => exact S.rp x h
theorem Stt.step (S : Stt C M ρ δ σ H) (x : Ext C.pds H H') (dc : DiceAt C δ' H') (kd : KD C.K H') : Stt C M ρ δ' σ H' where
  sub := S.sub
  mok := S.moke x dc
  new := S.new
  ext := S.ext.trans x
  dice := dc
  dpl := S.dpl
  slot := fun i d e => by
    obtain ⟨v, e1, h1, h2, h3, h4⟩ := S.slot i d e
    exact ⟨v, e1, S.rpc x h1, S.rpt x h1 h2, fun z => S.rp x (h3 z), h4⟩
  tpl := S.tpl
  Tpl := S.Tpl
  dist := S.dist
  len := S.len
  kd := kd
end

def Fresh (K : PySem.W.Frag) (M : MS) (H H' : Hp) (d : D) (v : V) : Prop := ∀ es, d = .lst es → ∃ p us, v = .ref p ∧ H p = none ∧ H' p = some (.lst us) ∧ es.length ≤ sizeLine ∧ Rps K (orAt M p) H' es us
structure Val (C : Cz) (M : MS) (x : Ex) (H H' : Hp) (d : D) (v : V) : Prop where
  rc : Rp C.K C.Mc H' d v
  cl : cln C.md x = true → Rp C.K M H' d v
  tp : tpc C.md x = true → RpT C.K M H' d v
  fr : frs C.Γ C.md x = true → Fresh C.K M H H' d v
structure Vls (C : Cz) (M : MS) (x : Ex) (H' : Hp) (ds : List D) (vs : List V) : Prop where
  rc : Rps C.K C.Mc H' ds vs
  cl : cln C.md x = true → Rps C.K M H' ds vs
  tp : tpc C.md x = true → ∀ (i : Nat) d v, ds[i]? = some d → vs[i]? = some v → RpT C.K M H' d v
def ExcIs (mg : Str → Option Value) (K : PySem.W.Frag) (Mc : MS) (H : Hp) (x : Exc) (cls : Value) (dd : Option Addr) : Prop :=
  mg x.cls = some cls ∧ match x.fld with
    | none => dd = none
    | some d => ∃ a f v, dd = some a ∧ H a = some (.xd [(f, v)]) ∧ Rp K Mc H d v
def Bad (C : Cz) (x : Exc) (δ' : Dice) (H : Hp) : Prop := ∀ cls dd H', Ext C.pds H H' → DiceAt C δ' H' → ExcIs C.mg C.K C.Mc H' x cls dd → C.E cls dd H'
def tD (C : Cz) (x : Ex) : TE := fun σ H Q => ∃ ρ δ M, Stt C M ρ δ σ H ∧ match ev C.Γ x ρ δ with
  | .ok d δ' => ∀ v H', KD C.K H' → Ext C.pds H H' → DiceAt C δ' H' → Val C M x H H' d v → Q v H'
  | .exc y δ' => Bad C y δ' H
  | .stk => False
def tDT (C : Cz) (x : Ex) : TT := fun σ H Q => ∃ ρ δ M, Stt C M ρ δ σ H ∧ match ev C.Γ x ρ δ with
  | .ok (.bl b) δ' => ∀ H', KD C.K H' → Ext C.pds H H' → DiceAt C δ' H' → Q b H'
  | .exc y δ' => Bad C y δ' H
  | _ => False
def tDs (C : Cz) (x : Ex) : TA := fun σ H Q => ∃ ρ δ M, Stt C M ρ δ σ H ∧ match ev C.Γ x ρ δ with
  | .ok (.tup ds) δ' => ∀ vs H', KD C.K H' → Ext C.pds H H' → DiceAt C δ' H' → Vls C M x H' ds vs → Q vs H'
  | .exc y δ' => Bad C y δ' H
  | _ => False
theorem Bad.step {C : Cz} {x : Exc} {δ' : Dice} {H H1 : Hp} (b : Bad C x δ' H) (e : Ext C.pds H H1) : Bad C x δ' H1 := fun cls dd H' e' dc h => b cls dd H' (e.trans e') dc h
theorem Ext.no {P : MS} {H H' : Hp} (x : Ext (fun _ => False) H H') : Ext P H H' := x.mono fun _ z => z.elim

section
variable {X : Cx} {C : Cz}
theorem tDs_nil {σ : St} {H : Hp} {Q : List V → Hp → Prop} (h : tDs C .nil σ H Q) : Q [] H := by
  obtain ⟨ρ, δ, M, S, h⟩ := h
  exact h [] H S.kd (Ext.refl _ _) S.dice ⟨rfl, fun _ => rfl, fun _ i d v e => by simp at e⟩
theorem tDs_cons {a r : Ex} {σ : St} {H : Hp} {Q : List V → Hp → Prop} (h : tDs C (.cons a r) σ H Q) : tD C a σ H fun v H1 => tDs C r σ H1 fun vs H2 => Q (v :: vs) H2 := by
  obtain ⟨ρ, δ, M, S, h⟩ := h
  refine ⟨ρ, δ, M, S, ?_⟩
  simp only [ev] at h
  cases e : ev C.Γ a ρ δ with
  | stk => rw [e] at h; exact h
  | exc y δ' => rw [e] at h; exact h
  | ok d δ1 =>
    rw [e] at h
    intro v H1 k1 x1 dc1 V1
    have S1 := S.step x1 dc1 k1
    refine ⟨ρ, δ1, M, S1, ?_⟩
    simp only [Res.bind] at h
    cases e2 : ev C.Γ r ρ δ1 with
    | stk => rw [e2] at h; exact h
    | exc y δ' => rw [e2] at h; exact h.step x1
    | ok ds δ2 =>
      rw [e2] at h
      cases ds with
      | tup ds =>
        intro vs H2 k2 x2 dc2 V2
        refine h (v :: vs) H2 k2 (x1.trans x2) dc2 ⟨⟨v, vs, rfl, S1.rpc x2 V1.rc, V2.rc⟩, fun z => ?_, fun z => ?_⟩
        · have z' : cln C.md a = true ∧ cln C.md r = true := by simpa [cln] using z
          exact ⟨v, vs, rfl, S1.rp x2 (V1.cl z'.1), V2.cl z'.2⟩
        · have z' : tpc C.md a = true ∧ tpc C.md r = true := by simpa [tpc] using z
          intro i d' v' e1 e2
          cases i with
          | zero =>
            have q1 : d = d' := by simpa using e1
            have q2 : v = v' := by simpa using e2
            subst q1; subst q2
            exact S1.rpt x2 V1.rc (V1.tp z'.1)
          | succ i => exact V2.tp z'.2 i d' v' (by simpa using e1) (by simpa using e2)
      | _ => exact h.elim
theorem PE.kd {e : Expr} {t : TE} (h : PE X e t) : PE X e (fun σ H Q => t σ H fun v H' => KD X.K H' → Q v H') :=
  ⟨fun pins s σ H Q I q => thn (h.run pins s σ H _ I q) fun u s' ⟨v, H', I', r, q'⟩ => ⟨v, H', I', r, q' (KD.of I')⟩⟩
theorem PT.kd {e : Expr} {t : TT} (h : PT X e t) : PT X e (fun σ H Q => t σ H fun v H' => KD X.K H' → Q v H') :=
  ⟨fun pins s σ H Q I q => thn (h.run pins s σ H _ I q) fun u s' ⟨H', I', q'⟩ => ⟨H', I', q' (KD.of I')⟩⟩
theorem PA.kd {e : List Expr} {t : TA} (h : PA X e t) : PA X e (fun σ H Q => t σ H fun v H' => KD X.K H' → Q v H') :=
  ⟨fun pos pins s σ H Q I q => thn (h.run pos pins s σ H _ I q) fun u s' ⟨v, H', I', r, q'⟩ => ⟨v, H', I', r, q' (KD.of I')⟩⟩
theorem PE.to {e : Expr} {t t' : TE} (h : PE X e t) (w : ∀ σ H Q, t' σ H Q → t σ H Q) : PE X e t' := ⟨fun pins s σ H Q I q => h.run pins s σ H Q I (w σ H Q q)⟩
theorem PT.to {e : Expr} {t t' : TT} (h : PT X e t) (w : ∀ σ H Q, t' σ H Q → t σ H Q) : PT X e t' := ⟨fun pins s σ H Q I q => h.run pins s σ H Q I (w σ H Q q)⟩
theorem PA.to {e : List Expr} {t t' : TA} (h : PA X e t) (w : ∀ σ H Q, t' σ H Q → t σ H Q) : PA X e t' := ⟨fun pos pins s σ H Q I q => h.run pos pins s σ H Q I (w σ H Q q)⟩
theorem pa_nil' : PA X [] (tDs C .nil) := PA.to pa_nil fun _ _ _ h => tDs_nil h
theorem pa_cons' {e : Expr} {es : List Expr} {a r : Ex} (ha : PE X e (tD C a)) (hr : PA X es (tDs C r)) (hs : starEach (e :: es) X.env = (false, eval e X.env) :: starEach es X.env) : PA X (e :: es) (tDs C (.cons a r)) :=
  PA.to (pa_cons ha hr hs) fun _ _ _ h => tDs_cons h
theorem tD_test {x : Ex} {σ : St} {H : Hp} {Q : Bool → Hp → Prop} (h : tDT C x σ H Q) : tD C x σ H fun v H' => ∃ k, v = .bl k ∧ Q k H' := by
  obtain ⟨ρ, δ, M, S, h⟩ := h
  refine ⟨ρ, δ, M, S, ?_⟩
  cases e : ev C.Γ x ρ δ with
  | stk => rw [e] at h; exact h
  | exc y δ' => rw [e] at h; exact h
  | ok d δ1 =>
    rw [e] at h
    cases d with
    | bl b => exact fun v H' k x dc V => ⟨b, V.rc, h H' k x dc⟩
    | _ => exact h.elim
theorem tD_eq1 {a : Ex} {σ : St} {H : Hp} {R : V → Hp → Prop} (h : tDs C (.cons a .nil) σ H fun vs H' => ∃ x, vs = [x] ∧ R x H') : tD C a σ H R := by
  obtain ⟨ρ, δ, M, S, h⟩ := tDs_cons h
  refine ⟨ρ, δ, M, S, ?_⟩
  cases e : ev C.Γ a ρ δ with
  | stk => rw [e] at h; exact h
  | exc y δ' => rw [e] at h; exact h
  | ok d δ1 =>
    rw [e] at h
    intro v H' k x dc V
    obtain ⟨y, e, q⟩ := tDs_nil (h v H' k x dc V)
    cases e
    exact q
theorem tD_mono {a : Ex} {σ : St} {H : Hp} {R R' : V → Hp → Prop} (h : tD C a σ H R) (w : ∀ v H', R v H' → R' v H') : tD C a σ H R' := by
  obtain ⟨ρ, δ, M, S, h⟩ := h
  refine ⟨ρ, δ, M, S, ?_⟩
  cases e : ev C.Γ a ρ δ with
  | stk => rw [e] at h; exact h
  | exc y δ' => rw [e] at h; exact h
  | ok d δ1 =>
    rw [e] at h
    intro v H' k x dc V
    exact w _ _ (h v H' k x dc V)
theorem tDs_mono {a : Ex} {σ : St} {H : Hp} {R R' : List V → Hp → Prop} (h : tDs C a σ H R) (w : ∀ v H', R v H' → R' v H') : tDs C a σ H R' := by
  obtain ⟨ρ, δ, M, S, h⟩ := h
  refine ⟨ρ, δ, M, S, ?_⟩
  cases e : ev C.Γ a ρ δ with
  | stk => rw [e] at h; exact h
  | exc y δ' => rw [e] at h; exact h
  | ok d δ1 =>
    rw [e] at h
    cases d with
    | tup ds => exact fun v H' k x dc V => w _ _ (h v H' k x dc V)
    | _ => exact h.elim
theorem tD_eq2 {a b : Ex} {σ : St} {H : Hp} {R : V → V → Hp → Prop} (h : tDs C (.cons a (.cons b .nil)) σ H fun vs H' => ∃ x y, vs = [x, y] ∧ R x y H') : tD C a σ H fun x H1 => tD C b σ H1 fun y H2 => R x y H2 :=
  tD_mono (tDs_cons h) fun v H1 h1 => tD_eq1 (tDs_mono h1 fun vs H2 ⟨x, y, e, q⟩ => by cases e; exact ⟨y, rfl, q⟩)

def RpL (k : Nat) (K : PySem.W.Frag) (M : MS) (H : Hp) (ds : List D) (vs : List V) : Prop :=
  if k = 0 then True else if k = 1 then ∀ (i : Nat) d v, ds[i]? = some d → vs[i]? = some v → RpT K M H d v else Rps K M H ds vs
def OpOk (K : PySem.W.Frag) (o : Op) (r : List V → Hp → VK → Prop) : Prop :=
  ∀ (H : Hp) (ds : List D) (vs : List V) (d : D) (Q : VK) (Mc : MS), opv o ds = some d → KD K H → MOk Mc H → Rps K Mc H ds vs →
    (∀ v, (∀ M, MOk M H → RpL o.kind K M H ds vs → Rp K M H d v) → Rp K Mc H d v → (o.fr = true → ∀ es, d ≠ .lst es) → Q v H) →
    (∀ es us p, d = .lst es → H p = none → es.length ≤ sizeLine → (∀ M, MOk M H → RpL o.kind K M H ds vs → Rps K M H es us) → Rps K Mc H es us → Q (.ref p) (upd H p (.lst us))) →
    (∀ es us p, d = .tup es → H p = none → es.length ≤ sizeLine → (∀ M, MOk M H → RpL o.kind K M H ds vs → Rps K M H es us) → Rps K Mc H es us → Q (.ref p) (upd H p (.tup us))) →
    r vs H Q
theorem kind_lv {C : Cz} {M : MS} {o : Op} {x : Ex} {H : Hp} {ds : List D} {vs : List V} (V : Vls C M x H ds vs) (z : (if o.kind = 0 then true else if o.kind = 1 then tpc C.md x else cln C.md x) = true) : RpL o.kind C.K M H ds vs := by
  unfold RpL
  by_cases h0 : o.kind = 0
  · rw [if_pos h0]; trivial
  · rw [if_neg h0] at z ⊢
    by_cases h1 : o.kind = 1
    · rw [if_pos h1] at z ⊢; exact V.tp z
    · rw [if_neg h1] at z ⊢; exact V.cl z
theorem Fresh.up {K : PySem.W.Frag} {M : MS} {H H1 : Hp} {es : List D} {us : List V} {p : Addr} (h0 : H p = none) (hp : H1 p = none) (hl : es.length ≤ sizeLine) (h : Rps K M H1 es us) : Fresh K M H (upd H1 p (.lst us)) (.lst es) (.ref p) := by
  intro es' e
  cases e
  have x : Ext (fun _ => False) H1 (upd H1 p (.lst us)) := Ext.upd hp
  refine ⟨p, us, rfl, h0, upd_same, hl, ?_⟩
  exact Rps.ext x (fun _ z => z.elim) (fun _ _ _ z => z) es us (Rps.free hp es us h)
theorem op_fin {o : Op} {r : List V → Hp → VK → Prop} {args : Ex} {σ : St} {ρ : En} {M : MS} {δ1 : Dice} {H H1 : Hp} {ds : List D} {vs : List V} {d : D} {Q : VK} (ok : OpOk C.K o r) (S1 : Stt C M ρ δ1 σ H1) (k1 : KD C.K H1) (x1 : Ext C.pds H H1) (dc1 : DiceAt C δ1 H1) (V1 : Vls C M args H1 ds vs) (e2 : opv o ds = some d)
    (h : ∀ v H', KD C.K H' → Ext C.pds H H' → DiceAt C δ1 H' → Val C M (.op o args) H H' d v → Q v H') : r vs H1 fun v H2 => KD C.K H2 → Q v H2 := by
  refine ok H1 ds vs d _ C.Mc e2 k1 S1.mokc V1.rc (fun v hv hc hf k2 => ?_) (fun es us p ed hp hl hv hc k2 => ?_) (fun es us p ed hp hl hv hc k2 => ?_)
  · refine h v H1 k1 x1 dc1 ⟨hc, fun z => ?_, fun z => ?_, fun z => ?_⟩
    · exact hv M S1.mok (kind_lv V1 (by simpa only [cln] using z))
    · exact (hv M S1.mok (kind_lv V1 (by simpa only [tpc] using z))).top
    · have z' := z
      simp only [frs, Bool.and_eq_true] at z'
      exact fun es e => absurd e (hf z'.1 es)
  · subst ed
    have x2 : Ext (fun _ => False) H1 (upd H1 p (.lst us)) := Ext.upd hp
    have x3 : Ext C.pds H (upd H1 p (.lst us)) := x1.trans x2.no
    have dc2 : DiceAt C δ1 (upd H1 p (.lst us)) := dc1.keep x2
    have h0 : H p = none := x1.free hp (fun z => by obtain ⟨o, e⟩ := dc1.some_ p z; rw [e] at hp; cases hp)
    refine h (.ref p) _ k2 x3 dc2 ⟨?_, fun z => ?_, fun z => ?_, fun z => ?_⟩
    · exact ⟨p, us, rfl, upd_same, S1.mokc.none hp, hl, Rps.ext x2 (fun _ z => z.elim) (fun _ _ _ z => z) es us hc⟩
    · exact ⟨p, us, rfl, upd_same, S1.mok.none hp, hl, Rps.ext x2 (fun _ z => z.elim) (fun _ _ _ z => z) es us (hv M S1.mok (kind_lv V1 (by simpa only [cln] using z)))⟩
    · exact ⟨p, us, rfl, upd_same, hl, Rps.ext x2 (fun _ z => z.elim) (fun _ _ _ z => z) es us (hv M S1.mok (kind_lv V1 (by simpa only [tpc] using z)))⟩
    · simp only [frs, Bool.and_eq_true] at z
      exact Fresh.up h0 hp hl (hv M S1.mok (kind_lv V1 z.2))
  · subst ed
    have x2 : Ext (fun _ => False) H1 (upd H1 p (.tup us)) := Ext.upd hp
    have x3 : Ext C.pds H (upd H1 p (.tup us)) := x1.trans x2.no
    have dc2 : DiceAt C δ1 (upd H1 p (.tup us)) := dc1.keep x2
    refine h (.ref p) _ k2 x3 dc2 ⟨?_, fun z => ?_, fun z => ?_, fun z => fun es e => nomatch e⟩
    · exact ⟨p, us, rfl, .inl (.inl upd_same), hl, Rps.ext x2 (fun _ z => z.elim) (fun _ _ _ z => z) es us hc⟩
    · exact ⟨p, us, rfl, .inl (.inl upd_same), hl, Rps.ext x2 (fun _ z => z.elim) (fun _ _ _ z => z) es us (hv M S1.mok (kind_lv V1 (by simpa only [cln] using z)))⟩
    · exact ⟨p, us, rfl, .inl (.inl upd_same), hl, Rps.ext x2 (fun _ z => z.elim) (fun _ _ _ z => z) es us (hv M S1.mok (kind_lv V1 (by simpa only [tpc] using z)))⟩
theorem op_red {o : Op} {r : List V → Hp → VK → Prop} {args : Ex} {σ : St} {H : Hp} {Q : VK} (ok : OpOk C.K o r) (h : tD C (.op o args) σ H Q) : tDs C args σ H fun vs H' => r vs H' fun v H2 => KD C.K H2 → Q v H2 := by
  obtain ⟨ρ, δ, M, S, h⟩ := h
  refine ⟨ρ, δ, M, S, ?_⟩
  simp only [ev] at h
  cases e : ev C.Γ args ρ δ with
  | stk => rw [e] at h; exact h
  | exc y δ' => rw [e] at h; exact h
  | ok ds δ1 =>
    rw [e] at h
    simp only [Res.bind] at h
    cases ds with
    | tup ds =>
      simp only at h ⊢
      intro vs H1 k1 x1 dc1 V1
      cases e2 : opv o ds with
      | none => rw [e2] at h; exact h.elim
      | some d =>
        rw [e2] at h
        exact op_fin ok (S.step x1 dc1 k1) k1 x1 dc1 V1 e2 h
    | _ => exact h.elim
end
end DC
set_option Elab.async false
set_option linter.all false
set_option maxRecDepth 100000
set_option maxHeartbeats 1000000
namespace DC
open PySem PySem.Spec L2

theorem szl : sizeLine = 16777216 := by rw [sizeLine_eq]
section
variable {K : PySem.W.Frag} {M : MS} {H : Hp}
theorem Rps.one {a : D} {vs : List V} (h : Rps K M H [a] vs) : ∃ x, vs = [x] ∧ Rp K M H a x := by
  obtain ⟨x, r, rfl, h1, h2⟩ := h
  cases (show r = [] from h2)
  exact ⟨x, rfl, h1⟩
theorem Rps.two {a b : D} {vs : List V} (h : Rps K M H [a, b] vs) : ∃ x y, vs = [x, y] ∧ Rp K M H a x ∧ Rp K M H b y := by
  obtain ⟨x, r, rfl, h1, h2⟩ := h
  obtain ⟨y, rfl, h3⟩ := Rps.one h2
  exact ⟨x, y, rfl, h1, h3⟩
theorem Rps.three {a b c : D} {vs : List V} (h : Rps K M H [a, b, c] vs) : ∃ x y z, vs = [x, y, z] ∧ Rp K M H a x ∧ Rp K M H b y ∧ Rp K M H c z := by
  obtain ⟨x, r, rfl, h1, h2⟩ := h
  obtain ⟨y, z, rfl, h3, h4⟩ := Rps.two h2
  exact ⟨x, y, z, rfl, h1, h3, h4⟩
end
def r2 (r : R2) : List V → Hp → VK → Prop := fun vs H Q => ∃ x y, vs = [x, y] ∧ r x y H Q
def r1 (r : V → Hp → VK → Prop) : List V → Hp → VK → Prop := fun vs H Q => ∃ x, vs = [x] ∧ r x H Q

section
variable {K : PySem.W.Frag} {M : MS} {H : Hp}
theorem map_opt {α β : Type} {f : α → β} {o : Option α} {n : β} (h : o.map f = some n) : ∃ m, o = some m ∧ f m = n := by
  cases o with
  | none => cases h
  | some m => exact ⟨m, rfl, Option.some.inj h⟩
mutual
theorem Rp.dp : ∀ (d : D) (v : V) (n : Nat), d.dep = some n → Rp K M H d v → Dp K H v d.py ∧ d.py.canLay0 = true ∧ d.py.depth = n
  | .non, v, n, e, h => by
    cases (show v = .non from h); cases e
    exact ⟨by rw [D.py]; exact .non, by simp [D.py, PyData.canLay0], by simp [D.py, PyData.depth]⟩
  | .bl b, v, n, e, h => by
    cases (show v = .bl b from h); cases e
    exact ⟨by rw [D.py]; exact .bl b, by simp [D.py, PyData.canLay0], by simp [D.py, PyData.depth]⟩
  | .int b, v, n, e, h => by
    cases (show v = .int b from h); cases e
    exact ⟨by rw [D.py]; exact .int b, by simp [D.py, PyData.canLay0], by simp [D.py, PyData.depth]⟩
  | .str b, v, n, e, h => by
    obtain ⟨rfl, h1, h2⟩ := h; cases e
    refine ⟨by rw [D.py]; exact .str _, ?_, by simp [D.py, PyData.depth]⟩
    simp only [D.py, PyData.canLay0, PyData.strOk]
    simp only [List.all_toArray, List.all_eq_true, decide_eq_true_eq]
    intro c hc
    have := h2 c hc
    omega
  | .lst ds, v, n, e, h => by
    obtain ⟨a, vs, rfl, hr, hn, hl, hs⟩ := h
    obtain ⟨m, e1, e2⟩ := map_opt (show (deps ds).map (· + 1) = some n by simpa only [D.dep] using e)
    obtain ⟨q1, q2, q3⟩ := Rps.dp ds vs m e1 hs
    exact ⟨by rw [D.py]; exact .lst (.inl (.inl hr)) q1, by simpa only [D.py, PyData.canLay0] using q2, by simp only [D.py, PyData.depth, q3]; exact e2⟩
  | .tup ds, v, n, e, h => by
    obtain ⟨a, vs, rfl, hr, hl, hs⟩ := h
    obtain ⟨m, e1, e2⟩ := map_opt (show (deps ds).map (· + 1) = some n by simpa only [D.dep] using e)
    obtain ⟨q1, q2, q3⟩ := Rps.dp ds vs m e1 hs
    exact ⟨by rw [D.py]; exact .tup hr q1, by simpa only [D.py, PyData.canLay0] using q2, by simp only [D.py, PyData.depth, q3]; exact e2⟩
  | .dic ks ds, v, n, e, h => by simp [D.dep] at e
  | .scr ns, v, n, e, h => by simp [D.dep] at e
theorem Rps.dp : ∀ (ds : List D) (vs : List V) (n : Nat), deps ds = some n → Rps K M H ds vs → DpAll K H vs (pys ds) ∧ PyData.canLayAll0 (pys ds) = true ∧ PyData.depthAll (pys ds) = n
  | [], vs, n, e, h => by
    cases (show vs = [] from h); cases e
    exact ⟨by rw [pys]; exact .nil, by simp [pys, PyData.canLayAll0], by simp [pys, PyData.depthAll]⟩
  | d :: ds, vs, n, e, h => by
    obtain ⟨v, r, rfl, h1, h2⟩ := h
    simp only [deps] at e
    cases e1 : d.dep with
    | none => rw [e1] at e; cases e
    | some a =>
      cases e2 : deps ds with
      | none => rw [e1, e2] at e; cases e
      | some b =>
        rw [e1, e2] at e
        have e' : max a b = n := Option.some.inj e
        obtain ⟨p1, p2, p3⟩ := Rp.dp d v a e1 h1
        obtain ⟨q1, q2, q3⟩ := Rps.dp ds r b e2 h2
        exact ⟨by rw [pys]; exact .cons p1 q1, by simp only [pys, PyData.canLayAll0, p2, q2]; rfl, by simp only [pys, PyData.depthAll, p3, q3]; exact e'⟩
end
theorem Rp.shaped {d : D} {v : V} (h : Rp K M H d v) (e : d.shp = true) : Dp K H v d.py ∧ SeqAt.shaped d.py = true := by
  unfold D.shp at e
  cases q : d.dep with
  | none => rw [q] at e; cases e
  | some n =>
    rw [q] at e
    obtain ⟨p1, p2, p3⟩ := Rp.dp d v n q h
    refine ⟨p1, ?_⟩
    unfold SeqAt.shaped
    rw [p2, p3]
    simpa using e
theorem str_beq (x y : List Nat) : ((⟨x.toArray⟩ : Str) == ⟨y.toArray⟩) = (x == y) := by
  by_cases h : x = y
  · subst h; simp
  · have h' : (⟨x.toArray⟩ : Str) ≠ ⟨y.toArray⟩ := fun e => h (by simpa using e)
    rw [beq_eq_false_iff_ne.mpr h, beq_eq_false_iff_ne.mpr h']
mutual
theorem eqv_py : ∀ (d e : D), d.dep.isSome = true → e.dep.isSome = true → PyData.eqv d.py e.py = d.eqv e
  | .lst xs, .lst ys, h1, h2 => by
    simp only [D.py, PyData.eqv, D.eqv]
    exact eqvs_py xs ys (by simpa [D.dep] using h1) (by simpa [D.dep] using h2)
  | .tup xs, .tup ys, h1, h2 => by
    simp only [D.py, PyData.eqv, D.eqv]
    exact eqvs_py xs ys (by simpa [D.dep] using h1) (by simpa [D.dep] using h2)
  | .dic _ _, _, h1, _ => by simp [D.dep] at h1
  | .scr _, _, h1, _ => by simp [D.dep] at h1
  | .str x, .str y, _, _ => by simp only [D.py, PyData.eqv, D.eqv]; exact str_beq x y
  | .non, e, _, h => by cases e <;> first | (simp [D.dep] at h; done) | rfl | simp [D.py, PyData.eqv, D.eqv]
  | .bl _, e, _, h => by cases e <;> first | (simp [D.dep] at h; done) | rfl | simp [D.py, PyData.eqv, D.eqv]
  | .int _, e, _, h => by cases e <;> first | (simp [D.dep] at h; done) | rfl | simp [D.py, PyData.eqv, D.eqv]
  | .str _, .non, _, _ => by simp [D.py, PyData.eqv, D.eqv]
  | .str _, .bl _, _, _ => by simp [D.py, PyData.eqv, D.eqv]
  | .str _, .int _, _, _ => by simp [D.py, PyData.eqv, D.eqv]
  | .str _, .lst _, _, _ => by simp [D.py, PyData.eqv, D.eqv]
  | .str _, .tup _, _, _ => by simp [D.py, PyData.eqv, D.eqv]
  | .str _, .dic _ _, _, h => by simp [D.dep] at h
  | .str _, .scr _, _, h => by simp [D.dep] at h
  | .lst _, .non, _, _ => by simp [D.py, PyData.eqv, D.eqv]
  | .lst _, .bl _, _, _ => by simp [D.py, PyData.eqv, D.eqv]
  | .lst _, .int _, _, _ => by simp [D.py, PyData.eqv, D.eqv]
  | .lst _, .str _, _, _ => by simp [D.py, PyData.eqv, D.eqv]
  | .lst _, .tup _, _, _ => by simp [D.py, PyData.eqv, D.eqv]
  | .lst _, .dic _ _, _, h => by simp [D.dep] at h
  | .lst _, .scr _, _, h => by simp [D.dep] at h
  | .tup _, .non, _, _ => by simp [D.py, PyData.eqv, D.eqv]
  | .tup _, .bl _, _, _ => by simp [D.py, PyData.eqv, D.eqv]
  | .tup _, .int _, _, _ => by simp [D.py, PyData.eqv, D.eqv]
  | .tup _, .str _, _, _ => by simp [D.py, PyData.eqv, D.eqv]
  | .tup _, .lst _, _, _ => by simp [D.py, PyData.eqv, D.eqv]
  | .tup _, .dic _ _, _, h => by simp [D.dep] at h
  | .tup _, .scr _, _, h => by simp [D.dep] at h
theorem eqvs_py : ∀ (xs ys : List D), (deps xs).isSome = true → (deps ys).isSome = true → PyData.eqvAll (pys xs) (pys ys) = eqvs xs ys
  | [], [], _, _ => by simp [pys, PyData.eqvAll, eqvs]
  | [], _ :: _, _, _ => by simp [pys, PyData.eqvAll, eqvs]
  | _ :: _, [], _, _ => by simp [pys, PyData.eqvAll, eqvs]
  | x :: xs, y :: ys, h1, h2 => by
    have a1 : x.dep.isSome = true ∧ (deps xs).isSome = true := by
      simp only [deps] at h1
      cases e1 : x.dep <;> cases e2 : deps xs <;> simp [e1, e2] at h1 ⊢
    have a2 : y.dep.isSome = true ∧ (deps ys).isSome = true := by
      simp only [deps] at h2
      cases e1 : y.dep <;> cases e2 : deps ys <;> simp [e1, e2] at h2 ⊢
    simp only [pys, PyData.eqvAll, eqvs]
    rw [eqv_py x y a1.1 a2.1, eqvs_py xs ys a1.2 a2.2]
end
theorem shp_some {d : D} (h : d.shp = true) : d.dep.isSome = true := by
  unfold D.shp at h
  cases e : d.dep with
  | none => rw [e] at h; cases h
  | some n => rfl
theorem any_py {x : D} (hx : x.dep.isSome = true) : ∀ (ys : List D), (deps ys).isSome = true → ((pys ys).any fun z => PyData.eqv z x.py) = ys.any fun y => y.eqv x
  | [], _ => by simp [pys]
  | y :: ys, h => by
    have a1 : y.dep.isSome = true ∧ (deps ys).isSome = true := by
      simp only [deps] at h
      cases e1 : y.dep <;> cases e2 : deps ys <;> simp [e1, e2] at h ⊢
    simp only [pys, List.any_cons]
    rw [eqv_py y x a1.1 hx, any_py hx ys a1.2]
end

section
variable {K : PySem.W.Frag}
theorem RpL.get {k : Nat} {M : MS} {H : Hp} {ds : List D} {vs : List V} (h : RpL k K M H ds vs) (h0 : k ≠ 0) {i : Nat} {d : D} {v : V} (e1 : ds[i]? = some d) (e2 : vs[i]? = some v) : RpT K M H d v := by
  unfold RpL at h
  rw [if_neg h0] at h
  by_cases h1 : k = 1
  · rw [if_pos h1] at h; exact h i d v e1 e2
  · rw [if_neg h1] at h
    obtain ⟨u, e, q⟩ := h.get e1
    rw [e2] at e; cases e
    exact q.top
theorem ok_add : OpOk K .add (r2 fun x y H Q => (∃ i j, x = .int i ∧ y = .int j ∧ Q (.int (i + j)) H) ∨ (∃ i j, x = .str i ∧ y = .str j ∧ i.length + j.length ≤ sizeLine ∧ Q (.str (i ++ j)) H) ∨ rCat x y H Q ∨ rCatA K x y H Q) := by
  intro H ds vs d Q Mc e kd m h hs hn ht
  match ds, e with
  | [a, b], e =>
    obtain ⟨x, y, rfl, h1, h2⟩ := h.two
    refine ⟨x, y, rfl, ?_⟩
    match a, b, e with
    | .int i, .int j, e =>
      cases e
      cases (show x = .int i from h1); cases (show y = .int j from h2)
      exact .inl ⟨i, j, rfl, rfl, hs _ (fun _ _ _ => rfl) rfl (fun _ _ z => nomatch z)⟩
    | .str i, .str j, e =>
      simp only [opv, dAdd] at e
      split at e
      · rename_i hl
        cases e
        obtain ⟨rfl, l1, c1⟩ := h1
        obtain ⟨rfl, l2, c2⟩ := h2
        have q : ∀ M, Rp K M H (.str (i ++ j)) (.str (⟨i.toArray⟩ ++ ⟨j.toArray⟩)) := fun M => by
          refine ⟨?_, by rw [szl]; simpa using hl, fun c hc => ?_⟩
          · congr 1
            exact TL.ext_tl (by rw [TL.tl_append])
          · rcases List.mem_append.mp hc with z | z
            · exact c1 c z
            · exact c2 c z
        refine .inr (.inl ⟨_, _, rfl, rfl, ?_, hs _ (fun M _ _ => q M) (q _) (fun _ _ z => nomatch z)⟩)
        rw [szl]
        simpa [TL.len_tl, TL.tl] using hl
      · cases e
    | .lst i, .lst j, e =>
      simp only [opv, dAdd] at e
      split at e
      · rename_i hl
        cases e
        obtain ⟨p, us, rfl, hr1, hn1, hl1, hs1⟩ := h1
        obtain ⟨q, ws, rfl, hr2, hn2, hl2, hs2⟩ := h2
        refine .inr (.inr (.inl ⟨p, q, us, ws, rfl, rfl, hr1, hr2, by rw [← hs1.length, ← hs2.length, szl]; exact hl, fun r hr => ?_⟩))
        refine hn (i ++ j) (us ++ ws) r rfl hr (by rw [List.length_append, szl]; exact hl) (fun M _ hv => ?_) (hs1.append hs2)
        obtain ⟨a1, u1, e1, g1, _, k1⟩ := hv.get (by decide) (i := 0) (d := .lst i) (v := .ref p) rfl rfl
        obtain ⟨a2, u2, e2, g2, _, k2⟩ := hv.get (by decide) (i := 1) (d := .lst j) (v := .ref q) rfl rfl
        cases e1; cases e2
        rw [hr1] at g1; cases g1
        rw [hr2] at g2; cases g2
        exact k1.append k2
      · cases e
    | .tup i, .tup j, e =>
      simp only [opv, dAdd] at e
      split at e
      · rename_i hl
        cases e
        obtain ⟨p, us, rfl, hr1, hl1, hs1⟩ := h1
        obtain ⟨q, ws, rfl, hr2, hl2, hs2⟩ := h2
        have hl' : (i ++ j).length ≤ sizeLine := by rw [List.length_append, szl]; exact hl
        have both : ∀ M, RpL (Op.add).kind K M H [.tup i, .tup j] [.ref p, .ref q] → Rps K M H (i ++ j) (us ++ ws) := fun M hv => by
          obtain ⟨a1, u1, e1, g1, _, k1⟩ := hv.get (by decide) (i := 0) (d := .tup i) (v := .ref p) rfl rfl
          obtain ⟨a2, u2, e2, g2, _, k2⟩ := hv.get (by decide) (i := 1) (d := .tup j) (v := .ref q) rfl rfl
          cases e1; cases e2
          rw [kd.tup hr1 g1, kd.tup hr2 g2]
          exact k1.append k2
        refine .inr (.inr (.inr ⟨p, q, us, ws, rfl, rfl, hr1, hr2, by rw [← hs1.length, ← hs2.length, szl]; exact hl, fun hu => ?_, fun hu hw => ?_, fun hu hw r hr => ?_⟩))
        · subst hu
          refine hs _ (fun M _ hv => ⟨q, ws, rfl, hr2, hl', both M hv⟩) ⟨q, ws, rfl, hr2, hl', hs1.append hs2⟩ (fun _ _ z => nomatch z)
        · subst hw
          refine hs _ (fun M _ hv => ⟨p, us, rfl, hr1, hl', ?_⟩) ⟨p, us, rfl, hr1, hl', ?_⟩ (fun _ _ z => nomatch z)
          · have := both M hv; rwa [List.append_nil] at this
          · have := hs1.append hs2; rwa [List.append_nil] at this
        · exact ht (i ++ j) (us ++ ws) r rfl hr hl' (fun M _ hv => both M hv) (hs1.append hs2)
      · cases e
theorem ok_int2 {o : Op} {g : Int → Int → V} {f : Int → Int → D} {Cn : Int → Int → Prop} (hf : ∀ i j M H, Rp K M H (f i j) (g i j)) (hl : ∀ i j es, f i j ≠ .lst es)
    (ho : ∀ ds d, opv o ds = some d → ∃ i j, ds = [.int i, .int j] ∧ Cn i j ∧ d = f i j) : OpOk K o (r2 (rI Cn g)) := by
  intro H ds vs d Q Mc e kd m h hs hn ht
  obtain ⟨i, j, rfl, hc, rfl⟩ := ho ds d e
  obtain ⟨x, y, rfl, h1, h2⟩ := h.two
  cases (show x = .int i from h1); cases (show y = .int j from h2)
  exact ⟨_, _, rfl, i, j, rfl, rfl, hc, hs _ (fun M _ _ => hf i j M H) (hf i j Mc H) (fun _ es => hl i j es)⟩

theorem OpOk.to {o : Op} {r r' : List V → Hp → VK → Prop} (h : OpOk K o r) (w : ∀ vs H Q, r vs H Q → r' vs H Q) : OpOk K o r' := fun H ds vs d Q Mc e kd m hr a b c => w vs H Q (h H ds vs d Q Mc e kd m hr a b c)
theorem r2_to {r r' : R2} (w : ∀ x y H Q, r x y H Q → r' x y H Q) : ∀ vs H Q, r2 r vs H Q → r2 r' vs H Q := fun vs H Q ⟨x, y, e, q⟩ => ⟨x, y, e, w x y H Q q⟩
theorem rI_0 {g : Int → Int → V} {Cn : Int → Int → Prop} : ∀ x y H Q, rI Cn g x y H Q → rI0 g x y H Q := fun _ _ _ _ ⟨i, j, e1, e2, _, q⟩ => ⟨i, j, e1, e2, q⟩
theorem ok_sub : OpOk K .sub (r2 (rI0 fun i j => .int (i - j))) :=
  (ok_int2 (f := fun i j => .int (i - j)) (Cn := fun _ _ => True) (fun _ _ _ _ => rfl) (fun _ _ _ z => nomatch z) (fun ds d e => by
    match ds, e with
    | [.int i, .int j], e => cases e; exact ⟨i, j, rfl, trivial, rfl⟩)).to (r2_to rI_0)
theorem ok_fdiv : OpOk K .fdiv (r2 (rI CDivW fun i j => .int (i / j))) :=
  ok_int2 (f := fun i j => .int (i / j)) (fun _ _ _ _ => rfl) (fun _ _ _ z => nomatch z) (fun ds d e => by
    match ds, e with
    | [.int i, .int j], e =>
      simp only [opv] at e
      split at e
      · rename_i hc; cases e; exact ⟨i, j, rfl, hc, rfl⟩
      · cases e)
theorem ok_mod : OpOk K .mod (r2 (rI (fun _ j => 0 < j) fun i j => .int (i % j))) :=
  ok_int2 (f := fun i j => .int (i % j)) (fun _ _ _ _ => rfl) (fun _ _ _ z => nomatch z) (fun ds d e => by
    match ds, e with
    | [.int i, .int j], e =>
      simp only [opv] at e
      split at e
      · rename_i hc; cases e; exact ⟨i, j, rfl, hc, rfl⟩
      · cases e)
theorem two64 : (2 : Int) ^ 64 = 18446744073709551616 := by decide
theorem two63 : (2 : Int) ^ 63 = 9223372036854775808 := by decide
theorem two62 : (2 : Int) ^ 62 = 4611686018427387904 := by decide
theorem Rps.rep {M : MS} {H : Hp} {ds : List D} {vs : List V} (h : Rps K M H ds vs) : ∀ k : Nat, Rps K M H (List.replicate k ds).flatten (List.replicate k vs).flatten
  | 0 => rfl
  | k + 1 => by
    rw [List.replicate_succ, List.replicate_succ, List.flatten_cons, List.flatten_cons]
    exact h.append (h.rep k)
theorem ok_mul : OpOk K .mul (r2 fun x y H Q => (rI CMul (fun i j => .int (i * j)) x y H Q ∨ rRep x y H Q) ∨ rI CMulW (fun i j => .int (i * j)) x y H Q) := by
  intro H ds vs d Q Mc e kd m h hs hn ht
  match ds, e with
  | [a, b], e =>
    obtain ⟨x, y, rfl, h1, h2⟩ := h.two
    refine ⟨x, y, rfl, ?_⟩
    match a, b, e with
    | .int i, .int j, e =>
      simp only [opv, dMul] at e
      split at e
      · rename_i hc
        cases e
        cases (show x = .int i from h1); cases (show y = .int j from h2)
        simp only [Bool.or_eq_true, decide_eq_true_eq] at hc
        rcases hc with hc | hc
        · refine .inl (.inl ⟨i, j, rfl, rfl, ?_, hs _ (fun _ _ _ => rfl) rfl (fun _ _ z => nomatch z)⟩)
          unfold CMul
          rw [two64]
          rcases hc with hc | hc
          · left; omega
          · right; omega
        · exact .inr ⟨i, j, rfl, rfl, hc, hs _ (fun _ _ _ => rfl) rfl (fun _ _ z => nomatch z)⟩
      · cases e
    | .lst i, .int j, e =>
      simp only [opv, dMul] at e
      split at e
      · rename_i hc
        cases e
        obtain ⟨p, us, rfl, hr1, hn1, hl1, hs1⟩ := h1
        cases (show y = .int j from h2)
        refine .inl (.inr ⟨p, j, us, rfl, rfl, hr1, by rw [two63]; omega, by rw [two63]; omega, by rw [← hs1.length, szl]; exact hc.1, fun r hr => ?_⟩)
        refine hn _ _ r rfl hr ?_ (fun M _ hv => ?_) (hs1.rep _)
        · rw [List.length_flatten, List.map_replicate, List.sum_replicate_nat, szl, Nat.mul_comm]; exact hc.1
        · obtain ⟨a1, u1, e1, g1, _, k1⟩ := hv.get (by decide) (i := 0) (d := .lst i) (v := .ref p) rfl rfl
          cases e1
          rw [hr1] at g1; cases g1
          exact k1.rep _
      · cases e
theorem ok_pow : OpOk K .pow (r2 (rI CPow fun i j => .int (i ^ j.toNat))) :=
  ok_int2 (f := fun i j => .int (i ^ j.toNat)) (fun _ _ _ _ => rfl) (fun _ _ _ z => nomatch z) (fun ds d e => by
    match ds, e with
    | [.int i, .int j], e =>
      simp only [opv] at e
      split at e
      · rename_i hc; cases e; exact ⟨i, j, rfl, ⟨hc.1, hc.2.1, by have := hc.2.2; omega⟩, rfl⟩
      · cases e)
theorem ok_neg : OpOk K .neg (r1 (rU fun i => .int (-i))) := by
  intro H ds vs d Q Mc e kd m h hs hn ht
  match ds, e with
  | [.int a], e =>
    cases e
    obtain ⟨x, rfl, h1⟩ := h.one
    cases (show x = .int a from h1)
    exact ⟨_, rfl, a, rfl, hs _ (fun _ _ _ => rfl) rfl (fun _ _ z => nomatch z)⟩
theorem scr_dp {H : Hp} (ns : List Int) : DpAll K H (ns.map V.int) (ns.map PyData.int) ∧ PyData.canLayAll0 (ns.map PyData.int) = true ∧ PyData.depthAll (ns.map PyData.int) = 0 := by
  induction ns with
  | nil => exact ⟨.nil, by simp [PyData.canLayAll0], by simp [PyData.depthAll]⟩
  | cons a r ih => exact ⟨.cons (.int a) ih.1, by simp [PyData.canLayAll0, PyData.canLay0, ih.2.1], by simp [PyData.depthAll, PyData.depth, ih.2.2]⟩
theorem ok_eq : OpOk K .eq (r2 (rEqD K)) := by
  intro H ds vs d Q Mc e kd m h hs hn ht
  match ds, e with
  | [a, b], e =>
    simp only [opv] at e
    split at e
    · rename_i hc
      simp only [Bool.and_eq_true] at hc
      cases e
      obtain ⟨x, y, rfl, h1, h2⟩ := h.two
      obtain ⟨p1, p2⟩ := h1.shaped hc.1
      obtain ⟨q1, q2⟩ := h2.shaped hc.2
      refine ⟨x, y, rfl, _, _, p1, q1, p2, q2, ?_⟩
      rw [eqv_py a b (shp_some hc.1) (shp_some hc.2)]
      exact hs _ (fun _ _ _ => rfl) rfl (fun _ _ z => nomatch z)
    · obtain ⟨x, y, rfl, h1, h2⟩ := h.two
      match a, b, e with
      | .scr ns, .lst [], e =>
        cases e
        obtain ⟨p, rfl, hr, _, hl⟩ := h1
        obtain ⟨q1, q2⟩ := h2.shaped rfl
        obtain ⟨ha, hl0, hd⟩ := scr_dp (K := K) (H := H) ns
        refine ⟨_, _, rfl, _, _, .lst hr ha, q1, ?_, q2, ?_⟩
        · unfold SeqAt.shaped
          simp [PyData.canLay0, PyData.depth, hl0, hd]
        · have he : PyData.eqv (.list (ns.map .int)) (D.lst []).py = ns.isEmpty := by
            cases ns <;> simp [D.py, pys, PyData.eqv, PyData.eqvAll]
          rw [he]
          exact hs _ (fun _ _ _ => rfl) rfl (fun _ _ z => nomatch z)
theorem ok_ne : OpOk K .ne (r2 (rNeD K)) := by
  intro H ds vs d Q Mc e kd m h hs hn ht
  match ds, e with
  | [a, b], e =>
    simp only [opv] at e
    split at e
    · rename_i hc
      simp only [Bool.and_eq_true] at hc
      cases e
      obtain ⟨x, y, rfl, h1, h2⟩ := h.two
      obtain ⟨p1, p2⟩ := h1.shaped hc.1
      obtain ⟨q1, q2⟩ := h2.shaped hc.2
      refine ⟨x, y, rfl, _, _, p1, q1, p2, q2, ?_⟩
      rw [eqv_py a b (shp_some hc.1) (shp_some hc.2)]
      exact hs _ (fun _ _ _ => rfl) rfl (fun _ _ z => nomatch z)
    · cases e
def rOrd (p : Int → Int → Bool) (q : List Nat → List Nat → Bool) : R2 := fun x y H Q => rI0 (fun i j => .bl (p i j)) x y H Q ∨ ∃ i j : Str, x = .str i ∧ y = .str j ∧ Q (.bl (q i.cps.toList j.cps.toList)) H
theorem ok_ord {o : Op} {p : Int → Int → Bool} {q : List Nat → List Nat → Bool}
    (ho : ∀ ds d, opv o ds = some d → (∃ i j, ds = [.int i, .int j] ∧ d = .bl (p i j)) ∨ ∃ i j, ds = [.str i, .str j] ∧ d = .bl (q i j)) : OpOk K o (r2 (rOrd p q)) := by
  intro H ds vs d Q Mc e kd m h hs hn ht
  rcases ho ds d e with ⟨i, j, rfl, rfl⟩ | ⟨i, j, rfl, rfl⟩
  · obtain ⟨x, y, rfl, h1, h2⟩ := h.two
    cases (show x = .int i from h1); cases (show y = .int j from h2)
    exact ⟨_, _, rfl, .inl ⟨i, j, rfl, rfl, hs _ (fun _ _ _ => rfl) rfl (fun _ _ z => nomatch z)⟩⟩
  · obtain ⟨x, y, rfl, h1, h2⟩ := h.two
    obtain ⟨rfl, _⟩ := h1
    obtain ⟨rfl, _⟩ := h2
    exact ⟨_, _, rfl, .inr ⟨_, _, rfl, rfl, hs _ (fun _ _ _ => rfl) rfl (fun _ _ z => nomatch z)⟩⟩
theorem dLt_some {a b : D} {k : Bool} (h : dLt a b = some k) : (∃ i j, a = .int i ∧ b = .int j ∧ k = decide (i < j)) ∨ ∃ i j, a = .str i ∧ b = .str j ∧ k = decide (i < j) := by
  match a, b, h with
  | .int i, .int j, h => cases h; exact .inl ⟨i, j, rfl, rfl, rfl⟩
  | .str i, .str j, h => cases h; exact .inr ⟨i, j, rfl, rfl, rfl⟩
theorem ok_lt : OpOk K .lt (r2 (rOrd (fun i j => decide (i < j)) fun i j => decide (i < j))) := ok_ord fun ds d e => by
  match ds, e with
  | [a, b], e =>
    obtain ⟨k, e1, rfl⟩ := map_opt (show (dLt a b).map D.bl = some d from e)
    rcases dLt_some e1 with ⟨i, j, rfl, rfl, rfl⟩ | ⟨i, j, rfl, rfl, rfl⟩
    · exact .inl ⟨i, j, rfl, rfl⟩
    · exact .inr ⟨i, j, rfl, rfl⟩
theorem ok_gt : OpOk K .gt (r2 (rOrd (fun i j => decide (j < i)) fun i j => decide (j < i))) := ok_ord fun ds d e => by
  match ds, e with
  | [a, b], e =>
    obtain ⟨k, e1, rfl⟩ := map_opt (show (dLt b a).map D.bl = some d from e)
    rcases dLt_some e1 with ⟨i, j, rfl, rfl, rfl⟩ | ⟨i, j, rfl, rfl, rfl⟩
    · exact .inl ⟨j, i, rfl, rfl⟩
    · exact .inr ⟨j, i, rfl, rfl⟩
theorem not_lt_dec (i j : Int) : (!decide (j < i)) = decide (i ≤ j) := by
  by_cases h : j < i
  · rw [decide_eq_true h, decide_eq_false (by omega)]; rfl
  · rw [decide_eq_false h, decide_eq_true (by omega)]; rfl
theorem ok_le : OpOk K .le (r2 (rOrd (fun i j => decide (i ≤ j)) fun i j => !decide (j < i))) := ok_ord fun ds d e => by
  match ds, e with
  | [a, b], e =>
    obtain ⟨k, e1, rfl⟩ := map_opt (show (dLt b a).map (fun x => D.bl (!x)) = some d from e)
    rcases dLt_some e1 with ⟨i, j, rfl, rfl, rfl⟩ | ⟨i, j, rfl, rfl, rfl⟩
    · exact .inl ⟨j, i, rfl, by rw [not_lt_dec]⟩
    · exact .inr ⟨j, i, rfl, rfl⟩
theorem ok_ge : OpOk K .ge (r2 (rOrd (fun i j => decide (j ≤ i)) fun i j => !decide (i < j))) := ok_ord fun ds d e => by
  match ds, e with
  | [a, b], e =>
    obtain ⟨k, e1, rfl⟩ := map_opt (show (dLt a b).map (fun x => D.bl (!x)) = some d from e)
    rcases dLt_some e1 with ⟨i, j, rfl, rfl, rfl⟩ | ⟨i, j, rfl, rfl, rfl⟩
    · exact .inl ⟨i, j, rfl, by rw [not_lt_dec]⟩
    · exact .inr ⟨i, j, rfl, rfl⟩
theorem Rp.non_iff {M : MS} {H : Hp} {d : D} {v : V} (h : Rp K M H d v) : decide (v = .non) = d.isNon := by
  cases d with
  | non => cases (show v = .non from h); rfl
  | bl _ => cases (show v = .bl _ from h); rfl
  | int _ => cases (show v = .int _ from h); rfl
  | str _ => obtain ⟨rfl, _⟩ := h; rfl
  | lst _ => obtain ⟨a, _, rfl, _⟩ := h; rfl
  | tup _ => obtain ⟨a, _, rfl, _⟩ := h; rfl
  | dic _ _ => obtain ⟨a, _, rfl, _⟩ := h; rfl
  | scr _ => obtain ⟨a, rfl, _⟩ := h; rfl
theorem ok_isn : OpOk K .isn (r2 fun x y H Q => y = .non ∧ Q (.bl (decide (x = .non))) H) := by
  intro H ds vs d Q Mc e kd m h hs hn ht
  match ds, e with
  | [a, .non], e =>
    cases e
    obtain ⟨x, y, rfl, h1, h2⟩ := h.two
    refine ⟨x, y, rfl, h2, ?_⟩
    rw [h1.non_iff]
    exact hs _ (fun _ _ _ => rfl) rfl (fun _ _ z => nomatch z)
theorem ok_notn : OpOk K .notn (r2 fun x y H Q => y = .non ∧ Q (.bl (!decide (x = .non))) H) := by
  intro H ds vs d Q Mc e kd m h hs hn ht
  match ds, e with
  | [a, .non], e =>
    cases e
    obtain ⟨x, y, rfl, h1, h2⟩ := h.two
    refine ⟨x, y, rfl, h2, ?_⟩
    rw [h1.non_iff]
    exact hs _ (fun _ _ _ => rfl) rfl (fun _ _ z => nomatch z)
theorem scl_flat {M : MS} {H : Hp} {d : D} {v : V} (h : Rp K M H d v) (s : d.scl = true) : flatV v = true := by
  cases d with
  | non => cases (show v = .non from h); rfl
  | bl _ => cases (show v = .bl _ from h); rfl
  | int _ => cases (show v = .int _ from h); rfl
  | str _ => obtain ⟨rfl, _⟩ := h; rfl
  | _ => cases s
theorem scl_eq {M : MS} {H : Hp} {d e : D} {v u : V} (h : Rp K M H d v) (s : d.scl = true) (h' : Rp K M H e u) (s' : e.scl = true) : eqV v u = d.eqv e := by
  cases d with
  | non => cases (show v = .non from h); cases e <;> first | (cases s'; done) | (first | cases (show u = .non from h') | cases (show u = .bl _ from h') | cases (show u = .int _ from h') | obtain ⟨rfl, _⟩ := h') <;> simp [eqV, D.eqv]
  | bl _ => cases (show v = .bl _ from h); cases e <;> first | (cases s'; done) | (first | cases (show u = .non from h') | cases (show u = .bl _ from h') | cases (show u = .int _ from h') | obtain ⟨rfl, _⟩ := h') <;> simp [eqV, D.eqv]
  | int _ => cases (show v = .int _ from h); cases e <;> first | (cases s'; done) | (first | cases (show u = .non from h') | cases (show u = .bl _ from h') | cases (show u = .int _ from h') | obtain ⟨rfl, _⟩ := h') <;> simp [eqV, D.eqv]
  | str _ => obtain ⟨rfl, _⟩ := h; cases e <;> first | (cases s'; done) | (first | cases (show u = .non from h') | cases (show u = .bl _ from h') | cases (show u = .int _ from h') | obtain ⟨rfl, _⟩ := h') <;> simp [eqV, D.eqv, str_beq]
  | _ => cases s
theorem scl_any {M : MS} {H : Hp} {d : D} {v : V} (h : Rp K M H d v) (s : d.scl = true) : ∀ {ds : List D} {vs : List V}, Rps K M H ds vs → ds.all D.scl = true → vs.all flatV = true ∧ inV v vs = ds.any fun y => y.eqv d
  | [], vs, r, _ => by cases (show vs = [] from r); exact ⟨rfl, rfl⟩
  | e :: ds, vs, r, f => by
    obtain ⟨u, us, rfl, r1, r2⟩ := r
    have f' : e.scl = true ∧ ds.all D.scl = true := by simpa using f
    obtain ⟨i1, i2⟩ := scl_any h s r2 f'.2
    refine ⟨by simp [scl_flat r1 f'.1, i1], ?_⟩
    show (eqV u v || inV v us) = _
    rw [i2, scl_eq r1 f'.1 h s]
    rfl
def rIns (K : PySem.W.Frag) (neg : Bool) : R2 := fun x y H Q => (∃ d ds, Dp K H x d ∧ Dp K H y (.list ds) ∧ SeqAt.shaped d = true ∧ SeqAt.shaped (.list ds) = true ∧ Q (.bl (if neg then !ds.any fun z => PyData.eqv z d else ds.any fun z => PyData.eqv z d)) H) ∨
  rIn K neg x y H Q ∨ (∃ (c : Nat) (z : Str), x = .str ⟨#[c]⟩ ∧ y = .str z ∧ Q (.bl (if neg then !decide (c ∈ z.cps.toList) else decide (c ∈ z.cps.toList))) H) ∨
  ∃ i j : Str, x = .str i ∧ y = .str j ∧ Q (.bl (if neg then !(!(Builtin.Str.occurrences j i 0 j.length 1).isEmpty) else !(Builtin.Str.occurrences j i 0 j.length 1).isEmpty)) H
theorem split_S {a b : List Nat} (hb : b ≠ []) (hk : ∀ c ∈ b, c < 128) : Txt.split ⟨a.toArray⟩ ⟨b.toArray⟩ = (TL.spl b 0 [] a).map fun s => (⟨s.toArray⟩ : Str) := by
  apply TL.map_tl_inj
  rw [TL.split_spl _ _ (by simpa [TL.tl] using hb) (TL.kind_ok ?_), List.map_map]
  · have : (TL.tl ∘ fun s : List Nat => (⟨s.toArray⟩ : Str)) = id := by funext s; simp [TL.tl]
    rw [this, List.map_id]
  · simp only [List.all_toArray, List.all_eq_true, decide_eq_true_eq]
    intro z hz
    have := hk z hz
    omega
theorem kind_S {a b : List Nat} (hk : ∀ c ∈ b, c < 128) : ¬ Builtin.Str.strKind (⟨a.toArray⟩ : Str) < Builtin.Str.strKind ⟨b.toArray⟩ := TL.kind_ok (by
  simp only [List.all_toArray, List.all_eq_true, decide_eq_true_eq]
  intro z hz
  have := hk z hz
  omega)
theorem ok_ins {neg : Bool} {o : Op} (ho : ∀ ds d, opv o ds = some d → ∃ a b k, ds = [a, b] ∧ dIn a b = some k ∧ d = .bl (if neg then !k else k)) : OpOk K o (r2 (rIns K neg)) := by
  intro H ds vs d Q Mc e kd m h hs hn ht
  obtain ⟨a, b, k, rfl, e1, rfl⟩ := ho ds d e
  obtain ⟨x, y, rfl, h1, h2⟩ := h.two
  have fin : Q (.bl (if neg then !k else k)) H := hs _ (fun _ _ _ => rfl) rfl (fun _ _ z => nomatch z)
  refine ⟨x, y, rfl, ?_⟩
  have lst : ∀ ys, b = .lst ys → (if a.shp && (D.lst ys).shp then some (ys.any fun y => y.eqv a) else none) = some k → rIns K neg x y H Q := fun ys eb e9 => by
    subst eb
    split at e9
    · rename_i hc
      simp only [Bool.and_eq_true] at hc
      cases e9
      obtain ⟨p1, p2⟩ := h1.shaped hc.1
      obtain ⟨q1, q2⟩ := h2.shaped hc.2
      rw [D.py] at q1 q2
      refine .inl ⟨_, _, p1, q1, p2, q2, ?_⟩
      rw [any_py (shp_some hc.1) ys (by have := shp_some hc.2; simpa [D.dep] using this)]
      exact fin
    · cases e9
  have tup : ∀ ys, b = .tup ys → (if a.scl && ys.all D.scl then some (ys.any fun y => y.eqv a) else none) = some k → rIns K neg x y H Q := fun ys eb e9 => by
    subst eb
    split at e9
    · rename_i hc
      simp only [Bool.and_eq_true] at hc
      cases e9
      obtain ⟨p, us, rfl, hr, hl, hs'⟩ := h2
      obtain ⟨f1, f2⟩ := scl_any h1 hc.1 hs' hc.2
      refine .inr (.inl ⟨p, us, rfl, .inr hr, scl_flat h1 hc.1, f1, ?_⟩)
      rw [f2]
      exact fin
    · cases e9
  match a, b, e1 with
  | _, .lst ys, e1 => exact lst ys rfl e1
  | _, .tup ys, e1 => exact tup ys rfl e1
  | .str [c], .str z, e1 =>
    cases e1
    obtain ⟨rfl, _⟩ := h1
    obtain ⟨rfl, _⟩ := h2
    exact .inr (.inr (.inl ⟨c, _, rfl, rfl, fin⟩))
  | .str (c :: c2 :: r), .str z, e1 =>
    cases e1
    obtain ⟨rfl, _, hb⟩ := h1
    obtain ⟨rfl, _⟩ := h2
    refine .inr (.inr (.inr ⟨_, _, rfl, rfl, ?_⟩))
    rw [in_split _ _ (by simp [TL.len_tl, TL.tl]) (kind_S hb), split_S (by simp) hb, List.length_map]
    exact fin
theorem ok_isin : OpOk K .isin (r2 (rIns K false)) := ok_ins fun ds d e => by
  match ds, e with
  | [a, b], e =>
    obtain ⟨k, e1, rfl⟩ := map_opt (show (dIn a b).map D.bl = some d from e)
    exact ⟨a, b, k, rfl, e1, rfl⟩
theorem ok_notin : OpOk K .notin (r2 (rIns K true)) := ok_ins fun ds d e => by
  match ds, e with
  | [a, b], e =>
    obtain ⟨k, e1, rfl⟩ := map_opt (show (dIn a b).map (fun x => D.bl (!x)) = some d from e)
    exact ⟨a, b, k, rfl, e1, rfl⟩
theorem Rps.atI {M : MS} {H : Hp} {ds : List D} {vs : List V} {i : Int} {d : D} (h : Rps K M H ds vs) (e : L2.atI ds i = some d) : ∃ v, L2.atI vs i = some v ∧ Rp K M H d v := by
  unfold L2.atI at e ⊢
  rw [← h.length]
  cases q : ixN ds.length i with
  | none => rw [q] at e; cases e
  | some j =>
    rw [q] at e
    exact h.get (i := j) e
theorem ok_idx : OpOk K .idx (r2 (rIx K)) := by
  intro H ds vs d Q Mc e kd m h hs hn ht
  match ds, e with
  | [a, b], e =>
    obtain ⟨x, y, rfl, h1, h2⟩ := h.two
    refine ⟨x, y, rfl, ?_⟩
    match a, b, e with
    | .lst xs, .int i, e =>
      obtain ⟨p, us, rfl, hr, hn', hl, hs'⟩ := h1
      cases (show y = .int i from h2)
      obtain ⟨v, e1, q⟩ := hs'.atI (show L2.atI xs i = some d from e)
      refine .inl ⟨p, us, i, v, rfl, rfl, .inl (.inl hr), e1, hs v (fun M _ hv => ?_) q (fun z => nomatch z)⟩
      obtain ⟨a1, u1, e2, g1, _, k1⟩ := hv.get (by decide) (i := 0) (d := .lst xs) (v := .ref p) rfl rfl
      cases e2
      rw [hr] at g1; cases g1
      obtain ⟨v', e3, q'⟩ := k1.atI (show L2.atI xs i = some d from e)
      rw [e1] at e3; cases e3
      exact q'
    | .tup xs, .int i, e =>
      obtain ⟨p, us, rfl, hr, hl, hs'⟩ := h1
      cases (show y = .int i from h2)
      obtain ⟨v, e1, q⟩ := hs'.atI (show L2.atI xs i = some d from e)
      refine .inr (.inl ⟨p, us, i, v, rfl, rfl, hr, e1, hs v (fun M _ hv => ?_) q (fun z => nomatch z)⟩)
      obtain ⟨a1, u1, e2, g1, _, k1⟩ := hv.get (by decide) (i := 0) (d := .tup xs) (v := .ref p) rfl rfl
      cases e2
      cases kd.tup hr g1
      obtain ⟨v', e3, q'⟩ := k1.atI (show L2.atI xs i = some d from e)
      rw [e1] at e3; cases e3
      exact q'
    | .str xs, .int i, e =>
      obtain ⟨rfl, hl, hc⟩ := h1
      cases (show y = .int i from h2)
      obtain ⟨c, e1, rfl⟩ := map_opt (show (L2.atI xs i).map (fun c => D.str [c]) = some d from e)
      have hm : c ∈ xs := by
        obtain ⟨j, _, g, _⟩ := atI_get e1
        exact List.mem_of_getElem? g
      have q : ∀ M, Rp K M H (.str [c]) (.str ⟨#[c]⟩) := fun M => ⟨rfl, by rw [szl]; show 1 ≤ 16777216; decide, fun c' z => by
        have : c' = c := by simpa using z
        rw [this]; exact hc c hm⟩
      exact .inr (.inr ⟨_, i, c, rfl, rfl, by simpa [TL.len_tl, TL.tl] using hl, e1, hs _ (fun M _ _ => q M) (q _) (fun z => nomatch z)⟩)
    | .scr xs, .int i, e =>
      obtain ⟨p, rfl, hr, _⟩ := h1
      cases (show y = .int i from h2)
      obtain ⟨c, e1, rfl⟩ := map_opt (show (L2.atI xs i).map D.int = some d from e)
      refine .inl ⟨p, _, i, .int c, rfl, rfl, hr, ?_, hs _ (fun _ _ _ => rfl) rfl (fun _ _ z => nomatch z)⟩
      unfold L2.atI at e1 ⊢
      rw [List.length_map]
      cases q : ixN xs.length i with
      | none => rw [q] at e1; cases e1
      | some j =>
        rw [q] at e1
        show (xs.map V.int)[j]? = _
        rw [List.getElem?_map, show xs[j]? = some c from e1]; rfl

theorem cutV_eq (xs : List V) (lo hi : Option Int) : cutV xs lo hi = cutD xs lo hi := rfl
theorem Rps.cut {M : MS} {H : Hp} {ds : List D} {vs : List V} (h : Rps K M H ds vs) (lo hi : Option Int) : Rps K M H (cutD ds lo hi) (cutV vs lo hi) := by
  unfold cutD cutV
  rw [← h.length]
  exact (h.drop _).take _
theorem cutD_len {α : Type} (xs : List α) (lo hi : Option Int) : (cutD xs lo hi).length ≤ xs.length := by
  unfold cutD
  rw [List.length_take, List.length_drop]
  omega
def rSlA (K : PySem.W.Frag) : V → Option Int → Option Int → Hp → VK → Prop := fun x lo hi H Q => rSlL K x lo hi H Q ∨ rSlS x lo hi H Q ∨ L2.rSlA K x lo hi H Q
def rSlc (K : PySem.W.Frag) (lo hi : Bool) : List V → Hp → VK → Prop := fun vs H Q => match lo, hi with
  | false, false => ∃ x, vs = [x] ∧ rSlA K x none none H Q
  | true, false => ∃ x i, vs = [x, .int i] ∧ rSlA K x (some i) none H Q
  | false, true => ∃ x j, vs = [x, .int j] ∧ rSlA K x none (some j) H Q
  | true, true => ∃ x i j, vs = [x, .int i, .int j] ∧ rSlA K x (some i) (some j) H Q
theorem slc_core {lo hi : Option Int} {H : Hp} {a d : D} {x : V} {Q : VK} {Mc : MS} {ds : List D} {vs : List V} {o : Op} (hk : o.kind = 1) (e : dSlc a lo hi = some d) (h1 : Rp K Mc H a x) (e0 : ds[0]? = some a) (v0 : vs[0]? = some x)
    (hs : ∀ v, (∀ M, MOk M H → RpL o.kind K M H ds vs → Rp K M H d v) → Rp K Mc H d v → (o.fr = true → ∀ es, d ≠ .lst es) → Q v H)
    (hn : ∀ es us p, d = .lst es → H p = none → es.length ≤ sizeLine → (∀ M, MOk M H → RpL o.kind K M H ds vs → Rps K M H es us) → Rps K Mc H es us → Q (.ref p) (upd H p (.lst us)))
    (kd : KD K H) (ht : ∀ es us p, d = .tup es → H p = none → es.length ≤ sizeLine → (∀ M, MOk M H → RpL o.kind K M H ds vs → Rps K M H es us) → Rps K Mc H es us → Q (.ref p) (upd H p (.tup us))) : rSlA K x lo hi H Q := by
  match a, e with
  | .lst xs, e =>
    cases e
    obtain ⟨p, us, rfl, hr, hn', hl, hs'⟩ := h1
    refine .inl ⟨p, us, rfl, .inl (.inl hr), fun q hq => hn _ _ q rfl hq (Nat.le_trans (cutD_len _ _ _) hl) (fun M _ hv => ?_) (hs'.cut _ _)⟩
    obtain ⟨a1, u1, e2, g1, _, k1⟩ := hv.get (by rw [hk]; decide) e0 v0
    cases e2
    rw [hr] at g1; cases g1
    exact k1.cut _ _
  | .str xs, e =>
    cases e
    obtain ⟨rfl, hl, hc⟩ := h1
    have q : ∀ M, Rp K M H (.str (cutD xs lo hi)) (.str (cutS ⟨xs.toArray⟩ lo hi)) := fun M => by
      refine ⟨?_, Nat.le_trans (cutD_len _ _ _) hl, fun c z => hc c (List.mem_of_mem_drop (List.mem_of_mem_take z))⟩
      unfold cutS cutD
      rw [show (⟨xs.toArray⟩ : Str).length = xs.length by simp [TL.len_tl, TL.tl]]
    exact .inr (.inl ⟨_, rfl, by simpa [TL.len_tl, TL.tl] using hl, hs _ (fun M _ _ => q M) (q _) (fun _ _ z => nomatch z)⟩)
  | .tup xs, e =>
    cases e
    obtain ⟨p, us, rfl, hr, hl, hs'⟩ := h1
    have hlen := hs'.length
    have hc : (cutD xs lo hi).length ≤ sizeLine := Nat.le_trans (cutD_len _ _ _) hl
    have all : ∀ M, RpL o.kind K M H ds vs → Rps K M H (cutD xs lo hi) (cutD us lo hi) := fun M hv => by
      obtain ⟨a1, u1, e2, g1, _, k1⟩ := hv.get (by rw [hk]; decide) e0 v0
      cases e2
      rw [kd.tup hr g1]
      exact k1.cut _ _
    refine .inr (.inr ⟨p, us, rfl, hr, fun hw => ?_, fun hw q hq => ?_⟩)
    · have same : cutD us lo hi = us := by
        unfold cutD
        rw [hw.1, hw.2]
        simp
      rw [same] at all
      have r1 : Rps K Mc H (cutD xs lo hi) (cutD us lo hi) := hs'.cut lo hi
      rw [same] at r1
      exact hs _ (fun M _ hv => ⟨p, us, rfl, hr, hc, all M hv⟩) ⟨p, us, rfl, hr, hc, r1⟩ (fun _ _ z => nomatch z)
    · exact ht _ _ q rfl hq hc (fun M _ hv => all M hv) (hs'.cut _ _)
theorem ok_slc (lo hi : Bool) : OpOk K (.slc lo hi) (rSlc K lo hi) := by
  intro H ds vs d Q Mc e kd m h hs hn ht
  match lo, hi, ds, e with
  | false, false, [a], e =>
    obtain ⟨x, rfl, h1⟩ := h.one
    exact ⟨x, rfl, slc_core rfl e h1 rfl rfl hs hn kd ht⟩
  | true, false, [a, .int i], e =>
    obtain ⟨x, y, rfl, h1, h2⟩ := h.two
    cases (show y = .int i from h2)
    exact ⟨x, i, rfl, slc_core rfl e h1 rfl rfl hs hn kd ht⟩
  | false, true, [a, .int i], e =>
    obtain ⟨x, y, rfl, h1, h2⟩ := h.two
    cases (show y = .int i from h2)
    exact ⟨x, i, rfl, slc_core rfl e h1 rfl rfl hs hn kd ht⟩
  | true, true, [a, .int i, .int j], e =>
    obtain ⟨x, y, z, rfl, h1, h2, h3⟩ := h.three
    cases (show y = .int i from h2)
    cases (show z = .int j from h3)
    exact ⟨x, i, j, rfl, slc_core rfl e h1 rfl rfl hs hn kd ht⟩
theorem ok_len : OpOk K .len (fun xs H Q => ∃ x n, xs = [x] ∧ LenV K x H n ∧ Q (.int n) H) := by
  intro H ds vs d Q Mc e kd m h hs hn ht
  match ds, e with
  | [a], e =>
    obtain ⟨n, e1, rfl⟩ := map_opt (show (dLen a).map (fun (n : Nat) => D.int (n : Int)) = some d from e)
    obtain ⟨x, rfl, h1⟩ := h.one
    refine ⟨x, n, rfl, ?_, hs _ (fun _ _ _ => rfl) rfl (fun _ _ z => nomatch z)⟩
    match a, e1 with
    | .lst xs, e1 =>
      cases e1
      obtain ⟨p, us, rfl, hr, hn', hl, hs'⟩ := h1
      exact .inl ⟨us, .inl (.inl hr), hs'.length⟩
    | .tup xs, e1 =>
      cases e1
      obtain ⟨p, us, rfl, hr, hl, hs'⟩ := h1
      exact .inr ⟨us, hr, hs'.length⟩
    | .str xs, e1 =>
      cases e1
      obtain ⟨rfl, hl, hc⟩ := h1
      exact ⟨by simpa [TL.len_tl, TL.tl] using hl, by simp [TL.len_tl, TL.tl]⟩
    | .scr xs, e1 =>
      cases e1
      obtain ⟨p, rfl, hr, _⟩ := h1
      exact .inl ⟨_, hr, by rw [List.length_map]⟩
theorem ok_tupd : OpOk K .tupd (fun xs H Q => xs.length ≤ sizeLine ∧ ∀ p, H p = none → Q (.ref p) (upd H p (.tup xs))) := by
  intro H ds vs d Q Mc e kd m h hs hn ht
  simp only [opv] at e
  split at e
  · rename_i hc
    cases e
    refine ⟨by rw [← h.length, szl]; exact hc, fun p hp => ht ds vs p rfl hp (by rw [szl]; exact hc) (fun M _ hv => hv) h⟩
  · cases e
theorem ok_lstd : OpOk K .lstd (fun xs H Q => xs.length ≤ sizeLine ∧ ∀ p, H p = none → Q (.ref p) (upd H p (.lst xs))) := by
  intro H ds vs d Q Mc e kd m h hs hn ht
  simp only [opv] at e
  split at e
  · rename_i hc
    cases e
    refine ⟨by rw [← h.length, szl]; exact hc, fun p hp => hn ds vs p rfl hp (by rw [szl]; exact hc) (fun M _ hv => hv) h⟩
  · cases e
theorem ok_list : OpOk K .list (fun xs H Q => ∃ p ys, xs = [.ref p] ∧ (SqL K H p ys ∨ SqT K H p ys) ∧ ∀ l, H l = none → Q (.ref l) (upd H l (.lst ys))) := by
  intro H ds vs d Q Mc e kd m h hs hn ht
  match ds, e with
  | [.lst xs], e =>
    cases e
    obtain ⟨x, rfl, p, us, rfl, hr, hn', hl, hs'⟩ := h.one
    refine ⟨p, us, rfl, .inl (.inl (.inl hr)), fun l hp => hn xs us l rfl hp hl (fun M _ hv => ?_) hs'⟩
    obtain ⟨a1, u1, e2, g1, _, k1⟩ := hv.get (by decide) (i := 0) (d := .lst xs) (v := .ref p) rfl rfl
    cases e2
    rw [hr] at g1; cases g1
    exact k1
  | [.tup xs], e =>
    cases e
    obtain ⟨x, rfl, p, us, rfl, hr, hl, hs'⟩ := h.one
    refine ⟨p, us, rfl, .inr hr, fun l hp => hn xs us l rfl hp hl (fun M _ hv => ?_) hs'⟩
    obtain ⟨a1, u1, e2, g1, _, k1⟩ := hv.get (by decide) (i := 0) (d := .tup xs) (v := .ref p) rfl rfl
    cases e2
    cases kd.tup hr g1
    exact k1
theorem ok_tuple : OpOk K .tuple (fun xs H Q => ∃ p ys, xs = [.ref p] ∧ ((SqL K H p ys ∧ ∀ l, H l = none → Q (.ref l) (upd H l (.tup ys))) ∨ (SqT K H p ys ∧ Q (.ref p) H))) := by
  intro H ds vs d Q Mc e kd m h hs hn ht
  match ds, e with
  | [.lst xs], e =>
    cases e
    obtain ⟨x, rfl, p, us, rfl, hr, hn', hl, hs'⟩ := h.one
    refine ⟨p, us, rfl, .inl ⟨.inl (.inl hr), fun l hp => ht xs us l rfl hp hl (fun M _ hv => ?_) hs'⟩⟩
    obtain ⟨a1, u1, e2, g1, _, k1⟩ := hv.get (by decide) (i := 0) (d := .lst xs) (v := .ref p) rfl rfl
    cases e2
    rw [hr] at g1; cases g1
    exact k1
  | [.tup xs], e =>
    cases e
    obtain ⟨x, rfl, h1⟩ := h.one
    obtain ⟨p, us, rfl, hr, hl, hs'⟩ := id h1
    refine ⟨p, us, rfl, .inr ⟨hr, hs _ (fun M _ hv => ?_) h1 (fun z => nomatch z)⟩⟩
    exact hv.get (by decide) (i := 0) (d := .tup xs) (v := .ref p) rfl rfl
theorem bls_of {M : MS} {H : Hp} : ∀ {ds : List D} {bs : List Bool} {vs : List V}, blsOf ds = some bs → Rps K M H ds vs → vs = bs.map V.bl
  | [], bs, vs, e, h => by cases e; exact h
  | .bl b :: ds, bs, vs, e, h => by
    obtain ⟨r, e1, rfl⟩ := map_opt (show (blsOf ds).map (b :: ·) = some bs from e)
    obtain ⟨v, us, rfl, h1, h2⟩ := h
    rw [bls_of e1 h2, show v = .bl b from h1]
    rfl
theorem ints_of {M : MS} {H : Hp} : ∀ {ds : List D} {bs : List Int} {vs : List V}, intsOf ds = some bs → Rps K M H ds vs → vs = bs.map V.int
  | [], bs, vs, e, h => by cases e; exact h
  | .int b :: ds, bs, vs, e, h => by
    obtain ⟨r, e1, rfl⟩ := map_opt (show (intsOf ds).map (b :: ·) = some bs from e)
    obtain ⟨v, us, rfl, h1, h2⟩ := h
    rw [ints_of e1 h2, show v = .int b from h1]
    rfl
theorem strs_of {M : MS} {H : Hp} : ∀ {ds : List D} {bs : List (List Nat)} {vs : List V}, strsOf ds = some bs → Rps K M H ds vs → vs = (bs.map fun s => (⟨s.toArray⟩ : Str)).map V.str ∧ ∀ s ∈ bs, ∀ c ∈ s, c < 128
  | [], bs, vs, e, h => by cases e; exact ⟨h, fun _ z => nomatch z⟩
  | .str b :: ds, bs, vs, e, h => by
    obtain ⟨r, e1, rfl⟩ := map_opt (show (strsOf ds).map (b :: ·) = some bs from e)
    obtain ⟨v, us, rfl, h1, h2⟩ := h
    obtain ⟨q1, q2⟩ := strs_of e1 h2
    obtain ⟨rfl, _, hc⟩ := h1
    refine ⟨by rw [q1]; rfl, fun s z => ?_⟩
    rcases List.mem_cons.mp z with rfl | z
    · exact hc
    · exact q2 s z
theorem ok_all : OpOk K .all (rAll K) := by
  intro H ds vs d Q Mc e kd m h hs hn ht
  match ds, e with
  | [.lst xs], e =>
    obtain ⟨bs, e1, rfl⟩ := map_opt (show (blsOf xs).map (fun bs => D.bl (bs.all id)) = some d from e)
    obtain ⟨x, rfl, p, us, rfl, hr, hn', hl, hs'⟩ := h.one
    cases bls_of e1 hs'
    exact ⟨p, bs, rfl, .inl (.inl hr), hs _ (fun _ _ _ => rfl) rfl (fun _ _ z => nomatch z)⟩
theorem ok_any : OpOk K .any (rAny K) := by
  intro H ds vs d Q Mc e kd m h hs hn ht
  match ds, e with
  | [.lst xs], e =>
    obtain ⟨bs, e1, rfl⟩ := map_opt (show (blsOf xs).map (fun bs => D.bl (bs.any id)) = some d from e)
    obtain ⟨x, rfl, p, us, rfl, hr, hn', hl, hs'⟩ := h.one
    cases bls_of e1 hs'
    exact ⟨p, bs, rfl, .inl (.inl hr), hs _ (fun _ _ _ => rfl) rfl (fun _ _ z => nomatch z)⟩
theorem ok_sum : OpOk K .sum (rSum K) := by
  intro H ds vs d Q Mc e kd m h hs hn ht
  match ds, e with
  | [.lst xs], e =>
    obtain ⟨bs, e1, rfl⟩ := map_opt (show (intsOf xs).map (fun bs => D.int bs.sum) = some d from e)
    obtain ⟨x, rfl, p, us, rfl, hr, hn', hl, hs'⟩ := h.one
    cases ints_of e1 hs'
    exact ⟨p, bs, rfl, .inl (.inl hr), hs _ (fun _ _ _ => rfl) rfl (fun _ _ z => nomatch z)⟩
theorem ok_max2 : OpOk K .max2 (fun xs H Q => ∃ i j, xs = [.int i, .int j] ∧ Q (.int (if j > i then j else i)) H) := by
  intro H ds vs d Q Mc e kd m h hs hn ht
  match ds, e with
  | [.int i, .int j], e =>
    cases e
    obtain ⟨x, y, rfl, h1, h2⟩ := h.two
    cases (show x = .int i from h1); cases (show y = .int j from h2)
    exact ⟨i, j, rfl, hs _ (fun _ _ _ => rfl) rfl (fun _ _ z => nomatch z)⟩
theorem ok_min2 : OpOk K .min2 (fun xs H Q => ∃ i j, xs = [.int i, .int j] ∧ Q (.int (if j < i then j else i)) H) := by
  intro H ds vs d Q Mc e kd m h hs hn ht
  match ds, e with
  | [.int i, .int j], e =>
    cases e
    obtain ⟨x, y, rfl, h1, h2⟩ := h.two
    cases (show x = .int i from h1); cases (show y = .int j from h2)
    exact ⟨i, j, rfl, hs _ (fun _ _ _ => rfl) rfl (fun _ _ z => nomatch z)⟩
theorem ok_abs : OpOk K .abs (fun xs H Q => ∃ i, xs = [.int i] ∧ Q (.int (if i < 0 then -i else i)) H) := by
  intro H ds vs d Q Mc e kd m h hs hn ht
  match ds, e with
  | [.int i], e =>
    cases e
    obtain ⟨x, rfl, h1⟩ := h.one
    cases (show x = .int i from h1)
    exact ⟨i, rfl, hs _ (fun _ _ _ => rfl) rfl (fun _ _ z => nomatch z)⟩
theorem ok_int : OpOk K .int (fun xs H Q => (∃ i, xs = [.int i] ∧ Q (.int i) H) ∨ ∃ k, xs = [.bl k] ∧ Q (.int (if k then 1 else 0)) H) := by
  intro H ds vs d Q Mc e kd m h hs hn ht
  match ds, e with
  | [.int i], e =>
    cases e
    obtain ⟨x, rfl, h1⟩ := h.one
    cases (show x = .int i from h1)
    exact .inl ⟨i, rfl, hs _ (fun _ _ _ => rfl) rfl (fun _ _ z => nomatch z)⟩
  | [.bl k], e =>
    cases e
    obtain ⟨x, rfl, h1⟩ := h.one
    cases (show x = .bl k from h1)
    exact .inr ⟨k, rfl, hs _ (fun _ _ _ => rfl) rfl (fun _ _ z => nomatch z)⟩
theorem Rp.tyx {M : MS} {H : Hp} {d : D} {v : V} (h : Rp K M H d v) : TyX K H v (.type d.ty) := by
  cases d with
  | non => cases (show v = .non from h); exact .base .non
  | bl b => cases (show v = .bl b from h); exact .base (.bl b)
  | int b => cases (show v = .int b from h); exact .base (.int b)
  | str b => obtain ⟨rfl, _⟩ := h; exact .base (.str _)
  | lst ds => obtain ⟨p, us, rfl, hr, _⟩ := h; exact .base (.lst hr)
  | tup ds =>
    obtain ⟨p, us, rfl, hr, _⟩ := h
    rcases hr with (hr | ⟨o, hr⟩) | ⟨o, its, n, hk, hc, _⟩
    · exact .base (.tup hr)
    · exact .fTuple hr
    · exact .kTuple hk hc
  | dic ks ds => obtain ⟨p, us, rfl, hr, _⟩ := h; exact .base (.dK hr)
  | scr ns =>
    obtain ⟨p, rfl, hr, _⟩ := h
    rcases hr with (hr | ⟨o, hr⟩) | ⟨o, its, n, hk, hc, _⟩
    · exact .base (.lst hr)
    · exact .base (.frz hr)
    · exact .kList hk hc
theorem isi_kit (t : D) (b : String) (k : Bool) (h : isiB t.ty b = some k) : kitB t.ty b = some k := by
  unfold isiB at h
  have hb : b = "int" ∨ b = "str" ∨ b = "bool" ∨ b = "list" ∨ b = "tuple" := by
    split at h
    · exact .inl ‹_›
    · split at h
      · rename_i _ z
        simp only [Bool.or_eq_true, decide_eq_true_eq] at z
        rcases z with ((z | z) | z) | z <;> simp [z]
      · cases h
  rcases hb with rfl | rfl | rfl | rfl | rfl <;> cases t <;> (cases h; simp only [D.ty]; decide +kernel)
theorem ok_isi (t : String) : OpOk K (.isi t) (fun xs H Q => ∃ x, xs = [x] ∧ rIsi K [x, .ty t] H Q) := by
  intro H ds vs d Q Mc e kd m h hs hn ht
  match ds, e with
  | [a], e =>
    obtain ⟨k, e1, rfl⟩ := map_opt (show (isiB a.ty t).map D.bl = some d from e)
    obtain ⟨x, rfl, h1⟩ := h.one
    exact ⟨x, rfl, x, .ty t, _, _, k, rfl, .ty t, h1.tyx, kit_ty (isi_kit a t k e1), hs _ (fun _ _ _ => rfl) rfl (fun _ _ z => nomatch z)⟩
theorem sum_len (ss : List (List Nat)) : (((ss.map fun s => (⟨s.toArray⟩ : Str)).map (·.length))).sum = (ss.map List.length).sum := by
  rw [List.map_map]
  have : ((fun x : Str => x.length) ∘ fun s : List Nat => (⟨s.toArray⟩ : Str)) = List.length := by
    funext s
    simp [TL.len_tl, TL.tl]
  rw [this]
theorem joinL_mem {y : List Nat} {c : Nat} : ∀ {ss : List (List Nat)}, c ∈ TL.joinL y ss → c ∈ y ∨ ∃ s ∈ ss, c ∈ s
  | [], h => by simp [TL.joinL] at h
  | [p], h => .inr ⟨p, by simp, h⟩
  | p :: q :: r, h => by
    simp only [TL.joinL, List.mem_append] at h
    rcases h with h | h | h
    · exact .inr ⟨p, by simp, h⟩
    · exact .inl h
    · rcases joinL_mem h with h | ⟨s, h1, h2⟩
      · exact .inl h
      · exact .inr ⟨s, List.mem_cons_of_mem _ h1, h2⟩
theorem joinL_len (y : List Nat) : ∀ ss : List (List Nat), (TL.joinL y ss).length ≤ (ss.map List.length).sum + ss.length * y.length
  | [] => by simp [TL.joinL]
  | [p] => by simp [TL.joinL]
  | p :: q :: r => by
    have ih := joinL_len y (q :: r)
    simp only [TL.joinL, List.length_append, List.map_cons, List.sum_cons, List.length_cons] at ih ⊢
    have : (r.length + 1 + 1) * y.length = (r.length + 1) * y.length + y.length := Nat.succ_mul _ _
    omega
def rJoin (K : PySem.W.Frag) : V → List V → Hp → VK → Prop := fun x xs H Q => ∃ a p, ∃ ys : List Str, x = .str a ∧ xs = [.ref p] ∧ (SqL K H p (ys.map V.str) ∨ SqT K H p (ys.map V.str)) ∧ (ys.map (·.length)).sum + ys.length * a.length ≤ 16777216 ∧ Q (.str (Txt.join a ys)) H
def r1m (r : V → List V → Hp → VK → Prop) : List V → Hp → VK → Prop := fun vs H Q => ∃ x y, vs = [x, y] ∧ (∃ a, x = .str a) ∧ r x [y] H Q
def r0m (r : V → List V → Hp → VK → Prop) : List V → Hp → VK → Prop := fun vs H Q => ∃ x, vs = [x] ∧ (∃ a, x = .str a) ∧ r x [] H Q
theorem ok_join : OpOk K .join (r1m (rJoin K)) := by
  intro H ds vs d Q Mc e kd m h hs hn ht
  match ds, e with
  | [.str y, .lst xs], e =>
    simp only [opv] at e
    cases e1 : strsOf xs with
    | none => rw [e1] at e; cases e
    | some ss =>
      rw [e1] at e
      simp only [Option.bind_some] at e
      split at e
      · rename_i hc
        cases e
        obtain ⟨x, x', rfl, h1, h2⟩ := h.two
        obtain ⟨rfl, hl, hcy⟩ := h1
        obtain ⟨p, us, rfl, hr, hn', hl', hs'⟩ := h2
        obtain ⟨q1, q2⟩ := strs_of e1 hs'
        subst q1
        have ly : (⟨y.toArray⟩ : Str).length = y.length := by simp [TL.len_tl, TL.tl]
        have q : ∀ M, Rp K M H (.str (TL.joinL y ss)) (.str (Txt.join ⟨y.toArray⟩ (ss.map fun s => (⟨s.toArray⟩ : Str)))) := fun M => by
          refine ⟨?_, ?_, fun c z => ?_⟩
          · congr 1
            apply TL.ext_tl
            rw [TL.join_eq, TL.tl_join, List.map_map]
            have : (TL.tl ∘ fun s : List Nat => (⟨s.toArray⟩ : Str)) = id := by funext s; simp [TL.tl]
            rw [this, List.map_id]
          · rw [szl]
            have := joinL_len y ss
            omega
          · rcases joinL_mem z with z | ⟨s, z1, z2⟩
            · exact hcy c z
            · exact q2 s z1 c z2
        refine ⟨_, _, rfl, ⟨_, rfl⟩, _, p, _, rfl, rfl, .inl (.inl (.inl hr)), ?_, hs _ (fun M _ _ => q M) (q _) (fun _ _ z => nomatch z)⟩
        rw [sum_len, List.length_map, ly]
        exact hc
      · cases e
theorem spl_mem {S : List Nat} {c : Nat} : ∀ {l : List Nat} {k : Nat} {acc : List Nat} {p : List Nat}, p ∈ TL.spl S k acc l → c ∈ p → c ∈ acc ∨ c ∈ l
  | [], k, acc, p, h, hc => by
    rw [TL.spl_nil] at h
    have : p = acc := by simpa using h
    subst this; exact .inl hc
  | x :: r, 0, acc, p, h, hc => by
    cases hp : TL.pre S (x :: r) with
    | true =>
      rw [TL.spl_hit hp] at h
      rcases List.mem_cons.mp h with rfl | h
      · exact .inl hc
      · rcases spl_mem h hc with z | z
        · simp at z
        · exact .inr (List.mem_cons_of_mem _ z)
    | false =>
      rw [TL.spl_miss hp] at h
      rcases spl_mem h hc with z | z
      · rcases List.mem_append.mp z with z | z
        · exact .inl z
        · exact .inr (by rw [List.mem_singleton.mp z]; exact List.mem_cons_self)
      · exact .inr (List.mem_cons_of_mem _ z)
  | x :: r, k + 1, acc, p, h, hc => by
    rcases spl_mem (show p ∈ TL.spl S k acc r from h) hc with z | z
    · exact .inl z
    · exact .inr (List.mem_cons_of_mem _ z)
theorem spl_len {S : List Nat} : ∀ (l : List Nat) (k : Nat) (acc : List Nat), (TL.spl S k acc l).length ≤ l.length + 1
  | [], k, acc => by rw [TL.spl_nil]; simp
  | x :: r, 0, acc => by
    cases hp : TL.pre S (x :: r) with
    | true => rw [TL.spl_hit hp]; have := spl_len (S := S) r (S.length - 1) []; simp only [List.length_cons]; omega
    | false => rw [TL.spl_miss hp]; have := spl_len (S := S) r 0 (acc ++ [x]); simp only [List.length_cons]; omega
  | x :: r, k + 1, acc => by
    have := spl_len (S := S) r k acc
    show (TL.spl S k acc r).length ≤ _
    simp only [List.length_cons]; omega
theorem spl_plen {S : List Nat} : ∀ (l : List Nat) (k : Nat) (acc : List Nat) (p : List Nat), p ∈ TL.spl S k acc l → p.length ≤ acc.length + l.length
  | [], k, acc, p, h => by
    rw [TL.spl_nil] at h
    have : p = acc := by simpa using h
    subst this; simp
  | x :: r, 0, acc, p, h => by
    cases hp : TL.pre S (x :: r) with
    | true =>
      rw [TL.spl_hit hp] at h
      rcases List.mem_cons.mp h with rfl | h
      · omega
      · have := spl_plen r _ [] p h
        simp only [List.length_cons, List.length_nil] at this ⊢; omega
    | false =>
      rw [TL.spl_miss hp] at h
      have := spl_plen r _ _ p h
      simp only [List.length_cons, List.length_append, List.length_nil] at this ⊢; omega
  | x :: r, k + 1, acc, p, h => by
    have := spl_plen r k acc p (show p ∈ TL.spl S k acc r from h)
    simp only [List.length_cons]; omega
def rSplit : V → List V → Hp → VK → Prop := fun x xs H Q => ∃ a b, x = .str a ∧ xs = [.str b] ∧ (b.length == 0) = false ∧ a.length + 2 ≤ sizeLine ∧ rNewStrs (Txt.split a b) H Q
theorem Rps.strs {M : MS} {H : Hp} : ∀ {ss : List (List Nat)}, (∀ s ∈ ss, s.length ≤ sizeLine ∧ ∀ c ∈ s, c < 128) → Rps K M H (ss.map .str) ((ss.map fun s => (⟨s.toArray⟩ : Str)).map V.str)
  | [], _ => rfl
  | s :: ss, h => ⟨_, _, rfl, ⟨rfl, (h s List.mem_cons_self).1, (h s List.mem_cons_self).2⟩, Rps.strs fun t z => h t (List.mem_cons_of_mem _ z)⟩
theorem ok_split : OpOk K .split (r1m rSplit) := by
  intro H ds vs d Q Mc e kd m h hs hn ht
  match ds, e with
  | [.str a, .str (c :: r)], e =>
    simp only [opv] at e
    split at e
    · rename_i hc
      cases e
      obtain ⟨x, x', rfl, h1, h2⟩ := h.two
      obtain ⟨rfl, hl, hca⟩ := h1
      obtain ⟨rfl, hl2, hcr⟩ := h2
      have la : (⟨a.toArray⟩ : Str).length = a.length := by simp [TL.len_tl, TL.tl]
      have e2 : Txt.split ⟨a.toArray⟩ ⟨(c :: r).toArray⟩ = (TL.spl (c :: r) 0 [] a).map fun s => (⟨s.toArray⟩ : Str) := by
        apply TL.map_tl_inj
        rw [TL.split_spl _ _ (by simp [TL.tl]) (TL.kind_ok ?_), List.map_map]
        · have : (TL.tl ∘ fun s : List Nat => (⟨s.toArray⟩ : Str)) = id := by funext s; simp [TL.tl]
          rw [this, List.map_id]
        · simp only [List.all_toArray, List.all_eq_true, decide_eq_true_eq]
          intro z hz
          have := hcr z hz
          omega
      refine ⟨_, _, rfl, ⟨_, rfl⟩, _, _, rfl, rfl, by simp [TL.len_tl, TL.tl], by rw [la, szl]; exact hc, ?_⟩
      rw [e2]
      intro p hp
      have q : ∀ M, Rps K M H ((TL.spl (c :: r) 0 [] a).map .str) (((TL.spl (c :: r) 0 [] a).map fun s => (⟨s.toArray⟩ : Str)).map V.str) := fun M => Rps.strs fun s hs => by
        have := spl_plen a 0 [] s hs
        refine ⟨?_, fun z hz => ?_⟩
        · simp only [List.length_nil] at this; omega
        · rcases spl_mem hs hz with w | w
          · simp at w
          · exact hca z w
      refine hn _ _ p rfl hp ?_ (fun M _ _ => q M) (q Mc)
      rw [List.length_map, szl]
      have := spl_len (S := c :: r) a 0 []
      omega
    · cases e
theorem ok_upper : OpOk K .upper (r0m fun x xs H Q => ∃ a, x = .str a ∧ xs = [] ∧ a.length ≤ 5592405 ∧ Q (.str (Txt.upper a)) H) := by
  intro H ds vs d Q Mc e kd m h hs hn ht
  match ds, e with
  | [.str a], e =>
    simp only [opv] at e
    split at e
    · rename_i hc
      cases e
      obtain ⟨x, rfl, rfl, hl, hca⟩ := h.one
      have la : (⟨a.toArray⟩ : Str).length = a.length := by simp [TL.len_tl, TL.tl]
      have q : ∀ M, Rp K M H (.str (a.map upC)) (.str (Txt.upper ⟨a.toArray⟩)) := fun M => by
        refine ⟨?_, by rw [List.length_map]; exact hl, fun c z => ?_⟩
        · rw [PyProof.Rows.upper_ascii (x := ⟨a.toArray⟩) (by simpa using hca)]
          congr 1
          simp [PyProof.Rows.up1, upC]
        · obtain ⟨c', z1, rfl⟩ := List.mem_map.mp z
          have := hca c' z1
          unfold upC
          split <;> omega
      exact ⟨_, rfl, ⟨_, rfl⟩, _, rfl, rfl, by rw [la]; exact hc, hs _ (fun M _ _ => q M) (q _) (fun _ _ z => nomatch z)⟩
    · cases e
theorem ok_lower : OpOk K .lower (r0m fun x xs H Q => ∃ a, x = .str a ∧ xs = [] ∧ a.length ≤ 5592405 ∧ Q (.str (Txt.lower a)) H) := by
  intro H ds vs d Q Mc e kd m h hs hn ht
  match ds, e with
  | [.str a], e =>
    simp only [opv] at e
    split at e
    · rename_i hc
      cases e
      obtain ⟨x, rfl, rfl, hl, hca⟩ := h.one
      have la : (⟨a.toArray⟩ : Str).length = a.length := by simp [TL.len_tl, TL.tl]
      have q : ∀ M, Rp K M H (.str (a.map lowC)) (.str (Txt.lower ⟨a.toArray⟩)) := fun M => by
        refine ⟨?_, by rw [List.length_map]; exact hl, fun c z => ?_⟩
        · rw [PyProof.Rows.lower_ascii (x := ⟨a.toArray⟩) (by simpa using hca)]
          congr 1
          simp [PyProof.Rows.lo1, lowC]
        · obtain ⟨c', z1, rfl⟩ := List.mem_map.mp z
          have := hca c' z1
          unfold lowC
          split <;> omega
      exact ⟨_, rfl, ⟨_, rfl⟩, _, rfl, rfl, by rw [la]; exact hc, hs _ (fun M _ _ => q M) (q _) (fun _ _ z => nomatch z)⟩
    · cases e
theorem ok_strip : OpOk K .strip (r1m fun x xs H Q => ∃ a b, x = .str a ∧ xs = [.str b] ∧ a.length ≤ sizeLine ∧ Q (.str (Txt.stripChars a b)) H) := by
  intro H ds vs d Q Mc e kd m h hs hn ht
  match ds, e with
  | [.str a, .str b], e =>
    cases e
    obtain ⟨x, y, rfl, h1, h2⟩ := h.two
    obtain ⟨rfl, hl, hca⟩ := h1
    obtain ⟨rfl, hl2, hcb⟩ := h2
    have e1 : Txt.stripChars ⟨a.toArray⟩ ⟨b.toArray⟩ = ⟨(stripL b a).toArray⟩ := by
      have := strip_tl ⟨a.toArray⟩ ⟨b.toArray⟩
      apply TL.ext_tl
      simpa [TL.tl] using this
    have hsub : ∀ c ∈ stripL b a, c ∈ a := fun c z => by
      unfold stripL at z
      exact List.dropWhile_sublist _ |>.subset (List.mem_reverse.mp (List.dropWhile_sublist _ |>.subset (List.mem_reverse.mp z)))
    have hlen : (stripL b a).length ≤ a.length := by
      unfold stripL
      rw [List.length_reverse]
      refine Nat.le_trans (List.dropWhile_sublist _).length_le ?_
      rw [List.length_reverse]
      exact (List.dropWhile_sublist _).length_le
    have q : ∀ M, Rp K M H (.str (stripL b a)) (.str (Txt.stripChars ⟨a.toArray⟩ ⟨b.toArray⟩)) := fun M => ⟨by rw [e1], Nat.le_trans hlen hl, fun c z => hca c (hsub c z)⟩
    exact ⟨_, _, rfl, ⟨_, rfl⟩, _, _, rfl, rfl, by simpa [TL.len_tl, TL.tl] using hl, hs _ (fun M _ _ => q M) (q _) (fun z => nomatch z)⟩
def rCountF (K : PySem.W.Frag) : V → List V → Hp → VK → Prop := fun x xs H Q => ∃ (a : Addr) (ys : List V) (y : V), x = V.ref a ∧ xs = [y] ∧ SqL K H a ys ∧ flatV y = true ∧ ys.all flatV = true ∧ Q (.int ((ys.countP fun z => eqV z y : Nat) : Int)) H
theorem countU {y : V} : ∀ {ys : List V} {us : List Value}, Vals ys us → ys.all flatV = true → us.countP (eqU y) = ys.countP fun z => eqV z y
  | _, _, .nil, _ => rfl
  | z :: ys, u :: us, .cons r t, f => by
    rw [List.all_cons, Bool.and_eq_true] at f
    rw [List.countP_cons, List.countP_cons, countU t f.2, eqU_of r f.1]
theorem mt_countF {X : Cx} : MtR X "list.count" (rCountF X.K) := by
  intro pins s σ H x xs v us Q I rx rxs h
  obtain ⟨a, ys, y, rfl, rfl, hs, fy, fys, q⟩ := h
  cases rx
  cases rxs with
  | cons ry rt =>
    rename_i uy ut
    cases rt
    obtain ⟨its, rv, ⟨⟨cls, dd, data, sl⟩, n, ho, hc, hdn, hd⟩, hlen⟩ := I.list hs
    simp only at hc hd
    subst hc hd
    refine call_meets PySem.F.slot_list_count ⟨_, ho, rfl⟩ PySem.F.entry_list_count (PySem.F.args_list_count_2 _ _)
      (SeqAt.list_countAt a its.toArray n dd sl uy (eqU y)) ⟨ho, fun u' hu' => mem_eqAt ry fy rv fys u' (by simpa using hu'), ?_⟩
    refine ⟨.int ((ys.countP fun z => eqV z y : Nat) : Int), H, I.tok _, ⟨s.toks, ?_⟩, q⟩
    show Value.int ((its.countP (eqU y) : Nat) : Int) s.toks = _
    rw [countU rv fys]
def r1l (K : PySem.W.Frag) (r : V → List V → Hp → VK → Prop) : List V → Hp → VK → Prop := fun vs H Q => ∃ x y, vs = [x, y] ∧ (∃ a ys, x = .ref a ∧ SqL K H a ys) ∧ r x [y] H Q
theorem scl_all {M : MS} {H : Hp} {d : D} {v : V} (h : Rp K M H d v) (s : d.scl = true) : ∀ {ds : List D} {vs : List V}, Rps K M H ds vs → ds.all D.scl = true → vs.all flatV = true ∧ (vs.countP fun z => eqV z v) = (ds.countP fun y => y.eqv d) ∧
    ∀ (j : Nat) x z, ds[j]? = some x → vs[j]? = some z → eqV z v = x.eqv d
  | [], vs, r, _ => by cases (show vs = [] from r); exact ⟨rfl, rfl, fun j x z e => by simp at e⟩
  | e :: ds, vs, r, f => by
    obtain ⟨u, us, rfl, r1, r2⟩ := r
    have f' : e.scl = true ∧ ds.all D.scl = true := by simpa using f
    obtain ⟨i1, i2, i3⟩ := scl_all h s r2 f'.2
    have e0 := scl_eq r1 f'.1 h s
    refine ⟨by simp [scl_flat r1 f'.1, i1], by rw [List.countP_cons, List.countP_cons, i2, e0], fun j x z e1 e2 => ?_⟩
    cases j with
    | zero => cases e1; cases e2; exact e0
    | succ j => exact i3 j x z (by simpa using e1) (by simpa using e2)
theorem ok_lcount : OpOk K .lcount (r1l K (rCountF K)) := by
  intro H ds vs d Q Mc e kd m h hs hn ht
  match ds, e with
  | [.lst a, x], e =>
    simp only [opv] at e
    split at e
    · rename_i hc
      cases e
      have hc' : x.scl = true ∧ a.all D.scl = true := by simpa using hc
      obtain ⟨u, w, rfl, h1, h2⟩ := h.two
      obtain ⟨p, us, rfl, hr, _, hl, hs'⟩ := h1
      obtain ⟨i1, i2, _⟩ := scl_all h2 hc'.1 hs' hc'.2
      refine ⟨_, _, rfl, ⟨p, us, rfl, .inl (.inl hr)⟩, p, us, w, rfl, rfl, .inl (.inl hr), scl_flat h2 hc'.1, i1, ?_⟩
      rw [i2]
      exact hs _ (fun _ _ _ => rfl) rfl (fun z => nomatch z)
    · cases e
theorem ok_index : OpOk K .index (r1l K (rIndex K)) := by
  intro H ds vs d Q Mc e kd m h hs hn ht
  match ds, e with
  | [.lst a, x], e =>
    simp only [opv] at e
    split at e
    · rename_i hc
      obtain ⟨j, ej, rfl⟩ := map_opt e
      have hc' : x.scl = true ∧ a.all D.scl = true := by simpa using hc
      obtain ⟨u, w, rfl, h1, h2⟩ := h.two
      obtain ⟨p, us, rfl, hr, _, hl, hs'⟩ := h1
      obtain ⟨i1, _, i3⟩ := scl_all h2 hc'.1 hs' hc'.2
      have hlen := hs'.length
      obtain ⟨hj, hj2, hj3⟩ := List.findIdx?_eq_some_iff_getElem.mp ej
      have hju : j < us.length := by omega
      refine ⟨_, _, rfl, ⟨p, us, rfl, .inl (.inl hr)⟩, p, us, w, j, us[j], rfl, rfl, .inl (.inl hr), scl_flat h2 hc'.1, i1, List.getElem?_eq_getElem hju, ?_, fun n z hn hz => ?_, ?_⟩
      · rw [i3 j a[j] us[j] (List.getElem?_eq_getElem hj) (List.getElem?_eq_getElem hju)]
        exact hj2
      · have hna : n < a.length := by omega
        rw [i3 n a[n] z (List.getElem?_eq_getElem hna) hz]
        have := hj3 n hn
        simpa using this
      · exact hs _ (fun _ _ _ => rfl) rfl (fun z => nomatch z)
    · cases e
theorem ok_revs : OpOk K .revs (r1 fun x H Q => ∃ a xs, x = .ref a ∧ SqL K H a xs ∧ ∀ p, H p = none → Q (.ref p) (upd H p (.lst xs.reverse))) := by
  intro H ds vs d Q Mc e kd m h hs hn ht
  match ds, e with
  | [.lst a], e =>
    cases e
    obtain ⟨u, rfl, h1⟩ := h.one
    obtain ⟨p, us, rfl, hr, _, hl, hs'⟩ := h1
    refine ⟨_, rfl, p, us, rfl, .inl (.inl hr), fun q hq => hn _ _ q rfl hq (by rw [List.length_reverse]; exact hl) (fun M _ hv => ?_) hs'.reverse⟩
    obtain ⟨a1, u1, e2, g1, _, k1⟩ := hv.get (by decide) (i := 0) (d := .lst a) (v := .ref p) rfl rfl
    cases e2
    rw [hr] at g1; cases g1
    exact k1.reverse
theorem ok_count : OpOk K .count (r1m fun x xs H Q => ∃ a b, x = .str a ∧ xs = [.str b] ∧ Q (.int (Txt.count a b)) H) := by
  intro H ds vs d Q Mc e kd m h hs hn ht
  match ds, e with
  | [.str a, .str (c :: r)], e =>
    cases e
    obtain ⟨x, y, rfl, h1, h2⟩ := h.two
    obtain ⟨rfl, hl, hca⟩ := h1
    obtain ⟨rfl, hl2, hcb⟩ := h2
    refine ⟨_, _, rfl, ⟨_, rfl⟩, _, _, rfl, rfl, ?_⟩
    rw [count_split _ _ (kind_S hcb), split_S (by simp) hcb, List.length_map]
    exact hs _ (fun _ _ _ => rfl) rfl (fun z => nomatch z)

mutual
theorem py_inj : ∀ (d e : D), d.dep.isSome = true → e.dep.isSome = true → d.py = e.py → d = e
  | .lst xs, .lst ys, h1, h2, h => by
    simp only [D.py, PyData.list.injEq] at h
    rw [pys_inj xs ys (by simpa [D.dep] using h1) (by simpa [D.dep] using h2) h]
  | .tup xs, .tup ys, h1, h2, h => by
    simp only [D.py, PyData.tuple.injEq] at h
    rw [pys_inj xs ys (by simpa [D.dep] using h1) (by simpa [D.dep] using h2) h]
  | .str x, .str y, _, _, h => by
    simp only [D.py, PyData.str.injEq] at h
    have : x.toArray = y.toArray := congrArg Str.cps h
    have e2 : x = y := by simpa using congrArg Array.toList this
    rw [e2]
  | .dic _ _, _, h1, _, _ => by simp [D.dep] at h1
  | .scr _, _, h1, _, _ => by simp [D.dep] at h1
  | .non, e, _, h2, h => by cases e <;> first | (simp [D.dep] at h2; done) | rfl | (simp [D.py] at h; done)
  | .bl _, e, _, h2, h => by cases e <;> first | (simp [D.dep] at h2; done) | (simp [D.py] at h; done) | (simp [D.py] at h; rw [h])
  | .int _, e, _, h2, h => by cases e <;> first | (simp [D.dep] at h2; done) | (simp [D.py] at h; done) | (simp [D.py] at h; rw [h])
  | .str _, .non, _, _, h => by simp [D.py] at h
  | .str _, .bl _, _, _, h => by simp [D.py] at h
  | .str _, .int _, _, _, h => by simp [D.py] at h
  | .str _, .lst _, _, _, h => by simp [D.py] at h
  | .str _, .tup _, _, _, h => by simp [D.py] at h
  | .str _, .dic _ _, _, h2, _ => by simp [D.dep] at h2
  | .str _, .scr _, _, h2, _ => by simp [D.dep] at h2
  | .lst _, .non, _, _, h => by simp [D.py] at h
  | .lst _, .bl _, _, _, h => by simp [D.py] at h
  | .lst _, .int _, _, _, h => by simp [D.py] at h
  | .lst _, .str _, _, _, h => by simp [D.py] at h
  | .lst _, .tup _, _, _, h => by simp [D.py] at h
  | .lst _, .dic _ _, _, h2, _ => by simp [D.dep] at h2
  | .lst _, .scr _, _, h2, _ => by simp [D.dep] at h2
  | .tup _, .non, _, _, h => by simp [D.py] at h
  | .tup _, .bl _, _, _, h => by simp [D.py] at h
  | .tup _, .int _, _, _, h => by simp [D.py] at h
  | .tup _, .str _, _, _, h => by simp [D.py] at h
  | .tup _, .lst _, _, _, h => by simp [D.py] at h
  | .tup _, .dic _ _, _, h2, _ => by simp [D.dep] at h2
  | .tup _, .scr _, _, h2, _ => by simp [D.dep] at h2
theorem pys_inj : ∀ (xs ys : List D), (deps xs).isSome = true → (deps ys).isSome = true → pys xs = pys ys → xs = ys
  | [], [], _, _, _ => rfl
  | [], _ :: _, _, _, h => by simp [pys] at h
  | _ :: _, [], _, _, h => by simp [pys] at h
  | x :: xs, y :: ys, h1, h2, h => by
    have a1 : x.dep.isSome = true ∧ (deps xs).isSome = true := by
      simp only [deps] at h1
      cases e1 : x.dep <;> cases e2 : deps xs <;> simp [e1, e2] at h1 ⊢
    have a2 : y.dep.isSome = true ∧ (deps ys).isSome = true := by
      simp only [deps] at h2
      cases e1 : y.dep <;> cases e2 : deps ys <;> simp [e1, e2] at h2 ⊢
    simp only [pys, List.cons.injEq] at h
    rw [py_inj x y a1.1 a2.1 h.1, pys_inj xs ys a1.2 a2.2 h.2]
end
theorem pys_map : ∀ ds : List D, pys ds = ds.map D.py
  | [] => rfl
  | d :: ds => by rw [pys, pys_map ds]; rfl
theorem deps_mem : ∀ {ds : List D} {d : D}, (deps ds).isSome = true → d ∈ ds → d.dep.isSome = true
  | x :: xs, d, h, hm => by
    have a1 : x.dep.isSome = true ∧ (deps xs).isSome = true := by
      simp only [deps] at h
      cases e1 : x.dep <;> cases e2 : deps xs <;> simp [e1, e2] at h ⊢
    rcases List.mem_cons.mp hm with rfl | hm
    · exact a1.1
    · exact deps_mem a1.2 hm
theorem fold_pick (f : D → D → Bool) : ∀ (xs : List D) (x : D), (xs.foldl (fun a y => if f a y then y else a) x) ∈ x :: xs
  | [], x => by simp
  | y :: xs, x => by
    rw [List.foldl_cons]
    have := fold_pick f xs (if f x y then y else x)
    split at this
    · rename_i h; rw [if_pos h]; exact List.mem_cons_of_mem _ this
    · rename_i h
      rw [if_neg h]
      rcases List.mem_cons.mp this with h' | h'
      · rw [h']; exact List.mem_cons_self ..
      · exact List.mem_cons_of_mem _ (List.mem_cons_of_mem _ h')
theorem fold_py (f : PyData → PyData → Bool) : ∀ (xs : List D) (x : D), (xs.foldl (fun a y => if f a.py y.py then y else a) x).py = (xs.map D.py).foldl (fun a y => if f a y then y else a) x.py
  | [], x => rfl
  | y :: xs, x => by
    rw [List.foldl_cons, fold_py f xs, List.map_cons, List.foldl_cons]
    congr 1
    split <;> rfl
def rPick (K : PySem.W.Frag) (g : PyData → List PyData → PyData) : List V → Hp → VK → Prop := fun vs H Q => ∃ (a : Addr) (us : List V) (x : PyData) (xs : List PyData), vs = [.ref a] ∧ SqL K H a us ∧ DpAll K H us (x :: xs) ∧ PySem.W.AlikeAll (x :: xs) ∧ PyData.depthAll (x :: xs) ≤ 64 ∧
  ∀ (i : Nat) v, us[i]? = some v → (x :: xs)[i]? = some (g x xs) → Q v H
theorem alk_ok {ds : List D} (h : alk ds = true) : (deps ds).isSome = true ∧ PySem.W.AlikeAll (pys ds) ∧ ∃ n, deps ds = some n ∧ n + 1 ≤ 64 := by
  simp only [alk, Bool.and_eq_true, List.all_eq_true] at h
  obtain ⟨h1, h2⟩ := h
  have h3 := shp_some h1
  have h4 : (deps ds).isSome = true := by simpa [D.dep] using h3
  refine ⟨h4, ⟨?_, ?_⟩, ?_⟩
  · intro x hx y hy
    rw [pys_map] at hx hy
    obtain ⟨a, ha, rfl⟩ := List.mem_map.mp hx
    obtain ⟨b, hb, rfl⟩ := List.mem_map.mp hy
    exact (h2 a ha).2 b hb
  · intro x hx
    rw [pys_map] at hx
    obtain ⟨a, ha, rfl⟩ := List.mem_map.mp hx
    have hd := deps_mem h4 ha
    have := (h2 a ha).1
    cases a <;> first | (simp [D.isNon] at this; done) | (simp [D.dep] at hd; done) | simp [D.py]
  · obtain ⟨n, e⟩ := Option.isSome_iff_exists.mp h4
    refine ⟨n, e, ?_⟩
    unfold D.shp at h1
    simp only [D.dep, e, Option.map_some, decide_eq_true_eq] at h1
    exact h1
theorem ok_pick {o : Op} {f : PyData → PyData → Bool} {g : PyData → List PyData → PyData} (hg : ∀ x xs, g x xs = xs.foldl (fun a y => if f a y then y else a) x) (hk : o.kind = 1)
    (ho : ∀ ds d, opv o ds = some d → ∃ x xs, ds = [.lst (x :: xs)] ∧ alk (x :: xs) = true ∧ d = xs.foldl (fun a y => if f a.py y.py then y else a) x) (hfr : o.fr = false) : OpOk K o (rPick K g) := by
  intro H ds vs d Q Mc e kd m h hs hn ht
  obtain ⟨x, xs, rfl, ha, rfl⟩ := ho ds d e
  obtain ⟨v, rfl, h1⟩ := h.one
  obtain ⟨a, us, rfl, hr, hn', hl, hs'⟩ := id h1
  obtain ⟨g1, g2, n, g3, g4⟩ := alk_ok ha
  obtain ⟨p1, p2, p3⟩ := Rps.dp _ _ n g3 hs'
  refine ⟨a, us, x.py, pys xs, rfl, .inl (.inl hr), by rw [pys] at p1; exact p1, by rw [pys] at g2; exact g2, by rw [pys] at p3; omega, fun i u hu hx => ?_⟩
  have eu : (x :: xs)[i]? = some (xs.foldl (fun a y => if f a.py y.py then y else a) x) := by
    obtain ⟨d', ed, rd⟩ := hs'.get' hu
    have : (pys (x :: xs))[i]? = some d'.py := by rw [pys_map, List.getElem?_map, ed]; rfl
    rw [pys, hx] at this
    have e1 : d'.py = (xs.foldl (fun a y => if f a.py y.py then y else a) x).py := by
      rw [fold_py, ← pys_map, ← hg]
      exact (Option.some.inj this).symm
    have m1 := deps_mem g1 (List.mem_of_getElem? ed)
    have m2 := deps_mem g1 (fold_pick (fun a y => f a.py y.py) xs x)
    rw [ed, py_inj _ _ m1 m2 e1]
  refine hs u (fun M _ hv => ?_) ?_ (fun z => by rw [hfr] at z; cases z)
  · obtain ⟨a1, u1, e2, q1, _, k1⟩ := hv.get (by rw [hk]; decide) (i := 0) (d := .lst (x :: xs)) (v := .ref a) rfl rfl
    cases e2
    rw [hr] at q1; cases q1
    obtain ⟨v', e3, q'⟩ := k1.get eu
    rw [hu] at e3; cases e3
    exact q'
  · obtain ⟨v', e3, q'⟩ := hs'.get eu
    rw [hu] at e3; cases e3
    exact q'
theorem ok_minl : OpOk K .minl (rPick K PySem.W.minD) := ok_pick (f := fun a y => PySem.W.dataLt y a) (fun _ _ => rfl) rfl (fun ds d e => by
  match ds, e with
  | [.lst (x :: xs)], e =>
    simp only [opv] at e
    split at e
    · rename_i hc; cases e; exact ⟨x, xs, rfl, hc, rfl⟩
    · cases e) rfl
theorem ok_maxl : OpOk K .maxl (rPick K PySem.W.maxD) := ok_pick (f := fun a y => PySem.W.dataLt a y) (fun _ _ => rfl) rfl (fun ds d e => by
  match ds, e with
  | [.lst (x :: xs)], e =>
    simp only [opv] at e
    split at e
    · rename_i hc; cases e; exact ⟨x, xs, rfl, hc, rfl⟩
    · cases e) rfl
def rPickD (K : PySem.W.Frag) (g : PyData → List PyData → PyData) : List V → Hp → VK → Prop := fun vs H Q => ∃ (a : Addr) (v0 : V) (us : List V) (xs : List PyData), vs = [.ref a, v0] ∧ SqL K H a us ∧ DpAll K H us xs ∧ PySem.W.AlikeAll xs ∧ PyData.depthAll xs ≤ 64 ∧ (xs = [] → Q v0 H) ∧
  ∀ (x : PyData) (r : List PyData) (i : Nat) v, xs = x :: r → us[i]? = some v → xs[i]? = some (g x r) → Q v H
theorem ok_pickD {o : Op} {f : PyData → PyData → Bool} {g : PyData → List PyData → PyData} (hg : ∀ x xs, g x xs = xs.foldl (fun a y => if f a y then y else a) x) (hk : o.kind = 2)
    (ho : ∀ ds d, opv o ds = some d → ∃ xs d0, ds = [.lst xs, d0] ∧ alk xs = true ∧ ((xs = [] ∧ d = d0) ∨ ∃ x r, xs = x :: r ∧ d = r.foldl (fun a y => if f a.py y.py then y else a) x)) (hfr : o.fr = false) : OpOk K o (rPickD K g) := by
  intro H ds vs d Q Mc e kd m h hs hn ht
  obtain ⟨xs, d0, rfl, ha, hd⟩ := ho ds d e
  obtain ⟨v, v0, rfl, h1, h0⟩ := h.two
  obtain ⟨a, us, rfl, hr, hn', hl, hs'⟩ := id h1
  obtain ⟨g1, g2, n, g3, g4⟩ := alk_ok ha
  obtain ⟨p1, p2, p3⟩ := Rps.dp _ _ n g3 hs'
  have cl : ∀ M, RpL o.kind K M H [.lst xs, d0] [.ref a, v0] → Rps K M H xs us ∧ Rp K M H d0 v0 := fun M hv => by
    unfold RpL at hv
    rw [hk] at hv
    have hv : Rps K M H [.lst xs, d0] [.ref a, v0] := hv
    obtain ⟨x1, y1, e3, h3, h4⟩ := hv.two
    cases e3
    obtain ⟨a2, vs2, e2, hr2, hm2, _, hs2⟩ := h3
    cases e2
    rw [hr] at hr2; cases hr2
    exact ⟨hs2, h4⟩
  refine ⟨a, v0, us, pys xs, rfl, .inl (.inl hr), p1, g2, by omega, fun hz => ?_, fun x' r' i u he hu hx => ?_⟩
  · have : xs = [] := by cases xs with | nil => rfl | cons x r => simp [pys] at hz
    subst this
    rcases hd with ⟨_, rfl⟩ | ⟨x, r, z, _⟩
    · exact hs v0 (fun M _ hv => (cl M hv).2) h0 (fun z => by rw [hfr] at z; cases z)
    · cases z
  · rcases hd with ⟨rfl, _⟩ | ⟨x, xs, rfl, rfl⟩
    · simp [pys] at he
    rw [pys] at he
    cases he
    have eu : (x :: xs)[i]? = some (xs.foldl (fun a y => if f a.py y.py then y else a) x) := by
      obtain ⟨d', ed, rd⟩ := hs'.get' hu
      have : (pys (x :: xs))[i]? = some d'.py := by rw [pys_map, List.getElem?_map, ed]; rfl
      rw [hx] at this
      have e1 : d'.py = (xs.foldl (fun a y => if f a.py y.py then y else a) x).py := by
        rw [fold_py, ← pys_map, ← hg]
        exact (Option.some.inj this).symm
      have m1 := deps_mem g1 (List.mem_of_getElem? ed)
      have m2 := deps_mem g1 (fold_pick (fun a y => f a.py y.py) xs x)
      rw [ed, py_inj _ _ m1 m2 e1]
    refine hs u (fun M _ hv => ?_) ?_ (fun z => by rw [hfr] at z; cases z)
    · obtain ⟨v', e3, q'⟩ := (cl M hv).1.get eu
      rw [hu] at e3; cases e3
      exact q'
    · obtain ⟨v', e3, q'⟩ := hs'.get eu
      rw [hu] at e3; cases e3
      exact q'
theorem ok_mind : OpOk K .mind (rPickD K PySem.W.minD) := ok_pickD (f := fun a y => PySem.W.dataLt y a) (fun _ _ => rfl) rfl (fun ds d e => by
  match ds, e with
  | [.lst [], d0], e => cases e; exact ⟨[], d, rfl, rfl, .inl ⟨rfl, rfl⟩⟩
  | [.lst (x :: xs), d0], e =>
    simp only [opv] at e
    split at e
    · rename_i hc; cases e; exact ⟨_, d0, rfl, hc, .inr ⟨x, xs, rfl, rfl⟩⟩
    · cases e) rfl
theorem ok_maxd : OpOk K .maxd (rPickD K PySem.W.maxD) := ok_pickD (f := fun a y => PySem.W.dataLt a y) (fun _ _ => rfl) rfl (fun ds d e => by
  match ds, e with
  | [.lst [], d0], e => cases e; exact ⟨[], d, rfl, rfl, .inl ⟨rfl, rfl⟩⟩
  | [.lst (x :: xs), d0], e =>
    simp only [opv] at e
    split at e
    · rename_i hc; cases e; exact ⟨_, d0, rfl, hc, .inr ⟨x, xs, rfl, rfl⟩⟩
    · cases e) rfl
end
end DC
set_option Elab.async false
set_option linter.all false
set_option maxRecDepth 100000
set_option maxHeartbeats 1000000
namespace DC
open PySem PySem.Spec PyProof.Rows L2
section
variable {X : Cx}
theorem vals_back {xs : List V} {us : List Value} {i : Nat} {u : Value} (h : Vals xs us) (e : us[i]? = some u) : ∃ x, xs[i]? = some x ∧ RelV x u := by
  have hi : i < xs.length := by
    have := (List.getElem?_eq_some_iff.mp e).1
    have := h.length
    omega
  obtain ⟨u', e1, r⟩ := h.get (List.getElem?_eq_getElem hi)
  rw [e] at e1
  cases e1
  exact ⟨_, List.getElem?_eq_getElem hi, r⟩
theorem reads_pick {h h' : Heap} {us : List Value} {ds : List PyData} {as bs : List Addr} {i : Nat} {u : Value} {d : PyData} (hr : ReadsAll h us ds as) (ha : PySem.W.AlikeAll ds) (hd : d ∈ ds) (hu : us[i]? = some u) (rd : Reads h' u d bs) (hk : ∀ b o, h.get? b = some o → h'.get? b = some o) : ds[i]? = some d := by
  obtain ⟨cs, r, hi, hm, _⟩ := PySem.W.readsAll_at hr i u hu
  have r' := PySem.W.reads_keeps hk r
  have e := PySem.W.alike_unique _ _ _ _ _ (ha.1 _ hm d hd) r' rd
  rw [List.getElem?_eq_getElem hi]
  rw [← e, List.getD_eq_getElem?_getD, List.getElem?_eq_getElem hi]
  rfl
theorem pick_in (f : PyData → PyData → Bool) : ∀ (xs : List PyData) (x : PyData), (xs.foldl (fun a y => if f a y then y else a) x) ∈ x :: xs
  | [], x => by simp
  | y :: xs, x => by
    rw [List.foldl_cons]
    have := pick_in f xs (if f x y then y else x)
    split at this
    · rename_i h; rw [if_pos h]; exact List.mem_cons_of_mem _ this
    · rename_i h
      rw [if_neg h]
      rcases List.mem_cons.mp this with h' | h'
      · rw [h']; exact List.mem_cons_self ..
      · exact List.mem_cons_of_mem _ (List.mem_cons_of_mem _ h')
theorem cr_minl {k : Nat} (hc : X.calm = true) (hr : Room k X.A) : CallR X (.builtin "min") (rPick X.K PySem.W.minD) := by
  intro pins s σ H xs us Q I r h
  obtain ⟨a, vs, x, ds, rfl, hq, hd, ha, h64, q⟩ := h
  cases r with
  | cons r rr =>
    cases rr
    cases r
    obtain ⟨its, rv, p, _⟩ := I.list hq
    obtain ⟨as, hR⟩ := Dp.readsAll I _ _ _ hd rv
    have un := hr.un
    refine PySem.W.min_list_data (vs := its.toArray) (I.ok.hd hc) p.isList hR ha (by omega) fun i v h' tk bs hv rd hk => ?_
    have hv' : its[i]? = some v := by simpa using hv
    obtain ⟨v0, e0, r0⟩ := vals_back rv hv'
    exact ⟨v0, H, I.kept (t' := tk) hk, r0, q i v0 e0 (reads_pick hR ha (pick_in (fun a y => PySem.W.dataLt y a) ds x) hv' rd hk)⟩
theorem cr_maxl {k : Nat} (hc : X.calm = true) (hr : Room k X.A) : CallR X (.builtin "max") (rPick X.K PySem.W.maxD) := by
  intro pins s σ H xs us Q I r h
  obtain ⟨a, vs, x, ds, rfl, hq, hd, ha, h64, q⟩ := h
  cases r with
  | cons r rr =>
    cases rr
    cases r
    obtain ⟨its, rv, p, _⟩ := I.list hq
    obtain ⟨as, hR⟩ := Dp.readsAll I _ _ _ hd rv
    have un := hr.un
    refine PySem.W.max_list_data (vs := its.toArray) (I.ok.hd hc) p.isList hR ha (by omega) fun i v h' tk bs hv rd hk => ?_
    have hv' : its[i]? = some v := by simpa using hv
    obtain ⟨v0, e0, r0⟩ := vals_back rv hv'
    exact ⟨v0, H, I.kept (t' := tk) hk, r0, q i v0 e0 (reads_pick hR ha (pick_in (fun a y => PySem.W.dataLt a y) ds x) hv' rd hk)⟩
theorem cr_mind {k : Nat} (hc : X.calm = true) (hr : Room k X.A) : CallRK X (.builtin "min") [Str.ofString "default"] (fun vs zs H Q => vs.length = 1 ∧ rPickD X.K PySem.W.minD (vs ++ zs) H Q) := by
  intro pins s σ H xs zs us ws Q I r rz h
  obtain ⟨h1, a, v0, vs, ds, e, hq, hd, ha, h64, q0, q⟩ := h
  match xs, h1, e, r with
  | [x0], _, e, r =>
    cases e
    obtain rfl := Vals.ref1 r
    obtain ⟨c0, rfl, rz0⟩ := vals1 rz
    next =>
      next =>
        show wpAny _ _ (call _ [.ref a] [(Str.ofString "default", c0)]) _ _ _
        obtain ⟨its, rv, p, _⟩ := I.list hq
        obtain ⟨as, hR⟩ := Dp.readsAll I _ _ _ hd rv
        have un := hr.un
        refine PySem.W.min_list_default (vs := its.toArray) (I.ok.hd hc) p.isList hR ha (by omega) (fun hz h' tk hk => ⟨v0, H, I.kept (t' := tk) hk, rz0, q0 hz⟩) fun y ys i v h' tk bs he hv rd hk => ?_
        have hv' : its[i]? = some v := by simpa using hv
        obtain ⟨u0, e0, r0⟩ := vals_back rv hv'
        have hm := pick_in (fun a y => PySem.W.dataLt y a) ys y
        rw [← he] at hm
        exact ⟨u0, H, I.kept (t' := tk) hk, r0, q y ys i u0 he e0 (reads_pick hR ha hm hv' rd hk)⟩
theorem cr_maxd {k : Nat} (hc : X.calm = true) (hr : Room k X.A) : CallRK X (.builtin "max") [Str.ofString "default"] (fun vs zs H Q => vs.length = 1 ∧ rPickD X.K PySem.W.maxD (vs ++ zs) H Q) := by
  intro pins s σ H xs zs us ws Q I r rz h
  obtain ⟨h1, a, v0, vs, ds, e, hq, hd, ha, h64, q0, q⟩ := h
  match xs, h1, e, r with
  | [x0], _, e, r =>
    cases e
    obtain rfl := Vals.ref1 r
    obtain ⟨c0, rfl, rz0⟩ := vals1 rz
    next =>
      next =>
        show wpAny _ _ (call _ [.ref a] [(Str.ofString "default", c0)]) _ _ _
        obtain ⟨its, rv, p, _⟩ := I.list hq
        obtain ⟨as, hR⟩ := Dp.readsAll I _ _ _ hd rv
        have un := hr.un
        refine PySem.W.max_list_default (vs := its.toArray) (I.ok.hd hc) p.isList hR ha (by omega) (fun hz h' tk hk => ⟨v0, H, I.kept (t' := tk) hk, rz0, q0 hz⟩) fun y ys i v h' tk bs he hv rd hk => ?_
        have hv' : its[i]? = some v := by simpa using hv
        obtain ⟨u0, e0, r0⟩ := vals_back rv hv'
        have hm := pick_in (fun a y => PySem.W.dataLt a y) ys y
        rw [← he] at hm
        exact ⟨u0, H, I.kept (t' := tk) hk, r0, q y ys i u0 he e0 (reads_pick hR ha hm hv' rd hk)⟩
end
end DC
set_option Elab.async false
set_option linter.all false
set_option maxRecDepth 100000
set_option maxHeartbeats 1000000
namespace DC
open PySem PySem.Spec L2

structure TrC where
  N : List Str
  md : List Bool
  dk : Nat
  dc : Str → Bool
  sg : Str → List (Nat × List Str)
  tbl : Bool := false
def ixS : List Str → Str → Option Nat
  | [], _ => none
  | y :: r, x => if y = x then some 0 else (ixS r x).map (· + 1)
theorem ixS_get : ∀ {N : List Str} {x : Str} {i : Nat}, ixS N x = some i → N[i]? = some x
  | [], _, _, h => by cases h
  | y :: r, x, i, h => by
    unfold ixS at h
    split at h
    · rename_i e; cases h; simp [e]
    · obtain ⟨j, e1, rfl⟩ := map_opt h
      simpa using ixS_get e1
def visB (sc : Scope) (x : Str) : Bool := match sc.names.lookup x with
  | some .local => true
  | some .cell => true
  | some .free => true
  | _ => false
def locB (sc : Scope) (x : Str) : Bool := match sc.names.lookup x with
  | some .local => true
  | some .cell => true
  | _ => false
def glB (sc : Scope) (x : Str) : Bool := match sc.names.lookup x with
  | some .globalImplicit => true
  | _ => false
def oddName (x : Str) : Bool := x == ("__debug__" : Str) || x == ("__classdict__" : Str) || x == ("__name__" : Str)
def plainE : Expr → Bool
  | .Starred _ _ => false
  | .Set _ _ _ => false
  | .Slice _ _ _ _ => false
  | _ => true
def recvOk : Expr → Bool
  | .Call _ [] _ _ => false
  | .Call (.Name _ _) _ _ _ => true
  | .Name _ _ => true
  | .Constant _ _ _ => true
  | .Subscript _ _ _ => true
  | _ => false
def opB : Operator → Option Op
  | .Add => some .add
  | .Sub => some .sub
  | .Mult => some .mul
  | .FloorDiv => some .fdiv
  | .Mod => some .mod
  | .Pow => some .pow
  | _ => none
def opC : CmpOp → Option Op
  | .Eq => some .eq
  | .NotEq => some .ne
  | .Lt => some .lt
  | .LtE => some .le
  | .Gt => some .gt
  | .GtE => some .ge
  | .Is => some .isn
  | .IsNot => some .notn
  | .In => some .isin
  | .NotIn => some .notin
def bltF (f : Str) (n : Nat) : Option Op :=
  if f = "len" ∧ n = 1 then some .len else if f = "all" ∧ n = 1 then some .all else if f = "any" ∧ n = 1 then some .any else if f = "sum" ∧ n = 1 then some .sum
  else if f = "abs" ∧ n = 1 then some .abs else if f = "max" ∧ n = 2 then some .max2 else if f = "min" ∧ n = 2 then some .min2
  else if f = "max" ∧ n = 1 then some .maxl else if f = "min" ∧ n = 1 then some .minl else none
def bltT (f : Str) (n : Nat) : Option Op :=
  if f = "list" ∧ n = 1 then some .list else if f = "tuple" ∧ n = 1 then some .tuple else if f = "int" ∧ n = 1 then some .int else none
def bltN : List Str := ["len", "all", "any", "sum", "abs", "max", "min", "list", "tuple", "int", "isinstance", "str", "bool", "range", "enumerate", "zip", "reversed", "sorted", "dict"]
def isiT (t : Str) : Option String :=
  if t = "str" then some "str" else if t = "int" then some "int" else if t = "bool" then some "bool" else if t = "list" then some "list" else if t = "tuple" then some "tuple" else none
def trA (f : Expr → Option Ex) : List Expr → Option Ex
  | [] => some .nil
  | e :: es => if plainE e then match f e, trA f es with
      | some a, some r => some (.cons a r)
      | _, _ => none
    else none
def mkB : BoolOp → Ex → Ex → Ex
  | .And, a, r => .and a r
  | .Or, a, r => .or a r
def trB (f : Expr → Option Ex) (op : BoolOp) : List Expr → Option Ex
  | [] => none
  | [e] => f e
  | e :: es => match f e, trB f op es with
    | some a, some r => some (mkB op a r)
    | _, _ => none
def trPs (f : Expr → Option Pat) : List Expr → Option Pat
  | [] => some .nil
  | e :: es => if plainE e then match f e, trPs f es with
      | some a, some r => some (.cons a r)
      | _, _ => none
    else none
def trP (N : List Str) (md : List Bool) (dk : Nat) (sc : Scope) : Nat → Expr → Option Pat
  | 0, _ => none
  | _ + 1, .Name x _ => if locB sc x && !oddName x then (ixS N x).bind (fun i => if i = dk ∨ md.getD i false = true then none else some (.nm i)) else none
  | n + 1, .Tuple es _ _ => trPs (trP N md dk sc n) es
  | _, _ => none
def ownOf (N : List Str) (sc : Scope) : List (Str × Nat) := sc.names.filterMap fun p => match p.2 with
  | .local => (ixS N p.1).map fun i => (p.1, i)
  | .cell => (ixS N p.1).map fun i => (p.1, i)
  | _ => none
def wayIx (l : List (Nat × List Str)) (n : Nat) (ks : List Str) : Option Nat := match l with
  | [] => none
  | p :: r => if p.1 = n ∧ p.2 = ks then some 0 else (wayIx r n ks).map (· + 1)
theorem wayIx_get : ∀ {l : List (Nat × List Str)} {n : Nat} {ks : List Str} {i : Nat}, wayIx l n ks = some i → l[i]? = some (n, ks)
  | [], _, _, _, h => by cases h
  | p :: r, n, ks, i, h => by
    unfold wayIx at h
    split at h
    · rename_i e; cases h; obtain ⟨e1, e2⟩ := e; subst e1; subst e2; rfl
    · obtain ⟨j, e1, rfl⟩ := map_opt h
      simpa using wayIx_get e1
def kwNames : List Keyword → Option (List Str)
  | [] => some []
  | ⟨some x, _, _⟩ :: r => (kwNames r).map (x :: ·)
  | ⟨none, _, _⟩ :: _ => none
def kwVals : List Keyword → List Expr
  | [] => []
  | ⟨_, e, _⟩ :: r => e :: kwVals r
def quiet : Ex → Bool
  | .cons a r => quiet a && quiet r
  | .op _ a => quiet a
  | .and a b => quiet a && quiet b
  | .or a b => quiet a && quiet b
  | .not a => quiet a
  | .ife t a b => quiet t && quiet a && quiet b
  | .chn _ _ a b d => quiet a && quiet b && quiet d
  | .comp _ _ it _ _ => quiet it
  | .call _ _ _ _ _ => false
  | .tget a b => quiet a && quiet b
  | _ => true
def isStrC : Ex → Bool
  | .cst (.str _) => true
  | _ => false
def isIntC : Ex → Bool
  | .cst (.int _) => true
  | _ => false
def s3Ok : Ex → Bool
  | .cons _ (.cons b (.cons d .nil)) => isIntC b || quiet d
  | _ => false
def m1Ok : Ex → Bool
  | .cons o (.cons e .nil) => isStrC o || quiet e
  | _ => false
def meth1 (m : Str) : Option Op := if m = "join" then some .join else if m = "split" then some .split else if m = "strip" then some .strip else if m = "count" then some .count else none
def meth0 (m : Str) : Option Op := if m = "upper" then some .upper else if m = "lower" then some .lower else none

def trRng (f : Expr → Option Ex) : List Expr → Option Ex
  | [a] => (trA f [a]).map (.op (.rng 1))
  | [a, b] => (trA f [a, b]).map (.op (.rng 2))
  | [a, b, d] => (trA f [a, b, d]).map (.op (.rng 3))
  | _ => none
def trEnm (f : Expr → Option Ex) : List Expr → Expr → Option Ex
  | [a], .Tuple _ _ _ => (trA f [a]).map (.op .enm)
  | _, _ => none
def trZip (f : Expr → Option Ex) : List Expr → Expr → Option Ex
  | [a, b], .Tuple _ _ _ => (trA f [a, b]).map (.op .zip)
  | _, _ => none
def trRev (f : Expr → Option Ex) : List Expr → Option Ex
  | [a] => (trA f [a]).map (.op .rev)
  | _ => none
def trI (f : Expr → Option Ex) (sc : Scope) (tg : Expr) : Expr → Option Ex
  | .Call (.Name g p) args [] pos =>
    if glB sc g && decide (g = "range") then trRng f args
    else if glB sc g && decide (g = "enumerate") then trEnm f args tg
    else if glB sc g && decide (g = "zip") then trZip f args tg
    else if glB sc g && decide (g = "reversed") then trRev f args
    else f (.Call (.Name g p) args [] pos)
  | e => f e
def trIfs (f : Expr → Option Ex) : List Expr → Option Ex
  | [] => some (.cst (.bl true))
  | [t] => f t
  | _ => none
def trDf (fe : Expr → Option Ex) (f : Str) : List Expr → List Keyword → Option Ex
  | [e], [⟨some n, d, _⟩] => if n = ("default" : Str) then (match trA fe [e, d] with
    | some (.cons e' (.cons d' .nil)) => if f = "max" then some (.op .maxd (.cons e' (.cons d' .nil))) else if f = "min" then some (.op .mind (.cons e' (.cons d' .nil))) else none
    | _ => none) else none
  | _, _ => none
def trIsi (fe : Expr → Option Ex) (sc : Scope) (f : Str) (args : List Expr) (kws : List Keyword) : Option Ex := match decide (f = "isinstance"), args, kws with
  | true, [e, .Name t _], [] => match glB sc t, isiT t, trA fe [e] with
    | true, some t', some l => some (.op (.isi t') l)
    | _, _, _ => none
  | _, args, kws => trDf fe f args kws
def trCall (c : TrC) (fe : Expr → Option Ex) (sc : Scope) (f : Str) (args : List Expr) (kws : List Keyword) : Option Ex := match c.dc f, args with
  | true, .Name d _ :: rest => match !c.tbl && decide (ixS c.N d = some c.dk), visB sc d && !oddName d, kws, trA fe rest, wayIx (c.sg f) (rest.length + 1) [] with
    | true, true, [], some l, some w => some (.call f true w l .nil)
    | _, _, _, _, _ => none
  | false, e :: es => match kwNames kws, trA fe (e :: es), trA fe (kwVals kws) with
    | some ks, some l, some l' => match wayIx (c.sg f) (e :: es).length ks with
      | some w => some (.call f false w l l')
      | _ => none
    | _, _, _ => none
  | _, _ => none
def dgI (c : TrC) (sc : Scope) : Expr → Expr → Option Nat
  | .Name d _, .Constant (.int i) _ _ => if !c.tbl && decide (ixS c.N d = some c.dk) && visB sc d && !oddName d && decide (i = 0 ∨ i = 1) then some i.toNat else none
  | _, _ => none
def tgI (c : TrC) (sc : Scope) : Expr → Option Expr
  | .Subscript (.Name d _) e _ => if c.tbl && decide (ixS c.N d = some c.dk) && visB sc d && !oddName d && plainE e then some e else none
  | _ => none
def methL (m : Str) (e' : Ex) : Option Op := if m = "count" ∧ isStrC e' = false then some .lcount else if m = "index" then some .index else none
def isRevS : Expr → Bool
  | .Slice none none (some (.UnaryOp .USub (.Constant (.int 1) _ _) _)) _ => true
  | _ => false
def trMore (c : TrC) (f : Expr → Option Ex) (sc : Scope) : Expr → Option Ex
  | .Call (.Attribute o m ap) [e] [] cp => if recvOk o && (ap.endLine == cp.line) then (match trA f [o, e] with
      | some (.cons o' (.cons e' .nil)) => (match methL m e', quiet e' with
        | some q, true => some (.op q (.cons o' (.cons e' .nil)))
        | _, _ => none)
      | _ => none) else none
  | .Subscript a sl _ => if isRevS sl then (trA f [a]).map (.op .revs) else none
  | _ => none
def tr (c : TrC) : Nat → Scope → Expr → Option Ex
  | 0, _, _ => none
  | _ + 1, _, .Constant .none _ _ => some (.cst .non)
  | _ + 1, _, .Constant (.bool b) _ _ => some (.cst (.bl b))
  | _ + 1, _, .Constant (.int i) _ _ => some (.cst (.int i))
  | _ + 1, _, .Constant (.str s) _ _ => if s.cps.toList.all (· < 128) && decide (s.cps.toList.length ≤ 1000) then some (.cst (.str s.cps.toList)) else none
  | _ + 1, sc, .Name x _ => if oddName x then none else if visB sc x then (ixS c.N x).bind (fun i => if i = c.dk then none else some (.var i)) else if glB sc x then some (.glb x) else none
  | n + 1, sc, .BinOp a o b _ => match opB o, trA (tr c n sc) [a, b] with
    | some o', some l => some (.op o' l)
    | _, _ => none
  | n + 1, sc, .UnaryOp .Not a _ => (tr c n sc a).map .not
  | n + 1, sc, .UnaryOp .USub a _ => (trA (tr c n sc) [a]).map (.op .neg)
  | n + 1, sc, .BoolOp o es _ => trB (tr c n sc) o es
  | n + 1, sc, .Compare a [o] [b] _ => match opC o, trA (tr c n sc) [a, b] with
    | some o', some l => some (.op o' l)
    | _, _ => none
  | n + 1, sc, .Compare a [o, p] [b, d] _ => match opC o, opC p, tr c n sc a, tr c n sc b, tr c n sc d, plainE d with
    | some o', some p', some a', some b', some d', true => some (.chn o' p' a' b' d')
    | _, _, _, _, _, _ => none
  | n + 1, sc, .IfExp t a b _ => match tr c n sc t, tr c n sc a, tr c n sc b with
    | some t', some a', some b' => some (.ife t' a' b')
    | _, _, _ => none
  | n + 1, sc, .Subscript a (.Slice none none none _) _ => (trA (tr c n sc) [a]).map (.op (.slc false false))
  | n + 1, sc, .Subscript a (.Slice (some l) none none _) _ => (trA (tr c n sc) [a, l]).map (.op (.slc true false))
  | n + 1, sc, .Subscript a (.Slice none (some h) none _) _ => (trA (tr c n sc) [a, h]).map (.op (.slc false true))
  | n + 1, sc, .Subscript a (.Slice (some l) (some h) none _) _ => (trA (tr c n sc) [a, l, h]).bind fun z => if s3Ok z then some (.op (.slc true true) z) else none
  | n + 1, sc, .Subscript a (.Slice none none (some st) p1) p2 => trMore c (tr c n sc) sc (.Subscript a (.Slice none none (some st) p1) p2)
  | n + 1, sc, .Subscript a b _ => match dgI c sc a b with
    | some i => some (.dget i)
    | none => match tgI c sc a with
      | some e => (match trA (tr c n sc) [e, b] with
        | some (.cons e' (.cons b' .nil)) => if quiet b' then some (.tget e' b') else none
        | _ => none)
      | none => (trA (tr c n sc) [a, b]).map (.op .idx)
  | n + 1, sc, .List es _ => (trA (tr c n sc) es).map (.op .lstd)
  | n + 1, sc, .Tuple es _ _ => (trA (tr c n sc) es).map (.op .tupd)
  | n + 1, sc, .ListComp elt [⟨tg, iter, ifs, 0⟩] scope _ =>
    match blkC c.N sc scope (ownOf c.N scope) && !(((ownOf c.N scope).map (·.2)).contains c.dk), trP c.N c.md c.dk scope 3 tg, trI (tr c n sc) sc tg iter, trIfs (tr c n scope) ifs, tr c n scope elt, plainE iter with
    | true, some p, some it, some cd, some el, true => if tpc c.md it then some (.comp ((ownOf c.N scope).map (·.2)) p it cd el) else none
    | _, _, _, _, _, _ => none
  | n + 1, sc, .Call (.Name f _) args kws _ =>
    if glB sc f && !oddName f then
      match bltF f args.length, bltT f args.length, kws with
      | some o, _, [] => (trA (tr c n sc) args).map (.op o)
      | none, some o, [] => (trA (tr c n sc) args).map (.op o)
      | _, _, _ =>
        if bltN.contains f then trIsi (tr c n sc) sc f args kws else trCall c (tr c n sc) sc f args kws
    else none
  | n + 1, sc, .Call (.Attribute o m ap) args [] cp =>
    if recvOk o && (ap.endLine == cp.line) then match args, meth0 m, meth1 m with
      | [], some q, _ => (trA (tr c n sc) [o]).map (.op q)
      | [e], _, some q => (match trMore c (tr c n sc) sc (.Call (.Attribute o m ap) [e] [] cp) with
        | some x => some x
        | none => (trA (tr c n sc) [o, e]).bind fun l => if m1Ok l then some (.op q l) else none)
      | _, _, _ => trMore c (tr c n sc) sc (.Call (.Attribute o m ap) args [] cp)
    else none
  | n + 1, sc, e => trMore c (tr c n sc) sc e
end DC
set_option Elab.async false
set_option linter.all false
set_option maxRecDepth 100000
set_option maxHeartbeats 1000000
namespace DC
open PySem PySem.Spec L2

def dV : D → V
  | .non => .non
  | .bl b => .bl b
  | .int i => .int i
  | .str s => .str ⟨s.toArray⟩
  | _ => .non
def arrV (l : Option (List (Nat ⊕ D))) (vs : List V) : List V := match l with
  | none => vs
  | some l => l.map fun | .inl i => vs.getD i .non | .inr d => dV d
def okC : D → Bool
  | .non => true
  | .bl _ => true
  | .int _ => true
  | .str s => s.all (· < 128) && decide (s.length ≤ 1000)
  | _ => false
theorem dV_rp {K : PySem.W.Frag} {M : MS} {H : Hp} {d : D} (h : okC d = true) : Rp K M H d (dV d) := by
  cases d with
  | non => rfl
  | bl _ => rfl
  | int _ => rfl
  | str s =>
    simp only [okC, Bool.and_eq_true, List.all_eq_true, decide_eq_true_eq] at h
    exact ⟨rfl, by rw [szl]; omega, h.1⟩
  | _ => cases h
def spD (K : PySem.W.Frag) (mg : Str → Option Value) (fs : Fs) : Sp := fun vs H Q E => ∃ ds δ Mc pd, vs.length = fs.np ∧ KD K H ∧ MOk Mc H ∧
  (if fs.dice = true then ∃ a r, vs = .ref a :: r ∧ pd = some a ∧ Mc a ∧ H a = some (.lst [.int δ.1, .int δ.2.1]) ∧ Rps K Mc H ds r else pd = none ∧ Rps K Mc H ds vs) ∧
  match fs.sem ds δ with
  | .ok d δ' => ∀ v H', KD K H' → Ext (fun a => pd = some a) H H' → (∀ a, pd = some a → H' a = some (.lst [.int δ'.1, .int δ'.2.1])) → Rp K Mc H' d v → (fs.fr = true → Fresh K Mc H H' d v) → Q v H'
  | .exc x δ' => ∀ cls dd H', Ext (fun a => pd = some a) H H' → (∀ a, pd = some a → H' a = some (.lst [.int δ'.1, .int δ'.2.1])) → ExcIs mg K Mc H' x cls dd → E cls dd H'
  | .stk => False
structure FnD (P : Program) (w : World) (K : PySem.W.Frag) (mg : Str → Option Value) (base : Heap) (k : Nat) (f : Str) (fs : Fs) : Prop where
  ex : ∃ (a : Addr) (fd : FuncData) (ps : List Str), mg f = some (.ref a) ∧ PySem.W.keepIn K (.ref a) = true ∧ FnOk P w K mg base (L2.CX P w) k a fd ps (spD K mg fs) ∧
    ∀ (i : Nat) p, fs.pats[i]? = some p → (fs.dice = true → p.2.2 = none) ∧ (match p.2.2 with | none => p.1 + p.2.1.length | some l => l.length) = fs.np ∧ (∀ l, p.2.2 = some l → ∀ d, .inr d ∈ l → okC d = true) ∧ ∃ g gV, KBn K fd ps p.1 p.2.1 g gV ∧ ∀ vs zs, vs.length = p.1 → zs.length = p.2.1.length → gV vs zs = arrV p.2.2 (vs ++ zs)
structure COk (X : Cx) (C : Cz) (c : TrC) (sc : Scope) (k : Nat) : Prop where
  K : C.K = X.K
  mg : C.mg = X.mg
  N : X.N = c.N
  md : C.md = c.md
  nd : c.N.Nodup
  calm : X.calm = true
  room : Room k X.A
  dk : C.kd = c.dk
  vis : ∀ x, visB sc x = true → Vis X.env.scope x
  gl : ∀ x, glB sc x = true → Gl X x
  loc : ∀ x, locB sc x = true → Loc X.env.scope x ∧ (X.fn x = true ∨ X.env.scope.names.lookup x = some .local)
  fre : ∀ x, (sc.names.lookup x = some .cell ∨ sc.names.lookup x = some .free) → (X.env.scope.names.lookup x = some .cell ∨ X.env.scope.names.lookup x = some .free)
  fns : ∀ f fs, C.Γ.fn f = some fs → FnD X.prog X.w X.K X.mg X.base k f fs ∧ fs.pats.map (fun p => (p.1, p.2.1)) = c.sg f ∧ fs.dice = c.dc f
  cst : ∀ x d, C.Γ.cs x = some d → ∃ u v, X.mg x = some u ∧ RelV v u ∧ ∀ M H, Rp X.K M H d v
  blt : ∀ x ∈ bltN, X.mg x = none
  tk : Takes X (fun cls d _ H => C.E cls d H)
  pdk : c.tbl = false → c.dk < c.N.length → ∃ a, C.pd = some a
  tdk : c.tbl = true → c.dk < c.N.length → ∃ ta ras, C.tb = some (ta, ras)

section
variable {X : Cx} {C : Cz} {c : TrC} {sc : Scope} {k : Nat}
theorem plain_star {e : Expr} (h : plainE e = true) (es : List Expr) (env : Env) : starEach (e :: es) env = (false, eval e env) :: starEach es env := by
  cases e <;> first | rfl | cases h
theorem trA_star {f : Expr → Option Ex} : ∀ {es : List Expr} {l : Ex}, trA f es = some l → ∀ (pos : Pos) (env : Env), (backTo pos (starEach es env)).any (·.1) = false
  | [], _, _, _, _ => rfl
  | e :: es, l, h, pos, env => by
    unfold trA at h
    split at h
    · rename_i hp
      rw [plain_star hp]
      cases e1 : f e <;> cases e2 : trA f es <;> simp only [e1, e2] at h <;> try cases h
      simpa [backTo] using trA_star e2 pos env
    · cases h
theorem sA {f : Expr → Option Ex} (ih : ∀ e x, f e = some x → PE X e (tD C x)) : ∀ es l, trA f es = some l → PA X es (tDs C l)
  | [], l, h => by cases h; exact pa_nil'
  | e :: es, l, h => by
    unfold trA at h
    split at h
    · rename_i hp
      cases e1 : f e <;> cases e2 : trA f es <;> simp only [e1, e2] at h <;> try cases h
      exact pa_cons' (ih e _ e1) (sA ih es _ e2) (plain_star hp _ _)
    · cases h
theorem trA1 {f : Expr → Option Ex} {a : Expr} {l : Ex} (h : trA f [a] = some l) : ∃ a', l = .cons a' .nil ∧ f a = some a' ∧ plainE a = true := by
  unfold trA at h
  split at h
  · rename_i hp
    cases e1 : f a <;> simp only [e1, trA] at h <;> cases h
    exact ⟨_, rfl, rfl, hp⟩
  · cases h
theorem trA2 {f : Expr → Option Ex} {a b : Expr} {l : Ex} (h : trA f [a, b] = some l) : ∃ a' b', l = .cons a' (.cons b' .nil) ∧ f a = some a' ∧ f b = some b' ∧ plainE a = true ∧ plainE b = true := by
  unfold trA at h
  split at h
  · rename_i hp
    cases e1 : f a <;> cases e2 : trA f [b] <;> simp only [e1, e2] at h <;> cases h
    obtain ⟨b', rfl, e3, e4⟩ := trA1 e2
    exact ⟨_, b', rfl, rfl, e3, hp, e4⟩
  · cases h
theorem trA3 {f : Expr → Option Ex} {a b d : Expr} {l : Ex} (h : trA f [a, b, d] = some l) : ∃ a' b' d', l = .cons a' (.cons b' (.cons d' .nil)) ∧ f a = some a' ∧ f b = some b' ∧ f d = some d' := by
  unfold trA at h
  split at h
  · rename_i hp
    cases e1 : f a <;> cases e2 : trA f [b, d] <;> simp only [e1, e2] at h <;> cases h
    obtain ⟨b', d', rfl, e3, e4, _⟩ := trA2 e2
    exact ⟨_, b', d', rfl, rfl, e3, e4⟩
  · cases h
theorem tD_eq3 {a b d : Ex} {σ : St} {H : Hp} {R : V → V → V → Hp → Prop} (h : tDs C (.cons a (.cons b (.cons d .nil))) σ H fun vs H' => ∃ x y z, vs = [x, y, z] ∧ R x y z H') :
    tD C a σ H fun x H1 => tD C b σ H1 fun y H2 => tD C d σ H2 fun z H3 => R x y z H3 :=
  tD_mono (tDs_cons h) fun v H1 h1 => tD_eq2 (tDs_mono h1 fun vs H2 ⟨x, y, z, e, q⟩ => by cases e; exact ⟨y, z, rfl, q⟩)

theorem pe_varD {i : Nat} {x : Str} {pos : Pos} (ok : COk X C c sc k) (hN : c.N[i]? = some x) (hv : visB sc x = true) (ho : oddName x = false) : PE X (.Name x pos) (tD C (.var i)) := by
  have h1 : (x == ("__debug__" : Str)) = false ∧ (x == ("__classdict__" : Str)) = false := by
    unfold oddName at ho
    cases e1 : x == ("__debug__" : Str) <;> cases e2 : x == ("__classdict__" : Str) <;> simp [e1, e2] at ho ⊢
  refine PE.to (pe_var (by rw [ok.N]; exact hN) (ok.vis x hv) h1.1 h1.2) fun σ H Q h => ?_
  obtain ⟨ρ, δ, M, S, h⟩ := h
  simp only [ev] at h
  cases e : ρ[i]? with
  | none => rw [e] at h; exact h.elim
  | some o =>
    cases o with
    | none => rw [e] at h; exact h.elim
    | some d =>
      rw [e] at h
      obtain ⟨v, e1, r1, r2, r3, r4⟩ := S.slot i d e
      refine ⟨v, e1, h v H S.kd (Ext.refl _ _) S.dice ⟨r1, fun z => r3 (by simpa [cln] using z), fun _ => r2, fun z => by simp [frs] at z⟩⟩
theorem pe_cstD {e : Expr} {d : D} {v : V} (h : PE X e (tC v)) (hr : ∀ M H, Rp C.K M H d v) : PE X e (tD C (.cst d)) := PE.to h fun σ H Q h => by
  obtain ⟨ρ, δ, M, S, h⟩ := h
  exact h v H S.kd (Ext.refl _ _) S.dice ⟨hr _ _, fun _ => hr _ _, fun _ => (hr _ _).top, fun z => by simp [frs] at z⟩
theorem pe_glbD {x : Str} {pos : Pos} (ok : COk X C c sc k) (hg : glB sc x = true) (ho : oddName x = false) : PE X (.Name x pos) (tD C (.glb x)) := by
  have h1 : (x == ("__debug__" : Str)) = false := by
    unfold oddName at ho
    cases e1 : x == ("__debug__" : Str) <;> simp [e1] at ho ⊢
  cases e : C.Γ.cs x with
  | none =>
    refine ⟨fun pins s σ H Q I h => ?_⟩
    obtain ⟨ρ, δ, M, S, h⟩ := h
    simp only [ev, e] at h
  | some d =>
    obtain ⟨u, v, e1, e2, e3⟩ := ok.cst x d e
    refine PE.to (pe_glob (ok.gl x hg) e1 e2 h1) fun σ H Q h => ?_
    obtain ⟨ρ, δ, M, S, h⟩ := h
    simp only [ev, e] at h
    rw [← ok.K] at e3
    exact h v H S.kd (Ext.refl _ _) S.dice ⟨e3 _ _, fun _ => e3 _ _, fun _ => (e3 _ _).top, fun z => by simp [frs] at z⟩

def BinOk (X : Cx) (o : Operator) (o' : Op) : Prop := ∃ r, OpR X (binaryOp o) r ∧ OpOk X.K o' (r2 r)
theorem bin_ok {o : Operator} {o' : Op} (h : opB o = some o') : BinOk X o o' := by
  cases o <;> simp only [opB] at h <;> cases h
  · exact ⟨_, op_add.or (op_add_str.or (op_cat.or op_catA)), ok_add⟩
  · exact ⟨_, op_sub, ok_sub⟩
  · exact ⟨_, (op_mul.or op_rep).or op_mulW, ok_mul⟩
  · exact ⟨_, op_mod, ok_mod⟩
  · exact ⟨_, op_pow, ok_pow⟩
  · exact ⟨_, op_fdivW, ok_fdiv⟩
def CmpOk (X : Cx) (o : CmpOp) (o' : Op) : Prop := ∃ r, OpR X (compareOp o) r ∧ OpOk X.K o' (r2 r)
theorem OpR.to {f : Value → Value → Sem Value} {r r' : R2} (h : OpR X f r) (w : ∀ x y H Q, r' x y H Q → r x y H Q) : OpR X f r' := fun pins s σ H x y v u Q I rx ry q => h pins s σ H x y v u Q I rx ry (w x y H Q q)
theorem cmp_ok {o : CmpOp} {o' : Op} (hr : Room k X.A) (h : opC o = some o') : CmpOk X o o' := by
  have hu : X.A.units + 65 < cLine := by have := hr.un; omega
  cases o <;> simp only [opC] at h <;> cases h
  · exact ⟨_, op_eqD hr.units, ok_eq⟩
  · exact ⟨_, op_neD hr.units, ok_ne⟩
  · exact ⟨_, op_lt.or op_lt_str, ok_lt⟩
  · exact ⟨_, op_le.or op_le_str, ok_le⟩
  · exact ⟨_, op_gt.or op_gt_str, ok_gt⟩
  · exact ⟨_, op_ge.or op_ge_str, ok_ge⟩
  · exact ⟨_, op_isN, ok_isn⟩
  · exact ⟨_, op_notN, ok_notn⟩
  · exact ⟨_, (op_inD hu).or (op_in_seq.or (op_in_sign.or op_in_str)), ok_isin.to (r2_to fun x y H Q q => by simpa [rIns, rInD] using q)⟩
  · exact ⟨_, (op_notInD hu).or (op_notIn_seq.or (op_notIn_sign.or op_notIn_str)), ok_notin.to (r2_to fun x y H Q q => by simpa [rIns, rNotInD] using q)⟩
theorem tOpD {o' : Op} {r : R2} {a b : Ex} {σ : St} {H : Hp} {Q : VK} (ok : OpOk C.K o' (r2 r)) (h : tD C (.op o' (.cons a (.cons b .nil))) σ H Q) : tOp r (tD C a) (tD C b) σ H fun v H' => KD C.K H' → Q v H' :=
  tD_eq2 (op_red ok h)
theorem pe_binD {a b : Expr} {a' b' : Ex} {o : Operator} {o' : Op} {pos : Pos} (ok : COk X C c sc k) (h : opB o = some o') (ha : PE X a (tD C a')) (hb : PE X b (tD C b')) : PE X (.BinOp a o b pos) (tD C (.op o' (.cons a' (.cons b' .nil)))) := by
  obtain ⟨r, h1, h2⟩ := bin_ok (X := X) h
  refine PE.to (PE.kd (pe_op h1 ha hb)) fun σ H Q h => ?_
  rw [← ok.K] at h2
  rw [← ok.K]
  exact tOpD h2 h
theorem mark_ok {b : Expr} (h : plainE b = true) (op : CmpOp) : behindInMarks op b = false := by cases b <;> first | rfl | cases h
theorem pe_cmpD {a b : Expr} {a' b' : Ex} {o : CmpOp} {o' : Op} {pos : Pos} (ok : COk X C c sc k) (h : opC o = some o') (hp : plainE b = true) (ha : PE X a (tD C a')) (hb : PE X b (tD C b')) : PE X (.Compare a [o] [b] pos) (tD C (.op o' (.cons a' (.cons b' .nil)))) := by
  obtain ⟨r, h1, h2⟩ := cmp_ok (X := X) ok.room h
  refine PE.to (PE.kd (pe_cmpR h1 ha hb (mark_ok hp o))) fun σ H Q h => ?_
  rw [← ok.K] at h2
  rw [← ok.K]
  exact tOpD h2 h
theorem op_redT {o : Op} {r : List V → Hp → VK → Prop} {args : Ex} {σ : St} {H : Hp} {Q : Bool → Hp → Prop} (ok : OpOk C.K o r) (h : tDT C (.op o args) σ H Q) : tDs C args σ H fun vs H' => r vs H' fun x H2 => ∃ k, x = .bl k ∧ (KD C.K H2 → Q k H2) := by
  obtain ⟨ρ, δ, M, S, h⟩ := h
  refine ⟨ρ, δ, M, S, ?_⟩
  simp only [ev] at h
  cases e : ev C.Γ args ρ δ with
  | stk => rw [e] at h; exact h
  | exc y δ' => rw [e] at h; exact h
  | ok ds δ1 =>
    rw [e] at h
    simp only [Res.bind] at h
    cases ds with
    | tup ds =>
      simp only at h ⊢
      intro vs H1 k1 x1 dc1 V1
      cases e2 : opv o ds with
      | none => rw [e2] at h; exact h.elim
      | some d =>
        rw [e2] at h
        have S1 := S.step x1 dc1 k1
        cases d with
        | bl b =>
          refine ok H1 ds vs (.bl b) _ C.Mc e2 k1 S1.mokc V1.rc (fun v hv hc hf => ⟨b, hc, fun k2 => h H1 k2 x1 dc1⟩) (fun es us p ed => nomatch ed) (fun es us p ed => nomatch ed)
        | _ => exact h.elim
    | _ => exact h.elim
theorem pt_cmpD {a b : Expr} {a' b' : Ex} {o : CmpOp} {o' : Op} {pos : Pos} (ok : COk X C c sc k) (h : opC o = some o') (hp : plainE b = true) (ha : PE X a (tD C a')) (hb : PE X b (tD C b')) : PT X (.Compare a [o] [b] pos) (tDT C (.op o' (.cons a' (.cons b' .nil)))) := by
  obtain ⟨r, h1, h2⟩ := cmp_ok (X := X) ok.room h
  refine PT.to (PT.kd (pt_cmpR h1 ha hb (mark_ok hp o))) fun σ H Q h => ?_
  rw [← ok.K] at h2
  rw [← ok.K]
  exact tD_eq2 (op_redT h2 h)
theorem tChD {o p : Op} {r r' : R2} {a b d : Ex} {σ : St} {H : Hp} {R T : V → Hp → Prop} (ok : OpOk C.K o (r2 r)) (ok' : OpOk C.K p (r2 r')) (hT : ∀ b H', (KD C.K H' → R (.bl b) H') → T (.bl b) H')
    (h : ∃ ρ δ M, Stt C M ρ δ σ H ∧ match ev C.Γ (.chn o p a b d) ρ δ with
      | .ok (.bl b) δ' => ∀ H', KD C.K H' → Ext C.pds H H' → DiceAt C δ' H' → R (.bl b) H'
      | .exc y δ' => Bad C y δ' H
      | _ => False) : tChain r r' (tD C a) (tD C b) (tD C d) σ H T := by
  obtain ⟨ρ, δ, M, S, h⟩ := h
  refine ⟨ρ, δ, M, S, ?_⟩
  simp only [ev] at h
  cases e : ev C.Γ a ρ δ with
  | stk => rw [e] at h; exact h
  | exc y δ' => rw [e] at h; exact h
  | ok x δ1 =>
    rw [e] at h
    intro v H1 k1 x1 dc1 V1
    have S1 := S.step x1 dc1 k1
    refine ⟨ρ, δ1, M, S1, ?_⟩
    simp only [Res.bind] at h
    cases e2 : ev C.Γ b ρ δ1 with
    | stk => rw [e2] at h; exact h
    | exc y δ' => rw [e2] at h; exact h.step x1
    | ok y δ2 =>
      rw [e2] at h
      intro u H2 k2 x2 dc2 V2
      have S2 := S1.step x2 dc2 k2
      simp only at h
      cases e3 : opv o [x, y] with
      | none => rw [e3] at h; exact h.elim
      | some z =>
        rw [e3] at h
        cases z with
        | bl t =>
          have hq : (if t = true then tD C d σ H2 (fun w' H4 => r' u w' H4 T) else T (.bl false) H2) := by
            cases t with
            | false =>
              rw [if_neg (by decide)]
              exact hT false H2 fun k3 => h H2 k3 (x1.trans x2) dc2
            | true =>
              rw [if_pos rfl]
              refine ⟨ρ, δ2, M, S2, ?_⟩
              simp only at h
              cases e4 : ev C.Γ d ρ δ2 with
              | stk => rw [e4] at h; exact h
              | exc y δ' => rw [e4] at h; exact (h.step x1).step x2
              | ok g δ3 =>
                rw [e4] at h
                intro w' H3 k3 x3 dc3 V3
                have S3 := S2.step x3 dc3 k3
                simp only at h
                cases e5 : opv p [y, g] with
                | none => rw [e5] at h; exact h.elim
                | some z =>
                  rw [e5] at h
                  cases z with
                  | bl t2 =>
                    obtain ⟨w1, w2, ew, q⟩ := ok' H3 [y, g] [u, w'] (.bl t2) T C.Mc e5 k3 S3.mokc ⟨u, [w'], rfl, S2.rpc x3 V2.rc, w', [], rfl, V3.rc, rfl⟩
                      (fun w hv hc hf => by cases (show w = .bl t2 from hc); exact hT t2 H3 fun k4 => h H3 k4 ((x1.trans x2).trans x3) dc3) (fun es us p ed => nomatch ed) (fun es us p ed => nomatch ed)
                    cases ew; exact q
                  | _ => exact h.elim
          obtain ⟨w1, w2, ew, q⟩ := ok H2 [x, y] [v, u] (.bl t) (fun x H3 => ∃ k, x = .bl k ∧ if k = true then tD C d σ H3 (fun w' H4 => r' u w' H4 T) else T (.bl false) H3) C.Mc e3 k2 S2.mokc ⟨v, [u], rfl, S1.rpc x2 V1.rc, u, [], rfl, V2.rc, rfl⟩
            (fun w hv hc hf => ⟨t, hc, hq⟩) (fun es us p ed => nomatch ed) (fun es us p ed => nomatch ed)
          cases ew
          exact q
        | _ => exact h.elim
end
end DC
set_option Elab.async false
set_option linter.all false
set_option maxRecDepth 100000
set_option maxHeartbeats 1000000
namespace DC
open PySem PySem.Spec L2
section
variable {X : Cx} {C : Cz} {c : TrC} {sc : Scope} {k : Nat}
theorem Fresh.back {K : PySem.W.Frag} {M : MS} {H H1 H2 : Hp} {d : D} {v : V} {P : MS} (f : Fresh K M H1 H2 d v) (x : Ext P H H1) (hP : ∀ a, P a → H1 a ≠ none) : Fresh K M H H2 d v := fun es e => by
  obtain ⟨p, us, e1, e2, e3, e4, e5⟩ := f es e
  exact ⟨p, us, e1, x.free e2 (fun z => hP p z e2), e3, e4, e5⟩
theorem DiceAt.ne {δ : Dice} {H : Hp} (d : DiceAt C δ H) : ∀ a, C.pds a → H a ≠ none := fun a z e => by obtain ⟨o, q⟩ := d.some_ a z; rw [q] at e; cases e

theorem tAndD {a b : Ex} {σ : St} {H : Hp} {Q : VK} (h : tD C (.and a b) σ H Q) : tAndV (tD C a) (tD C b) σ H fun v H' => KD C.K H' → Q v H' := by
  obtain ⟨ρ, δ, M, S, h⟩ := h
  refine ⟨ρ, δ, M, S, ?_⟩
  simp only [ev] at h
  cases e : ev C.Γ a ρ δ with
  | stk => rw [e] at h; exact h
  | exc y δ' => rw [e] at h; exact h
  | ok x δ1 =>
    rw [e] at h
    intro v H1 k1 x1 dc1 V1
    have S1 := S.step x1 dc1 k1
    simp only [Res.bind] at h
    cases x with
    | bl t =>
      refine ⟨t, V1.rc, ?_⟩
      cases t with
      | true =>
        rw [if_pos rfl]
        refine ⟨ρ, δ1, M, S1, ?_⟩
        simp only at h
        cases e2 : ev C.Γ b ρ δ1 with
        | stk => rw [e2] at h; exact h
        | exc y δ' => rw [e2] at h; exact h.step x1
        | ok y δ2 =>
          rw [e2] at h
          intro u H2 k2 x2 dc2 V2 _
          refine h u H2 k2 (x1.trans x2) dc2 ⟨V2.rc, fun z => V2.cl ?_, fun z => (V2.cl ?_).top, fun z => by simp [frs] at z⟩
          · have z' : cln C.md a = true ∧ cln C.md b = true := by simpa [cln] using z
            exact z'.2
          · have z' : cln C.md a = true ∧ cln C.md b = true := by simpa [tpc] using z
            exact z'.2
      | false =>
        rw [if_neg (by decide)]
        exact fun k2 => h (.bl false) H1 k2 x1 dc1 ⟨rfl, fun _ => rfl, fun _ => rfl, fun z => by simp [frs] at z⟩
    | _ => exact h.elim
theorem tOrD {a b : Ex} {σ : St} {H : Hp} {Q : VK} (h : tD C (.or a b) σ H Q) : tOrV (tD C a) (tD C b) σ H fun v H' => KD C.K H' → Q v H' := by
  obtain ⟨ρ, δ, M, S, h⟩ := h
  refine ⟨ρ, δ, M, S, ?_⟩
  simp only [ev] at h
  cases e : ev C.Γ a ρ δ with
  | stk => rw [e] at h; exact h
  | exc y δ' => rw [e] at h; exact h
  | ok x δ1 =>
    rw [e] at h
    intro v H1 k1 x1 dc1 V1
    have S1 := S.step x1 dc1 k1
    simp only [Res.bind] at h
    cases x with
    | bl t =>
      refine ⟨t, V1.rc, ?_⟩
      cases t with
      | false =>
        rw [if_neg (by decide)]
        refine ⟨ρ, δ1, M, S1, ?_⟩
        simp only at h
        cases e2 : ev C.Γ b ρ δ1 with
        | stk => rw [e2] at h; exact h
        | exc y δ' => rw [e2] at h; exact h.step x1
        | ok y δ2 =>
          rw [e2] at h
          intro u H2 k2 x2 dc2 V2 _
          refine h u H2 k2 (x1.trans x2) dc2 ⟨V2.rc, fun z => V2.cl ?_, fun z => (V2.cl ?_).top, fun z => by simp [frs] at z⟩
          · have z' : cln C.md a = true ∧ cln C.md b = true := by simpa [cln] using z
            exact z'.2
          · have z' : cln C.md a = true ∧ cln C.md b = true := by simpa [tpc] using z
            exact z'.2
      | true =>
        rw [if_pos rfl]
        exact fun k2 => h (.bl true) H1 k2 x1 dc1 ⟨rfl, fun _ => rfl, fun _ => rfl, fun z => by simp [frs] at z⟩
    | _ => exact h.elim
theorem tNotD {a : Ex} {σ : St} {H : Hp} {Q : VK} (h : tD C (.not a) σ H Q) : tNotV (tD C a) σ H fun v H' => KD C.K H' → Q v H' := by
  obtain ⟨ρ, δ, M, S, h⟩ := h
  refine ⟨ρ, δ, M, S, ?_⟩
  simp only [ev] at h
  cases e : ev C.Γ a ρ δ with
  | stk => rw [e] at h; exact h
  | exc y δ' => rw [e] at h; exact h
  | ok x δ1 =>
    rw [e] at h
    intro v H1 k1 x1 dc1 V1
    simp only [Res.bind] at h
    cases x with
    | bl t => exact ⟨t, V1.rc, fun k2 => h _ H1 k2 x1 dc1 ⟨rfl, fun _ => rfl, fun _ => rfl, fun z => by simp [frs] at z⟩⟩
    | _ => exact h.elim
theorem tIfD {t a b : Ex} {σ : St} {H : Hp} {Q : VK} (h : tD C (.ife t a b) σ H Q) : tIf (tDT C t) (tD C a) (tD C b) σ H fun v H' => KD C.K H' → Q v H' := by
  obtain ⟨ρ, δ, M, S, h⟩ := h
  refine ⟨ρ, δ, M, S, ?_⟩
  simp only [ev] at h
  cases e : ev C.Γ t ρ δ with
  | stk => rw [e] at h; exact h
  | exc y δ' => rw [e] at h; exact h
  | ok x δ1 =>
    rw [e] at h
    simp only [Res.bind] at h
    cases x with
    | bl t =>
      intro H1 k1 x1 dc1
      have S1 := S.step x1 dc1 k1
      cases t with
      | true =>
        rw [if_pos rfl]
        refine ⟨ρ, δ1, M, S1, ?_⟩
        simp only at h
        cases e2 : ev C.Γ a ρ δ1 with
        | stk => rw [e2] at h; exact h
        | exc y δ' => rw [e2] at h; exact h.step x1
        | ok y δ2 =>
          rw [e2] at h
          intro u H2 k2 x2 dc2 V2 _
          refine h u H2 k2 (x1.trans x2) dc2 ⟨V2.rc, fun z => V2.cl ?_, fun z => V2.tp ?_, fun z => (V2.fr ?_).back x1 dc1.ne⟩
          · have z' : cln C.md a = true ∧ cln C.md b = true := by simpa [cln] using z
            exact z'.1
          · have z' : tpc C.md a = true ∧ tpc C.md b = true := by simpa [tpc] using z
            exact z'.1
          · have z' : frs C.Γ C.md a = true ∧ frs C.Γ C.md b = true := by simpa [frs] using z
            exact z'.1
      | false =>
        rw [if_neg (by decide)]
        refine ⟨ρ, δ1, M, S1, ?_⟩
        simp only at h
        cases e2 : ev C.Γ b ρ δ1 with
        | stk => rw [e2] at h; exact h
        | exc y δ' => rw [e2] at h; exact h.step x1
        | ok y δ2 =>
          rw [e2] at h
          intro u H2 k2 x2 dc2 V2 _
          refine h u H2 k2 (x1.trans x2) dc2 ⟨V2.rc, fun z => V2.cl ?_, fun z => V2.tp ?_, fun z => (V2.fr ?_).back x1 dc1.ne⟩
          · have z' : cln C.md a = true ∧ cln C.md b = true := by simpa [cln] using z
            exact z'.2
          · have z' : tpc C.md a = true ∧ tpc C.md b = true := by simpa [tpc] using z
            exact z'.2
          · have z' : frs C.Γ C.md a = true ∧ frs C.Γ C.md b = true := by simpa [frs] using z
            exact z'.2
    | _ => exact h.elim
theorem tAndT' {a b : Ex} {σ : St} {H : Hp} {Q : Bool → Hp → Prop} (h : tDT C (.and a b) σ H Q) : tAnd (tDT C a) (tDT C b) σ H fun v H' => KD C.K H' → Q v H' := by
  obtain ⟨ρ, δ, M, S, h⟩ := h
  refine ⟨ρ, δ, M, S, ?_⟩
  simp only [ev] at h
  cases e : ev C.Γ a ρ δ with
  | stk => rw [e] at h; exact h
  | exc y δ' => rw [e] at h; exact h
  | ok x δ1 =>
    rw [e] at h
    simp only [Res.bind] at h
    cases x with
    | bl t =>
      intro H1 k1 x1 dc1
      have S1 := S.step x1 dc1 k1
      cases t with
      | true =>
        rw [if_pos rfl]
        refine ⟨ρ, δ1, M, S1, ?_⟩
        simp only at h
        cases e2 : ev C.Γ b ρ δ1 with
        | stk => rw [e2] at h; exact h
        | exc y δ' => rw [e2] at h; exact h.step x1
        | ok y δ2 =>
          rw [e2] at h
          cases y with
          | bl b => exact fun H2 k2 x2 dc2 _ => h H2 k2 (x1.trans x2) dc2
          | _ => exact h.elim
      | false =>
        rw [if_neg (by decide)]
        exact fun k2 => h H1 k2 x1 dc1
    | _ => exact h.elim
theorem tOrT' {a b : Ex} {σ : St} {H : Hp} {Q : Bool → Hp → Prop} (h : tDT C (.or a b) σ H Q) : tOr (tDT C a) (tDT C b) σ H fun v H' => KD C.K H' → Q v H' := by
  obtain ⟨ρ, δ, M, S, h⟩ := h
  refine ⟨ρ, δ, M, S, ?_⟩
  simp only [ev] at h
  cases e : ev C.Γ a ρ δ with
  | stk => rw [e] at h; exact h
  | exc y δ' => rw [e] at h; exact h
  | ok x δ1 =>
    rw [e] at h
    simp only [Res.bind] at h
    cases x with
    | bl t =>
      intro H1 k1 x1 dc1
      have S1 := S.step x1 dc1 k1
      cases t with
      | false =>
        rw [if_neg (by decide)]
        refine ⟨ρ, δ1, M, S1, ?_⟩
        simp only at h
        cases e2 : ev C.Γ b ρ δ1 with
        | stk => rw [e2] at h; exact h
        | exc y δ' => rw [e2] at h; exact h.step x1
        | ok y δ2 =>
          rw [e2] at h
          cases y with
          | bl b => exact fun H2 k2 x2 dc2 _ => h H2 k2 (x1.trans x2) dc2
          | _ => exact h.elim
      | true =>
        rw [if_pos rfl]
        exact fun k2 => h H1 k2 x1 dc1
    | _ => exact h.elim
theorem tNotT' {a : Ex} {σ : St} {H : Hp} {Q : Bool → Hp → Prop} (h : tDT C (.not a) σ H Q) : tNot (tDT C a) σ H fun v H' => KD C.K H' → Q v H' := by
  obtain ⟨ρ, δ, M, S, h⟩ := h
  refine ⟨ρ, δ, M, S, ?_⟩
  simp only [ev] at h
  cases e : ev C.Γ a ρ δ with
  | stk => rw [e] at h; exact h
  | exc y δ' => rw [e] at h; exact h
  | ok x δ1 =>
    rw [e] at h
    simp only [Res.bind] at h
    cases x with
    | bl t => exact fun H1 k1 x1 dc1 k2 => h H1 k2 x1 dc1
    | _ => exact h.elim
theorem pt_valD {e : Expr} {x : Ex} (h : PE X e (tD C x)) (he : ∀ whole, isTrue e X.env whole = (do let v ← whole; standAt e.pos; holding [v] (truthy v))) : PT X e (tDT C x) :=
  PT.to (pt_val h he) fun σ H Q q => tD_test q
theorem sB {f : Expr → Option Ex} {op : BoolOp} {pos : Pos} (ok : COk X C c sc k) (ih : ∀ e x, f e = some x → PE X e (tD C x)) : ∀ es x, trB f op es = some x → PE X (.BoolOp op es pos) (tD C x)
  | [], x, h => by cases h
  | [e], x, h => pe_one (ih e x h)
  | e :: e' :: es, x, h => by
    simp only [trB] at h
    cases e1 : f e with
    | none => simp only [e1] at h; cases h
    | some a =>
      cases e2 : trB f op (e' :: es) with
      | none => simp only [e1, e2] at h; cases h
      | some r =>
        simp only [e1, e2] at h
        cases h
        cases op with
        | And => exact PE.to (PE.kd (pe_and (ih e a e1) (sB ok ih (e' :: es) r e2))) fun σ H Q q => by rw [← ok.K]; exact tAndD q
        | Or => exact PE.to (PE.kd (pe_or (ih e a e1) (sB ok ih (e' :: es) r e2))) fun σ H Q q => by rw [← ok.K]; exact tOrD q
theorem sBT {f : Expr → Option Ex} {op : BoolOp} {pos : Pos} (ok : COk X C c sc k) (ih : ∀ e x, f e = some x → PT X e (tDT C x)) : ∀ es x, trB f op es = some x → PW X (.BoolOp op es pos) (tDT C x)
  | [], x, h => by cases h
  | [e], x, h => by cases op with
    | And => exact pw_and1 (ih e x h)
    | Or => exact pw_or1 (ih e x h)
  | e :: e' :: es, x, h => by
    simp only [trB] at h
    cases e1 : f e with
    | none => simp only [e1] at h; cases h
    | some a =>
      cases e2 : trB f op (e' :: es) with
      | none => simp only [e1, e2] at h; cases h
      | some r =>
        simp only [e1, e2] at h
        cases h
        have fin : ∀ {t : TT}, PW X (.BoolOp op (e :: e' :: es) pos) t → (∀ σ H Q, tDT C (mkB op a r) σ H Q → t σ H fun v H' => KD X.K H' → Q v H') → PW X (.BoolOp op (e :: e' :: es) pos) (tDT C (mkB op a r)) := fun hp w =>
          ⟨fun wh pins s σ H Q I q => thn (hp.run wh pins s σ H _ I (w σ H Q q)) fun u s' ⟨H', I', q'⟩ => ⟨H', I', q' (KD.of I')⟩⟩
        cases op with
        | And => exact fin (pw_and (ih e a e1) (sBT ok ih (e' :: es) r e2)) fun σ H Q q => by rw [← ok.K]; exact tAndT' q
        | Or => exact fin (pw_or (ih e a e1) (sBT ok ih (e' :: es) r e2)) fun σ H Q q => by rw [← ok.K]; exact tOrT' q
theorem pe_slcD {a : Expr} {lo hi : Option Expr} {p2 pos : Pos} {l : Ex} {b1 b2 : Bool} (ok : COk X C c sc k) {ta tl th : _} (ha : PE X a ta) (hl : PO X lo tl) (hh : PO X hi th)
    (w : ∀ σ H (Q : VK), tDs C l σ H (fun vs H' => rSlc X.K b1 b2 vs H' Q) → tSl (rSlA X.K) ta tl th σ H Q) : PE X (.Subscript a (.Slice lo hi none p2) pos) (tD C (.op (.slc b1 b2) l)) := by
  refine PE.to (PE.kd (pe_slice (r := rSlA X.K) (sl_list.or (sl_str.or sl_tupA)) ha hl hh)) fun σ H Q h => ?_
  have ok2 : OpOk C.K (.slc b1 b2) (rSlc X.K b1 b2) := by rw [ok.K]; exact ok_slc b1 b2
  have h2 := op_red ok2 h
  rw [ok.K] at h2
  exact w σ H _ h2
theorem pe_tupD {es : List Expr} {l : Ex} {j : Nat} {pos : Pos} (ok : COk X C c sc k) (h : PA X es (tDs C l)) : PE X (.Tuple es j pos) (tD C (.op .tupd l)) :=
  PE.to (PE.kd (pe_tup h)) fun σ H Q q => by rw [← ok.K]; exact op_red ok_tupd q
theorem pe_lstD {es : List Expr} {l : Ex} {pos : Pos} (ok : COk X C c sc k) (h : PA X es (tDs C l)) : PE X (.List es pos) (tD C (.op .lstd l)) :=
  PE.to (PE.kd (pe_lst h)) fun σ H Q q => by rw [← ok.K]; exact op_red ok_lstd q
theorem odd_of {x : Str} (h : oddName x = false) : (x == ("__debug__" : Str)) = false ∧ (x == ("__classdict__" : Str)) = false ∧ x ≠ "__name__" := by
  unfold oddName at h
  cases e1 : x == ("__debug__" : Str) <;> cases e2 : x == ("__classdict__" : Str) <;> cases e3 : x == ("__name__" : Str) <;> simp [e1, e2, e3] at h ⊢
  simpa using e3
def FOk (X : Cx) (f : Str) (o : Op) : Prop := (∃ id r, CallR X (.builtin id) r ∧ bootBuiltins f = some (.builtin id) ∧ OpOk X.K o r) ∨ ∃ T r, CallR X (.type T) r ∧ bootBuiltins f = some (.type T) ∧ OpOk X.K o r
theorem bltF_ok {f : Str} {n k : Nat} {o : Op} (hc : X.calm = true) (hrm : Room k X.A) (h : bltF f n = some o) : FOk X f o ∧ f ∈ bltN ∧ 1 ≤ n := by
  unfold bltF at h
  split at h
  · rename_i e; obtain ⟨rfl, rfl⟩ := e; cases h; exact ⟨.inl ⟨_, _, call_len, by decide +kernel, ok_len⟩, by decide, by decide⟩
  split at h
  · rename_i e; obtain ⟨rfl, rfl⟩ := e; cases h; exact ⟨.inl ⟨_, _, cr_all hc, by decide +kernel, ok_all⟩, by decide, by decide⟩
  split at h
  · rename_i e; obtain ⟨rfl, rfl⟩ := e; cases h; exact ⟨.inl ⟨_, _, cr_any hc, by decide +kernel, ok_any⟩, by decide, by decide⟩
  split at h
  · rename_i e; obtain ⟨rfl, rfl⟩ := e; cases h; exact ⟨.inl ⟨_, _, cr_sum hc, by decide +kernel, ok_sum⟩, by decide, by decide⟩
  split at h
  · rename_i e; obtain ⟨rfl, rfl⟩ := e; cases h; exact ⟨.inl ⟨_, _, call_abs, by decide +kernel, ok_abs⟩, by decide, by decide⟩
  split at h
  · rename_i e; obtain ⟨rfl, rfl⟩ := e; cases h; exact ⟨.inl ⟨_, _, call_max2 hc, by decide +kernel, ok_max2⟩, by decide, by decide⟩
  split at h
  · rename_i e; obtain ⟨rfl, rfl⟩ := e; cases h; exact ⟨.inl ⟨_, _, call_min2 hc, by decide +kernel, ok_min2⟩, by decide, by decide⟩
  split at h
  · rename_i e; obtain ⟨rfl, rfl⟩ := e; cases h; exact ⟨.inl ⟨_, _, cr_maxl hc hrm, by decide +kernel, ok_maxl⟩, by decide, by decide⟩
  split at h
  · rename_i e; obtain ⟨rfl, rfl⟩ := e; cases h; exact ⟨.inl ⟨_, _, cr_minl hc hrm, by decide +kernel, ok_minl⟩, by decide, by decide⟩
  cases h
theorem bltT_ok {f : Str} {n : Nat} {o : Op} (h : bltT f n = some o) : FOk X f o ∧ f ∈ bltN ∧ 1 ≤ n := by
  unfold bltT at h
  split at h
  · rename_i e; obtain ⟨rfl, rfl⟩ := e; cases h; exact ⟨.inr ⟨_, _, call_list_of, by decide +kernel, ok_list⟩, by decide, by decide⟩
  split at h
  · rename_i e; obtain ⟨rfl, rfl⟩ := e; cases h; exact ⟨.inr ⟨_, _, call_tuple_of, by decide +kernel, ok_tuple⟩, by decide, by decide⟩
  split at h
  · rename_i e; obtain ⟨rfl, rfl⟩ := e; cases h; exact ⟨.inr ⟨_, _, call_int1, by decide +kernel, ok_int⟩, by decide, by decide⟩
  cases h
theorem pe_bltD {f : Str} {o : Op} {fe : Expr → Option Ex} {e : Expr} {es : List Expr} {l : Ex} {p pos : Pos} (ok : COk X C c sc k) (ho : FOk X f o) (hb : f ∈ bltN) (hg : glB sc f = true) (hd : oddName f = false) (hl : trA fe (e :: es) = some l) (ha : PA X (e :: es) (tDs C l)) :
    PE X (.Call (.Name f p) (e :: es) [] pos) (tD C (.op o l)) := by
  obtain ⟨d1, d2, d3⟩ := odd_of hd
  have hp : plainE e = true ∧ ∃ l', trA fe es = some l' := by
    unfold trA at hl
    split at hl
    · rename_i hp
      refine ⟨hp, ?_⟩
      cases e1 : fe e <;> cases e2 : trA fe es <;> simp only [e1, e2] at hl <;> try cases hl
      exact ⟨_, rfl⟩
    · cases hl
  obtain ⟨hp, l', hl'⟩ := hp
  rcases ho with ⟨id, r, h1, h2, h3⟩ | ⟨T, r, h1, h2, h3⟩
  · refine PE.to (PE.kd (pe_callB h1 (ok.gl f hg) (ok.blt f hb) h2 ha d3 d1 (plain_star hp _ _) (trA_star hl' _ _))) fun σ H Q q => ?_
    rw [← ok.K] at h3 ⊢
    exact op_red h3 q
  · refine PE.to (PE.kd (pe_callTy h1 (ok.gl f hg) (ok.blt f hb) h2 ha d3 d1 (plain_star hp _ _) (trA_star hl' _ _))) fun σ H Q q => ?_
    rw [← ok.K] at h3 ⊢
    exact op_red h3 q
theorem pe_dfD {f : Str} {o : Op} {g : PyData → List PyData → PyData} {e d : Expr} {e' d' : Ex} {p pos kp : Pos} (ok : COk X C c sc k) (hb : f ∈ bltN) (hg : glB sc f = true) (hd : oddName f = false) (hv : ∃ id, bootBuiltins f = some (.builtin id) ∧ CallRK X (.builtin id) [Str.ofString "default"] (fun vs zs H Q => vs.length = 1 ∧ rPickD X.K g (vs ++ zs) H Q))
    (hok : OpOk X.K o (rPickD X.K g)) (he : plainE e = true) (h1 : PE X e (tD C e')) (h2 : PE X d (tD C d')) :
    PE X (.Call (.Name f p) [e] [⟨some "default", d, kp⟩] pos) (tD C (.op o (.cons e' (.cons d' .nil)))) := by
  obtain ⟨d1, d2, d3⟩ := odd_of hd
  obtain ⟨id, hv1, hv2⟩ := hv
  refine PE.to (PE.kd (pe_callBK (ks := [Str.ofString "default"]) hv2 (ok.gl f hg) (ok.blt f hb) hv1 (pa_cons h1 pa_nil (plain_star he _ _)) (pk_cons h2 pk_nil) d3 d1 (by rw [plain_star he]; rfl) (by rw [plain_star he]; rfl) rfl rfl rfl)) fun σ H Q q => ?_
  have hk : OpOk C.K o (rPickD C.K g) := by rw [ok.K]; exact hok
  rw [← ok.K]
  have q1 := tD_eq2 (R := fun x y H' => rPickD C.K g [x, y] H' fun v H2 => KD C.K H2 → Q v H2) (tDs_mono (op_red hk q) fun vs H' z => by
    obtain ⟨a, v0, us, xs, e0, z⟩ := z
    exact ⟨_, _, e0, by rw [← e0]; exact ⟨a, v0, us, xs, e0, z⟩⟩)
  refine tD_mono q1 fun x H1 q2 => tD_mono q2 fun y H2 q3 => ⟨rfl, q3⟩
theorem isiT_ok {t : Str} {s : String} (h : isiT t = some s) : bootBuiltins t = some (.type s) ∧ t ∈ bltN ∧ oddName t = false := by
  unfold isiT at h
  split at h
  · rename_i e; subst e; cases h; exact ⟨by decide +kernel, by decide, by decide⟩
  split at h
  · rename_i e; subst e; cases h; exact ⟨by decide +kernel, by decide, by decide⟩
  split at h
  · rename_i e; subst e; cases h; exact ⟨by decide +kernel, by decide, by decide⟩
  split at h
  · rename_i e; subst e; cases h; exact ⟨by decide +kernel, by decide, by decide⟩
  split at h
  · rename_i e; subst e; cases h; exact ⟨by decide +kernel, by decide, by decide⟩
  cases h
theorem pe_isiD {e : Expr} {a' : Ex} {t : Str} {s : String} {p pt pos : Pos} (ok : COk X C c sc k) (hg : glB sc "isinstance" = true) (hgt : glB sc t = true) (ht : isiT t = some s) (hp : plainE e = true) (he : PE X e (tD C a')) :
    PE X (.Call (.Name "isinstance" p) [e, .Name t pt] [] pos) (tD C (.op (.isi s) (.cons a' .nil))) := by
  obtain ⟨b1, b2, b3⟩ := isiT_ok ht
  obtain ⟨d1, d2, d3⟩ := odd_of b3
  have hT : PE X (.Name t pt) (tC (.ty s)) := pe_bltn (ok.gl t hgt) (ok.blt t b2) b1 rfl d3 d1
  refine PE.to (PE.kd (pe_callB call_isi (ok.gl _ hg) (ok.blt _ (by decide)) (by decide +kernel) (pa_cons he (pa_cons hT pa_nil) (plain_star hp _ _)) (by decide) (by decide) (plain_star hp _ _) rfl)) fun σ H Q q => ?_
  have ok2 : OpOk C.K (.isi s) (fun xs H Q => ∃ x, xs = [x] ∧ rIsi X.K [x, .ty s] H Q) := by rw [ok.K]; exact ok_isi s
  have h2 := tD_eq1 (op_red ok2 q)
  rw [ok.K] at h2
  exact h2
theorem recv_base {o : Expr} (h : recvOk o = true) (m : Str) (env : Env) (w : Sem Value) : attributeBase o m env w = w := by
  cases o <;> first | rfl | (cases h; done) | skip
  rename_i f args kws p
  cases args with
  | nil => cases h
  | cons a r => cases f <;> first | rfl | cases h
def M1Ok (X : Cx) (m : Str) (q : Op) : Prop := ∃ id r, Slot "str" m id ∧ typeOf (.builtin id) = pure (.type "method_descriptor") ∧ MtR X id r ∧ OpOk X.K q (r1m r)
theorem meth1_ok {m : Str} {q : Op} (h : meth1 m = some q) : M1Ok X m q := by
  unfold meth1 at h
  split at h
  · rename_i e; subst e; cases h; exact ⟨_, _, PySem.F.slot_str_join, PySem.F.type_str_join, mt_join, ok_join⟩
  split at h
  · rename_i e; subst e; cases h; exact ⟨_, _, PySem.F.slot_str_split, PySem.F.type_str_split, mt_split, ok_split⟩
  split at h
  · rename_i e; subst e; cases h; exact ⟨_, _, PySem.F.slot_str_strip, PySem.F.type_str_strip, mt_stripChars, ok_strip⟩
  split at h
  · rename_i e; subst e; cases h; exact ⟨_, _, PySem.F.slot_str_count, PySem.F.type_str_count, mt_count, ok_count⟩
  cases h
def M0Ok (X : Cx) (m : Str) (q : Op) : Prop := ∃ id r, Slot "str" m id ∧ typeOf (.builtin id) = pure (.type "method_descriptor") ∧ MtR X id r ∧ OpOk X.K q (r0m r)
theorem meth0_ok {m : Str} {q : Op} (h : meth0 m = some q) : M0Ok X m q := by
  unfold meth0 at h
  split at h
  · rename_i e; subst e; cases h; exact ⟨_, _, PySem.F.slot_str_upper, PySem.F.type_str_upper, mt_upper, ok_upper⟩
  split at h
  · rename_i e; subst e; cases h; exact ⟨_, _, PySem.F.slot_str_lower, PySem.F.type_str_lower, mt_lower, ok_lower⟩
  cases h
theorem quiet_ok : ∀ (x : Ex) (ρ : En) (δ : Dice), quiet x = true → ∀ y δ', ev C.Γ x ρ δ ≠ .exc y δ'
  | .var i, ρ, δ, _, y, δ' => by simp only [ev]; split <;> simp
  | .cst _, _, _, _, _, _ => by simp [ev]
  | .glb x, _, _, _, _, _ => by simp only [ev]; split <;> simp
  | .dget _, _, _, _, _, _ => by simp [ev]
  | .nil, _, _, _, _, _ => by simp [ev]
  | .cons a r, ρ, δ, h, y, δ' => by
    have h' : quiet a = true ∧ quiet r = true := by simpa [quiet] using h
    simp only [ev]
    cases e1 : ev C.Γ a ρ δ with
    | stk => simp [Res.bind, *]
    | exc z _ => exact absurd e1 (quiet_ok a ρ δ h'.1 _ _)
    | ok d δ1 =>
      try simp only [Res.bind]
      cases e2 : ev C.Γ r ρ δ1 with
      | stk => simp [Res.bind, *]
      | exc z _ => exact absurd e2 (quiet_ok r ρ δ1 h'.2 _ _)
      | ok d2 δ2 => (try rw [e2]); (try simp only [Res.bind]); split <;> simp
  | .op o a, ρ, δ, h, y, δ' => by
    simp only [ev]
    cases e1 : ev C.Γ a ρ δ with
    | stk => simp [Res.bind, *]
    | exc z _ => exact absurd e1 (quiet_ok a ρ δ (by simpa [quiet] using h) _ _)
    | ok d δ1 => (try simp only [Res.bind]); split <;> (try split) <;> simp
  | .and a b, ρ, δ, h, y, δ' => by
    have h' : quiet a = true ∧ quiet b = true := by simpa [quiet] using h
    simp only [ev]
    cases e1 : ev C.Γ a ρ δ with
    | stk => simp [Res.bind, *]
    | exc z _ => exact absurd e1 (quiet_ok a ρ δ h'.1 _ _)
    | ok d δ1 =>
      try simp only [Res.bind]
      split
      · exact quiet_ok b ρ δ1 h'.2 _ _
      · simp
      · simp
  | .or a b, ρ, δ, h, y, δ' => by
    have h' : quiet a = true ∧ quiet b = true := by simpa [quiet] using h
    simp only [ev]
    cases e1 : ev C.Γ a ρ δ with
    | stk => simp [Res.bind, *]
    | exc z _ => exact absurd e1 (quiet_ok a ρ δ h'.1 _ _)
    | ok d δ1 =>
      try simp only [Res.bind]
      split
      · simp
      · exact quiet_ok b ρ δ1 h'.2 _ _
      · simp
  | .not a, ρ, δ, h, y, δ' => by
    simp only [ev]
    cases e1 : ev C.Γ a ρ δ with
    | stk => simp [Res.bind, *]
    | exc z _ => exact absurd e1 (quiet_ok a ρ δ (by simpa [quiet] using h) _ _)
    | ok d δ1 => (try simp only [Res.bind]); split <;> simp
  | .ife t a b, ρ, δ, h, y, δ' => by
    have h' : (quiet t = true ∧ quiet a = true) ∧ quiet b = true := by simpa [quiet] using h
    simp only [ev]
    cases e1 : ev C.Γ t ρ δ with
    | stk => simp [Res.bind, *]
    | exc z _ => exact absurd e1 (quiet_ok t ρ δ h'.1.1 _ _)
    | ok d δ1 =>
      try simp only [Res.bind]
      split
      · exact quiet_ok a ρ δ1 h'.1.2 _ _
      · exact quiet_ok b ρ δ1 h'.2 _ _
      · simp
  | .chn o p a b d, ρ, δ, h, y, δ' => by
    have h' : (quiet a = true ∧ quiet b = true) ∧ quiet d = true := by simpa [quiet] using h
    simp only [ev]
    cases e1 : ev C.Γ a ρ δ with
    | stk => simp [Res.bind, *]
    | exc z _ => exact absurd e1 (quiet_ok a ρ δ h'.1.1 _ _)
    | ok x1 δ1 =>
      try simp only [Res.bind]
      cases e2 : ev C.Γ b ρ δ1 with
      | stk => simp [Res.bind, *]
      | exc z _ => exact absurd e2 (quiet_ok b ρ δ1 h'.1.2 _ _)
      | ok x2 δ2 =>
        try simp only [Res.bind]
        split
        · cases e3 : ev C.Γ d ρ δ2 with
          | stk => simp [Res.bind, *]
          | exc z _ => exact absurd e3 (quiet_ok d ρ δ2 h'.2 _ _)
          | ok x3 δ3 => (try simp only [Res.bind]); split <;> simp
        · simp
        · simp
  | .comp own p it cd el, ρ, δ, h, y, δ' => by
    simp only [ev]
    cases e1 : ev C.Γ it ρ δ with
    | stk => simp [Res.bind, *]
    | exc z _ => exact absurd e1 (quiet_ok it ρ δ (by simpa [quiet] using h) _ _)
    | ok d δ1 =>
      try simp only [Res.bind]
      split
      · cases e2 : compL (bindP p) (ev C.Γ cd) (ev C.Γ el) (wipeE ρ own) _ δ1 <;> simp [noExc]
      · simp
  | .told x, ρ, δ, h, y, δ' => by
    simp only [ev]
    split
    · simp
    · split <;> simp
    · simp
  | .tget a r, ρ, δ, h, y, δ' => by
    have h' : quiet a = true ∧ quiet r = true := by simpa [quiet] using h
    simp only [ev]
    cases e1 : ev C.Γ a ρ δ with
    | stk => simp [Res.bind, *]
    | exc z _ => exact absurd e1 (quiet_ok a ρ δ h'.1 _ _)
    | ok d δ1 =>
      try simp only [Res.bind]
      cases e2 : ev C.Γ r ρ δ1 with
      | stk => simp [Res.bind, *]
      | exc z _ => exact absurd e2 (quiet_ok r ρ δ1 h'.2 _ _)
      | ok d2 δ2 => (try rw [e2]); (try simp only [Res.bind]); split <;> (try split) <;> (try split) <;> simp
  | .call _ _ _ _ _, _, _, h, _, _ => by simp [quiet] at h
theorem m1_str {m : Str} {q : Op} (h : meth1 m = some q) {d y r : D} (e : opv q [d, y] = some r) : ∃ s, d = .str s := by
  unfold meth1 at h
  split at h
  · cases h
    match d, e with
    | .str s, _ => exact ⟨s, rfl⟩
  split at h
  · cases h
    match d, e with
    | .str s, _ => exact ⟨s, rfl⟩
  split at h
  · cases h
    match d, e with
    | .str s, _ => exact ⟨s, rfl⟩
  split at h
  · cases h
    match d, e with
    | .str s, _ => exact ⟨s, rfl⟩
  cases h
theorem tD_m1 {m : Str} {q : Op} {o' e' : Ex} {σ : St} {H : Hp} {Q : VK} {r : V → List V → Hp → VK → Prop} (hm : meth1 m = some q) (ok : OpOk C.K q (r1m r)) (hq : (isStrC o' || quiet e') = true) (h : tD C (.op q (.cons o' (.cons e' .nil))) σ H Q) :
    tM1 r (tD C o') (tD C e') σ H fun v H' => KD C.K H' → Q v H' := by
  obtain ⟨ρ, δ, M, S, h⟩ := h
  refine ⟨ρ, δ, M, S, ?_⟩
  simp only [ev] at h
  cases e : ev C.Γ o' ρ δ with
  | stk => rw [e] at h; exact h
  | exc y δ' => rw [e] at h; exact h
  | ok d δ1 =>
    rw [e] at h
    simp only [Res.bind] at h
    intro v H1 k1 x1 dc1 V1
    have S1 := S.step x1 dc1 k1
    have hd : ∃ s, d = .str s := by
      rw [Bool.or_eq_true] at hq
      rcases hq with hq | hq
      · cases o' <;> try cases hq
        rename_i d0
        cases d0 <;> try cases hq
        simp only [ev] at e
        cases e
        exact ⟨_, rfl⟩
      · cases e2 : ev C.Γ e' ρ δ1 with
        | stk => rw [e2] at h; exact h.elim
        | exc y δ' => exact absurd e2 (quiet_ok e' ρ δ1 hq _ _)
        | ok y δ2 =>
          rw [e2] at h
          simp only at h
          cases e3 : opv q [d, y] with
          | none => rw [e3] at h; exact h.elim
          | some z => exact m1_str hm e3
    obtain ⟨s, rfl⟩ := hd
    refine ⟨⟨_, V1.rc.1⟩, ρ, δ1, M, S1, ?_⟩
    cases e2 : ev C.Γ e' ρ δ1 with
    | stk => rw [e2] at h; exact h
    | exc y δ' => rw [e2] at h; exact h.step x1
    | ok y δ2 =>
      rw [e2] at h
      simp only at h
      intro u H2 k2 x2 dc2 V2
      cases e3 : opv q [.str s, y] with
      | none => rw [e3] at h; exact h.elim
      | some z =>
        rw [e3] at h
        have S2 := S1.step x2 dc2 k2
        have VV : Vls C M (.cons o' (.cons e' .nil)) H2 [.str s, y] [v, u] := by
          refine ⟨⟨v, [u], rfl, S1.rpc x2 V1.rc, u, [], rfl, V2.rc, rfl⟩, fun z => ?_, fun z => ?_⟩
          · have z' : cln C.md o' = true ∧ cln C.md e' = true := by simpa [cln] using z
            exact ⟨v, [u], rfl, S1.rp x2 (V1.cl z'.1), u, [], rfl, V2.cl z'.2, rfl⟩
          · have z' : tpc C.md o' = true ∧ tpc C.md e' = true := by simpa [tpc] using z
            intro i d' v' e1 e2
            match i, e1, e2 with
            | 0, e1, e2 => cases e1; cases e2; exact S1.rpt x2 V1.rc (V1.tp z'.1)
            | 1, e1, e2 => cases e1; cases e2; exact V2.tp z'.2
        obtain ⟨a, b, eab, _, fin⟩ := op_fin ok S2 k2 (x1.trans x2) dc2 VV e3 h
        cases eab
        exact fin
theorem pe_m1D {o e : Expr} {o' e' : Ex} {m : Str} {q : Op} {ap cp : Pos} (ok : COk X C c sc k) (h : meth1 m = some q) (hr : recvOk o = true) (hl : (ap.endLine == cp.line) = true) (hp : plainE e = true) (hq : (isStrC o' || quiet e') = true) (ho : PE X o (tD C o')) (he : PE X e (tD C e')) :
    PE X (.Call (.Attribute o m ap) [e] [] cp) (tD C (.op q (.cons o' (.cons e' .nil)))) := by
  obtain ⟨id, r, h1, h2, h3, h4⟩ := meth1_ok (X := X) h
  refine PE.to (PE.kd (pe_m1 h1 h2 h3 ho he (plain_star hp _ _) (recv_base hr _ _ _) hl)) fun σ H Q z => ?_
  have h5 : OpOk C.K q (r1m r) := by rw [ok.K]; exact h4
  rw [← ok.K]
  exact tD_m1 h h5 hq z
theorem pe_m0D {o : Expr} {o' : Ex} {m : Str} {q : Op} {ap cp : Pos} (ok : COk X C c sc k) (h : meth0 m = some q) (hr : recvOk o = true) (hl : (ap.endLine == cp.line) = true) (ho : PE X o (tD C o')) :
    PE X (.Call (.Attribute o m ap) [] [] cp) (tD C (.op q (.cons o' .nil))) := by
  obtain ⟨id, r, h1, h2, h3, h4⟩ := meth0_ok (X := X) h
  refine PE.to (PE.kd (pe_m0 h1 h2 h3 ho (recv_base hr _ _ _) hl)) fun σ H Q z => ?_
  have h5 : OpOk C.K q (r0m r) := by rw [ok.K]; exact h4
  rw [← ok.K]
  exact tD_eq1 (op_red h5 z)
end
end DC
set_option Elab.async false
set_option linter.all false
set_option maxRecDepth 100000
set_option maxHeartbeats 1000000
namespace DC
open PySem PySem.Spec L2
section
variable {X : Cx} {C : Cz} {c : TrC} {sc : Scope} {k : Nat}
theorem ml_lst {m : Str} {e' : Ex} {q : Op} (h : methL m e' = some q) {d y r : D} (e : opv q [d, y] = some r) : ∃ s, d = .lst s := by
  unfold methL at h
  split at h
  · cases h
    match d, e with
    | .lst s, _ => exact ⟨s, rfl⟩
  split at h
  · cases h
    match d, e with
    | .lst s, _ => exact ⟨s, rfl⟩
  cases h
theorem tD_ml {m : Str} {q : Op} {o' e' : Ex} {σ : St} {H : Hp} {Q : VK} {r : V → List V → Hp → VK → Prop} (hm : methL m e' = some q) (ok : OpOk C.K q (r1l C.K r)) (hq : quiet e' = true) (h : tD C (.op q (.cons o' (.cons e' .nil))) σ H Q) :
    tBM C.K "list" r (tD C o') (tCons (tD C e') tNil) σ H fun v H' => KD C.K H' → Q v H' := by
  obtain ⟨ρ, δ, M, S, h⟩ := h
  refine ⟨ρ, δ, M, S, ?_⟩
  simp only [ev] at h
  cases e : ev C.Γ o' ρ δ with
  | stk => rw [e] at h; exact h
  | exc y δ' => rw [e] at h; exact h
  | ok d δ1 =>
    rw [e] at h
    simp only [Res.bind] at h
    intro v H1 k1 x1 dc1 V1
    have S1 := S.step x1 dc1 k1
    have hd : ∃ s, d = .lst s := by
      cases e2 : ev C.Γ e' ρ δ1 with
      | stk => rw [e2] at h; exact h.elim
      | exc y δ' => exact absurd e2 (quiet_ok e' ρ δ1 hq _ _)
      | ok y δ2 =>
        rw [e2] at h
        simp only at h
        cases e3 : opv q [d, y] with
        | none => rw [e3] at h; exact h.elim
        | some z => exact ml_lst hm e3
    obtain ⟨s, rfl⟩ := hd
    obtain ⟨pa, us, ep, hr, hn, hl, hs⟩ := V1.rc
    cases ep
    refine ⟨.inl ⟨rfl, us, .inl (.inl hr)⟩, ρ, δ1, M, S1, ?_⟩
    cases e2 : ev C.Γ e' ρ δ1 with
    | stk => rw [e2] at h; exact h
    | exc y δ' => rw [e2] at h; exact h.step x1
    | ok y δ2 =>
      rw [e2] at h
      simp only at h
      intro u H2 k2 x2 dc2 V2
      cases e3 : opv q [.lst s, y] with
      | none => rw [e3] at h; exact h.elim
      | some z =>
        rw [e3] at h
        have S2 := S1.step x2 dc2 k2
        have VV : Vls C M (.cons o' (.cons e' .nil)) H2 [.lst s, y] [.ref pa, u] := by
          refine ⟨⟨.ref pa, [u], rfl, S1.rpc x2 V1.rc, u, [], rfl, V2.rc, rfl⟩, fun z => ?_, fun z => ?_⟩
          · have z' : cln C.md o' = true ∧ cln C.md e' = true := by simpa [cln] using z
            exact ⟨.ref pa, [u], rfl, S1.rp x2 (V1.cl z'.1), u, [], rfl, V2.cl z'.2, rfl⟩
          · have z' : tpc C.md o' = true ∧ tpc C.md e' = true := by simpa [tpc] using z
            intro i d' v' e1 e2
            match i, e1, e2 with
            | 0, e1, e2 => cases e1; cases e2; exact S1.rpt x2 V1.rc (V1.tp z'.1)
            | 1, e1, e2 => cases e1; cases e2; exact V2.tp z'.2
        obtain ⟨a, b, eab, _, fin⟩ := op_fin ok S2 k2 (x1.trans x2) dc2 VV e3 h
        cases eab
        exact fin
theorem pe_mlD {o e : Expr} {o' e' : Ex} {m : Str} {q : Op} {ap cp : Pos} (ok : COk X C c sc k) (h : methL m e' = some q) (hr : recvOk o = true) (hl : (ap.endLine == cp.line) = true) (hp : plainE e = true) (hq : quiet e' = true) (ho : PE X o (tD C o')) (he : PE X e (tD C e')) :
    PE X (.Call (.Attribute o m ap) [e] [] cp) (tD C (.op q (.cons o' (.cons e' .nil)))) := by
  have h0 := h
  have few : ((backTo cp (starEach [e] X.env)).all (fun x => !x.1) && (backToKw cp (keywordEach [] X.env)).all (fun x => x.1.isSome) && decide ([e].length + ([] : List Keyword).length + (if ([] : List Keyword).isEmpty then 0 else 1) < 30)) = true := by
    rw [plain_star hp]; rfl
  unfold methL at h
  split at h
  · rename_i hc
    obtain ⟨rfl, _⟩ := hc
    cases h
    refine PE.to (PE.kd (pe_bm PySem.F.plainAttrs_list PySem.F.slot_list_count PySem.F.type_list_count mt_countF ho (pa_cons he pa_nil (plain_star hp _ _)) (recv_base hr _ _ _) few hl (plain_star hp _ _) rfl)) fun σ H Q z => ?_
    have h5 : OpOk C.K .lcount (r1l C.K (rCountF X.K)) := by rw [ok.K]; exact ok_lcount
    rw [← ok.K] at h5 ⊢
    exact tD_ml h0 h5 hq z
  split at h
  · rename_i hc
    subst hc
    cases h
    refine PE.to (PE.kd (pe_bm PySem.F.plainAttrs_list PySem.F.slot_list_index PySem.F.type_list_index mt_index ho (pa_cons he pa_nil (plain_star hp _ _)) (recv_base hr _ _ _) few hl (plain_star hp _ _) rfl)) fun σ H Q z => ?_
    have h5 : OpOk C.K .index (r1l C.K (rIndex X.K)) := by rw [ok.K]; exact ok_index
    rw [← ok.K] at h5 ⊢
    exact tD_ml h0 h5 hq z
  cases h
theorem pe_revD {a : Expr} {a' : Ex} {sl : Expr} {pos : Pos} (ok : COk X C c sc k) (h : isRevS sl = true) (ha : PE X a (tD C a')) : PE X (.Subscript a sl pos) (tD C (.op .revs (.cons a' .nil))) := by
  unfold isRevS at h
  split at h
  · refine PE.to (PE.kd (pe_revL ha)) fun σ H Q z => ?_
    have h5 : OpOk C.K .revs (r1 fun x H Q => ∃ a xs, x = .ref a ∧ SqL X.K H a xs ∧ ∀ p, H p = none → Q (.ref p) (upd H p (.lst xs.reverse))) := by rw [ok.K]; exact ok_revs
    rw [← ok.K] at h5 ⊢
    exact tD_eq1 (op_red h5 z)
  · cases h
theorem s_more {f : Expr → Option Ex} {e : Expr} {x : Ex} (ok : COk X C c sc k) (ih : ∀ e x, f e = some x → PE X e (tD C x)) (h : trMore c f sc e = some x) : PE X e (tD C x) ∧ ∀ whole, isTrue e X.env whole = (do let v ← whole; standAt e.pos; holding [v] (truthy v)) := by
  unfold trMore at h
  split at h
  · rename_i o m ap e cp
    split at h
    · rename_i hr
      have hr' : recvOk o = true ∧ (ap.endLine == cp.line) = true := by simpa using hr
      split at h
      · rename_i o' e' hA
        split at h
        · rename_i q h1 h2
          cases h
          obtain ⟨a2, b2, eq, e2, e3, e4, e5⟩ := trA2 hA
          cases eq
          exact ⟨pe_mlD ok h1 hr'.1 hr'.2 e5 h2 (ih _ _ e2) (ih _ _ e3), fun _ => rfl⟩
        · cases h
      · cases h
    · cases h
  · rename_i a sl pos
    split at h
    · rename_i hs
      obtain ⟨l, e1, rfl⟩ := map_opt h
      obtain ⟨a', rfl, e2, _⟩ := trA1 e1
      exact ⟨pe_revD ok hs (ih _ _ e2), fun _ => rfl⟩
    · cases h
  · cases h
end
end DC
set_option Elab.async false
set_option linter.all false
set_option maxRecDepth 100000
set_option maxHeartbeats 1000000
namespace DC
open PySem PySem.Spec L2
structure SrcOk (K : PySem.W.Frag) (src : MS) (H H2 : Hp) : Prop where
  at_ : ∀ a, src a → H2 a = H a
  tup : ∀ a vs, SqT K H a vs → SqT K H2 a vs
structure Walk (K : PySem.W.Frag) (J : It) (H : Hp) (bs : List D) (us : List V) (ds : List D) (src : MS) : Prop where
  go : ∀ i H2, SrcOk K src H H2 → KD K H2 → i < ds.length → J.go i H2
  stop : ∀ H2, SrcOk K src H H2 → KD K H2 → J.stop ds.length H2
  yld : ∀ (i : Nat) H2 v H3 d, SrcOk K src H H2 → KD K H2 → ds[i]? = some d → J.yld i H2 v H3 → Ext (fun _ => False) H2 H3 ∧ ∀ M, MOk M H2 → Rps K M H2 bs us → Rp K M H3 d v
  few : ds.length ≤ sizeLine
def It.kd (J : It) (K : PySem.W.Frag) : It := ⟨J.go, fun i H x H' => J.yld i H x H' ∧ KD K H', J.stop⟩
theorem Turn.kd {P : Program} {w : World} {K : PySem.W.Frag} {tg : Expr} {J : It} {fp : List Addr} {it : Addr} {tn : Nat → Heap → Prop} (T : Turn P w K tg J fp it tn) : Turn P w K tg (It.kd J K) fp it tn where
  mem := T.mem
  obj := T.obj
  keep := T.keep
  item := fun X e1 e2 e3 hc i pins s σ H E I hf ht hg => thn (T.item X e1 e2 e3 hc i pins s σ H E I hf ht hg) fun r s1 ⟨u, e4, q⟩ => ⟨u, e4, thn q fun _ s2 ⟨x, H', I', r', y, t, z⟩ => ⟨x, H', I', r', ⟨y, by have := KD.of I'; rw [e3] at this; exact this⟩, t, z⟩⟩
  done := T.done
  self := T.self
def tI (C : Cz) (x : Ex) : TI := fun σ H R => ∃ ρ δ M, Stt C M ρ δ σ H ∧ match ev C.Γ x ρ δ with
  | .ok d δ' => ∃ ds, d.items = some ds ∧ ∀ J H' bs us src, KD C.K H' → Ext C.pds H H' → DiceAt C δ' H' → Walk C.K J H' bs us ds src → Rps C.K C.Mc H' bs us → (tpc C.md x = true → Rps C.K M H' bs us) →
      (∀ a, src a → (∃ xs, H' a = some (.lst xs)) ∧ ¬ C.Mc a ∧ (cln C.md x = true → ¬ M a)) → R (It.kd J C.K) H'
  | .exc y δ' => Bad C y δ' H
  | .stk => False
section
variable {K : PySem.W.Frag}
theorem walk_list {H : Hp} {a : Addr} {us : List V} {ds : List D} {Mc : MS} (h : H a = some (.lst us)) (r : Rps K Mc H ds us) (hl : ds.length ≤ sizeLine) : Walk K (Itl K a) H ds us ds (fun b => b = a) where
  go := fun i H2 s kd hi => by
    have e : H2 a = some (.lst us) := by rw [s.at_ a rfl]; exact h
    rw [r.length] at hi
    exact ⟨us, us[i], .inl (.inl e), List.getElem?_eq_getElem hi⟩
  stop := fun H2 s kd => by
    have e : H2 a = some (.lst us) := by rw [s.at_ a rfl]; exact h
    exact ⟨us, .inl (.inl e), by rw [r.length]; exact Nat.le_refl _⟩
  yld := fun i H2 v H3 d s kd e1 y => by
    have e : H2 a = some (.lst us) := by rw [s.at_ a rfl]; exact h
    obtain ⟨rfl, q⟩ := y
    refine ⟨Ext.refl _ _, fun M _ rp => ?_⟩
    obtain ⟨u, e2, e3⟩ := rp.get e1
    rw [q us (.inl (.inl e))] at e2
    cases e2
    exact e3
  few := hl
theorem walk_tup {H : Hp} {a : Addr} {us : List V} {ds : List D} {Mc : MS} (h : SqT K H a us) (r : Rps K Mc H ds us) (hl : ds.length ≤ sizeLine) : Walk K (Itt K a) H ds us ds (fun _ => False) where
  go := fun i H2 s kd hi => by
    have e := s.tup a us h
    rw [r.length] at hi
    exact ⟨us, us[i], e, List.getElem?_eq_getElem hi⟩
  stop := fun H2 s kd => ⟨us, s.tup a us h, by rw [r.length]; exact Nat.le_refl _⟩
  yld := fun i H2 v H3 d s kd e1 y => by
    have e := s.tup a us h
    obtain ⟨rfl, q⟩ := y
    refine ⟨Ext.refl _ _, fun M _ rp => ?_⟩
    obtain ⟨u, e2, e3⟩ := rp.get e1
    rw [q us e] at e2
    cases e2
    exact e3
  few := hl
theorem walk_str {H : Hp} {s : List Nat} (hl : s.length ≤ sizeLine) (hc : ∀ c ∈ s, c < 128) : Walk K (Its ⟨s.toArray⟩) H [] [] (s.map fun c => .str [c]) (fun _ => False) where
  go := fun i H2 _ kd hi => by
    rw [List.length_map] at hi
    show i < s.toArray.size
    simpa using hi
  stop := fun H2 _ kd => by
    rw [List.length_map]
    show s.toArray.size ≤ s.length
    simp
  yld := fun i H2 v H3 d _ kd e1 y => by
    obtain ⟨rfl, c, e2, rfl⟩ := y
    refine ⟨Ext.refl _ _, fun M _ rp => ?_⟩
    rw [List.getElem?_map] at e1
    have e2' : s[i]? = some c := by simpa using e2
    rw [e2'] at e1
    cases e1
    refine ⟨rfl, by rw [szl]; show 1 ≤ 16777216; decide, fun c' z => ?_⟩
    have : c' = c := by simpa using z
    rw [this]
    exact hc c (List.mem_of_getElem? e2')
  few := by rw [List.length_map]; exact hl
theorem rngL_get {lo : Int} {n i : Nat} (h : i < n) : (rngL lo n)[i]? = some (.int (lo + i)) := by
  unfold rngL
  rw [List.getElem?_map, List.getElem?_range h]
  rfl
theorem rngL_len (lo : Int) (n : Nat) : (rngL lo n).length = n := by unfold rngL; simp
theorem walk_rng {H : Hp} {lo : Int} {n : Nat} (hl : n ≤ sizeLine) : Walk K (Itr lo n) H [] [] (rngL lo n) (fun _ => False) where
  go := fun i H2 _ kd hi => by rw [rngL_len] at hi; exact hi
  stop := fun H2 _ kd => by rw [rngL_len]; exact Nat.le_refl n
  yld := fun i H2 v H3 d _ kd e1 y => by
    obtain ⟨rfl, rfl⟩ := y
    refine ⟨Ext.refl _ _, fun M _ rp => ?_⟩
    have hi : i < n := by
      have := (List.getElem?_eq_some_iff.mp e1).1
      rw [rngL_len] at this; exact this
    rw [rngL_get hi] at e1
    cases e1
    rfl
  few := by rw [rngL_len]; exact hl
theorem enmL_get : ∀ {ds : List D} {n i : Nat} {d : D}, ds[i]? = some d → (enmL n ds)[i]? = some (.tup [.int ((n + i : Nat) : Int), d])
  | [], _, _, _, h => by simp at h
  | x :: ds, n, 0, d, h => by
    have : x = d := by simpa using h
    subst this; rfl
  | x :: ds, n, i + 1, d, h => by
    have := enmL_get (n := n + 1) (i := i) (d := d) (by simpa using h)
    rw [show n + (i + 1) = n + 1 + i by omega]
    simpa [enmL] using this
theorem enmL_len : ∀ (n : Nat) (ds : List D), (enmL n ds).length = ds.length
  | _, [] => rfl
  | n, d :: ds => by rw [enmL, List.length_cons, enmL_len, List.length_cons]
theorem walk_enum {H : Hp} {a : Addr} {us : List V} {ds : List D} {Mc : MS} (h : H a = some (.lst us)) (r : Rps K Mc H ds us) (hl : ds.length ≤ sizeLine) : Walk K (Ite K a) H ds us (enmL 0 ds) (fun b => b = a) where
  go := fun i H2 s kd hi => by
    have e : H2 a = some (.lst us) := by rw [s.at_ a rfl]; exact h
    rw [enmL_len, r.length] at hi
    exact ⟨us, us[i], .inl (.inl e), List.getElem?_eq_getElem hi⟩
  stop := fun H2 s kd => by
    have e : H2 a = some (.lst us) := by rw [s.at_ a rfl]; exact h
    exact ⟨us, .inl (.inl e), by rw [enmL_len, r.length]; exact Nat.le_refl _⟩
  yld := fun i H2 v H3 d s kd e1 y => by
    have e : H2 a = some (.lst us) := by rw [s.at_ a rfl]; exact h
    obtain ⟨T, x, rfl, hT, rfl, q⟩ := y
    have xx : Ext (fun _ => False) H2 (upd H2 T (.tup [.int (i : Nat), x])) := Ext.upd hT
    refine ⟨xx, fun M _ rp => ?_⟩
    have hi : i < ds.length := by
      have := (List.getElem?_eq_some_iff.mp e1).1
      rw [enmL_len] at this; exact this
    have ed : ds[i]? = some ds[i] := List.getElem?_eq_getElem hi
    rw [enmL_get ed, Nat.zero_add] at e1
    cases e1
    obtain ⟨u, e2, e3⟩ := rp.get ed
    rw [q us (.inl (.inl e))] at e2
    cases e2
    refine ⟨T, _, rfl, .inl (.inl upd_same), by rw [szl]; show 2 ≤ 16777216; decide, ?_⟩
    exact ⟨_, _, rfl, rfl, _, _, rfl, Rp.ext xx (fun _ z => z.elim) (fun _ _ _ z => z) _ _ e3, rfl⟩
  few := by rw [enmL_len]; exact hl
end
section
variable {X : Cx} {C : Cz} {c : TrC} {sc : Scope} {k : Nat} {tg : Expr}
theorem PI.to {e : Expr} {t t' : TI} (h : PI X tg e t) (w : ∀ σ H R, t' σ H R → t σ H R) : PI X tg e t' := ⟨fun pins s σ H R I q => h.run pins s σ H R I (w σ H R q)⟩
theorem PI.kd {e : Expr} {t : TI} (h : PI X tg e t) : PI X tg e (fun σ H R => t σ H fun J H' => KD X.K H' → R (It.kd J X.K) H') :=
  ⟨fun pins s σ H R I q => thn (h.run pins s σ H _ I q) fun v s1 q1 => thn q1 fun itv s2 ⟨it, fp, tn, J, H', e, I', T, t0, f0, q'⟩ => ⟨it, fp, tn, It.kd J X.K, H', e, I', Turn.kd T, t0, f0, q' (KD.of I')⟩⟩
theorem PI.or {e : Expr} {t t' : TI} (h : PI X tg e t) (h' : PI X tg e t') : PI X tg e (fun σ H R => t σ H R ∨ t' σ H R) := ⟨fun pins s σ H R I q => q.elim (h.run pins s σ H R I) (h'.run pins s σ H R I)⟩
theorem pi_plainD {e : Expr} {x : Ex} (ok : COk X C c sc k) (h : PE X e (tD C x)) : PI X tg e (tI C x) := by
  refine PI.to (PI.kd (PI.or (pi_list h) (PI.or (pi_tup h) (pi_str h)))) fun σ H R q => ?_
  obtain ⟨ρ, δ, M, S, q⟩ := q
  cases e : ev C.Γ x ρ δ with
  | stk => rw [e] at q; exact q.elim
  | exc y δ' => rw [e] at q; exact .inl ⟨ρ, δ, M, S, by rw [e]; exact q⟩
  | ok d δ1 =>
    rw [e] at q
    obtain ⟨ds, e1, q⟩ := q
    match d, e, e1 with
    | .lst xs, e, e1 =>
      cases e1
      refine .inl ⟨ρ, δ, M, S, ?_⟩
      rw [e]
      intro v H1 k1 x1 dc1 V1
      obtain ⟨a, vs, rfl, hr, hn, hl, hs⟩ := V1.rc
      have hw := walk_list (K := C.K) hr hs hl
      have hq := q (Itl C.K a) H1 _ vs (fun b => b = a) k1 x1 dc1 hw hs (fun z => ?_) (fun b z => ?_)
      · rw [ok.K] at hq
        exact ⟨a, rfl, ⟨vs, .inl (.inl hr)⟩, fun _ => hq⟩
      · obtain ⟨a', vs', e', hr', _, hs'⟩ := V1.tp z
        cases e'
        rw [hr] at hr'; cases hr'
        exact hs'
      · subst z
        refine ⟨⟨vs, hr⟩, hn, fun z => ?_⟩
        obtain ⟨a', vs', e', hr', hn', _⟩ := V1.cl z
        cases e'
        exact hn'
    | .tup xs, e, e1 =>
      cases e1
      refine .inr (.inl ⟨ρ, δ, M, S, ?_⟩)
      rw [e]
      intro v H1 k1 x1 dc1 V1
      obtain ⟨a, vs, rfl, hr, hl, hs⟩ := V1.rc
      have hw := walk_tup (K := C.K) hr hs hl
      have hq := q (Itt C.K a) H1 _ vs (fun _ => False) k1 x1 dc1 hw hs (fun z => ?_) (fun b z => z.elim)
      · rw [ok.K] at hq hr
        exact ⟨a, rfl, ⟨vs, hr⟩, fun _ => hq⟩
      · obtain ⟨a', vs', e', hr', _, hs'⟩ := V1.tp z
        cases e'
        cases k1.tup hr hr'
        exact hs'
    | .str xs, e, e1 =>
      cases e1
      refine .inr (.inr ⟨ρ, δ, M, S, ?_⟩)
      rw [e]
      intro v H1 k1 x1 dc1 V1
      obtain ⟨rfl, hl, hc⟩ := V1.rc
      have hq := q _ H1 [] [] (fun _ => False) k1 x1 dc1 (walk_str hl hc) rfl (fun _ => rfl) (fun b z => z.elim)
      rw [ok.K] at hq
      exact ⟨_, rfl, fun _ => hq⟩
end
end DC
set_option Elab.async false
set_option linter.all false
set_option maxRecDepth 100000
set_option maxHeartbeats 1000000
namespace DC
open PySem PySem.Spec L2
section
variable {X : Cx} {C : Cz} {c : TrC} {sc : Scope} {k : Nat} {tg : Expr}
theorem tI_args {o : Op} {l : Ex} {σ : St} {H : Hp} {R : It → Hp → Prop} {R' : List V → Hp → Prop} (h : tI C (.op o l) σ H R)
    (w : ∀ (ρ : En) (M : MS) (δ' : Dice) (ds : List D) (d : D) (is : List D) (vs : List V) (H' : Hp), opv o ds = some d → d.items = some is → Stt C M ρ δ' σ H' → KD C.K H' → Ext C.pds H H' → DiceAt C δ' H' → Vls C M l H' ds vs →
      (∀ J bs us src, Walk C.K J H' bs us is src → Rps C.K C.Mc H' bs us → (tpc C.md (.op o l) = true → Rps C.K M H' bs us) →
        (∀ a, src a → (∃ xs, H' a = some (.lst xs)) ∧ ¬ C.Mc a ∧ (cln C.md (.op o l) = true → ¬ M a)) → R (It.kd J C.K) H') → R' vs H') : tDs C l σ H R' := by
  obtain ⟨ρ, δ, M, S, h⟩ := h
  refine ⟨ρ, δ, M, S, ?_⟩
  simp only [ev] at h
  cases e : ev C.Γ l ρ δ with
  | stk => rw [e] at h; exact h
  | exc y δ' => rw [e] at h; exact h
  | ok ds δ1 =>
    rw [e] at h
    simp only [Res.bind] at h
    cases ds with
    | tup ds =>
      simp only at h ⊢
      intro vs H1 k1 x1 dc1 V1
      cases e2 : opv o ds with
      | none => rw [e2] at h; exact h.elim
      | some d =>
        rw [e2] at h
        obtain ⟨is, e3, h⟩ := h
        exact w ρ M δ1 ds d is vs H1 e2 e3 (S.step x1 dc1 k1) k1 x1 dc1 V1 fun J bs us src hw h1 h2 h3 => h J H1 bs us src k1 x1 dc1 hw h1 h2 h3
    | _ => exact h.elim
theorem small_of {i : Int} (h : small i = true) : -(2 ^ 62) ≤ i ∧ i < 2 ^ 62 ∧ i ≤ 16777216 := by
  have h' : -4611686018427387904 ≤ i ∧ i ≤ 16777216 := of_decide_eq_true h
  rw [two62]
  omega
theorem stpL_get {lo st : Int} {n i : Nat} (h : i < n) : (stpL lo st n)[i]? = some (.int (lo + i * st)) := by
  unfold stpL
  rw [List.getElem?_map, List.getElem?_range h]
  rfl
theorem stpL_len (lo st : Int) (n : Nat) : (stpL lo st n).length = n := by unfold stpL; simp
theorem walk_stp {K : PySem.W.Frag} {H : Hp} {lo st : Int} {n : Nat} (hl : n ≤ sizeLine) : Walk K (Itc lo st n) H [] [] (stpL lo st n) (fun _ => False) where
  go := fun i H2 _ kd hi => by rw [stpL_len] at hi; exact hi
  stop := fun H2 _ kd => by rw [stpL_len]; exact Nat.le_refl n
  yld := fun i H2 v H3 d _ kd e1 y => by
    obtain ⟨rfl, rfl⟩ := y
    refine ⟨Ext.refl _ _, fun M _ rp => ?_⟩
    have hi : i < n := by
      have := (List.getElem?_eq_some_iff.mp e1).1
      rw [stpL_len] at this; exact this
    rw [stpL_get hi] at e1
    cases e1
    rfl
  few := by rw [stpL_len]; exact hl
theorem pi_rng1 {a : Expr} {l : Ex} {p pos : Pos} {f : Expr → Option Ex} (ok : COk X C c sc k) (hg : glB sc "range" = true) (hl : trA f [a] = some l) (ih : ∀ e x, f e = some x → PE X e (tD C x)) : PI X tg (.Call (.Name "range" p) [a] [] pos) (tI C (.op (.rng 1) l)) := by
  have hA := sA ih [a] l hl
  obtain ⟨a', rfl, e1, e2⟩ := trA1 hl
  refine PI.to (PI.kd (pi_range1 (ok.gl _ hg) (ok.blt _ (by decide)) hA (plain_star e2 _ _))) fun σ H R q => ?_
  refine tI_args q fun ρ M δ' ds d is vs H' e1 e2 S' k1 x1 dc1 V hq => ?_
  match ds, e1 with
  | [.int n], e1 =>
    simp only [opv, dRng] at e1
    split at e1
    · rename_i hs
      cases e1
      cases e2
      obtain ⟨s1, s2, s3⟩ := small_of hs
      obtain ⟨x, rfl, h1⟩ := V.rc.one
      cases (show x = .int n from h1)
      exact ⟨n, rfl, s1, s2, fun _ => by rw [← ok.K]; exact hq _ [] [] (fun _ => False) (walk_rng (by rw [szl]; omega)) rfl (fun _ => rfl) (fun _ z => z.elim)⟩
    · cases e1
theorem pi_rng2 {a b : Expr} {l : Ex} {p pos : Pos} {f : Expr → Option Ex} (ok : COk X C c sc k) (hg : glB sc "range" = true) (hl : trA f [a, b] = some l) (ih : ∀ e x, f e = some x → PE X e (tD C x)) : PI X tg (.Call (.Name "range" p) [a, b] [] pos) (tI C (.op (.rng 2) l)) := by
  have hA := sA ih [a, b] l hl
  obtain ⟨a', b', rfl, e1, e2, e3, e4⟩ := trA2 hl
  refine PI.to (PI.kd (pi_range2 (ok.gl _ hg) (ok.blt _ (by decide)) hA ?_ (plain_star e4 _ _))) fun σ H R q => ?_
  · rw [plain_star e3, plain_star e4]; rfl
  refine tI_args q fun ρ M δ' ds d is vs H' e1 e2 S' k1 x1 dc1 V hq => ?_
  match ds, e1 with
  | [.int n, .int m], e1 =>
    simp only [opv, dRng] at e1
    split at e1
    · rename_i hs
      simp only [Bool.and_eq_true, decide_eq_true_eq] at hs
      cases e1
      cases e2
      obtain ⟨s1, s2, s3⟩ := small_of hs.1.1
      obtain ⟨t1, t2, t3⟩ := small_of hs.1.2
      obtain ⟨x, y, rfl, h1, h2⟩ := V.rc.two
      cases (show x = .int n from h1)
      cases (show y = .int m from h2)
      exact ⟨n, m, rfl, ⟨s1, s2, t1, t2⟩, fun _ => by rw [← ok.K]; exact hq _ [] [] (fun _ => False) (walk_rng (by rw [szl]; omega)) rfl (fun _ => rfl) (fun _ z => z.elim)⟩
    · cases e1
theorem pi_rng3 {a b d : Expr} {l : Ex} {p pos : Pos} {f : Expr → Option Ex} (ok : COk X C c sc k) (hg : glB sc "range" = true) (hl : trA f [a, b, d] = some l) (ih : ∀ e x, f e = some x → PE X e (tD C x)) : PI X tg (.Call (.Name "range" p) [a, b, d] [] pos) (tI C (.op (.rng 3) l)) := by
  have hA := sA ih [a, b, d] l hl
  have hst : plainE a = true ∧ ∃ l', trA f [b, d] = some l' := by
    unfold trA at hl
    split at hl
    · rename_i hp
      refine ⟨hp, ?_⟩
      cases e1 : f a <;> cases e2 : trA f [b, d] <;> simp only [e1, e2] at hl <;> try cases hl
      exact ⟨_, rfl⟩
    · cases hl
  obtain ⟨hp, l', hl'⟩ := hst
  refine PI.to (PI.kd (pi_range3 (ok.gl _ hg) (ok.blt _ (by decide)) hA (plain_star hp _ _) (trA_star hl' _ _))) fun σ H R q => ?_
  refine tI_args q fun ρ M δ' ds d is vs H' e1 e2 S' k1 x1 dc1 V hq => ?_
  match ds, e1 with
  | [.int n, .int m, .int s], e1 =>
    simp only [opv, dRng] at e1
    split at e1
    · rename_i hs
      simp only [Bool.and_eq_true, decide_eq_true_eq] at hs
      cases e1
      cases e2
      obtain ⟨s1, s2, s3⟩ := small_of hs.1.1.1
      obtain ⟨t1, t2, t3⟩ := small_of hs.1.1.2
      obtain ⟨x, y, z, rfl, h1, h2, h3⟩ := V.rc.three
      cases (show x = .int n from h1)
      cases (show y = .int m from h2)
      cases (show z = .int s from h3)
      obtain ⟨_, _, hs2⟩ := id hs
      refine ⟨n, m, -1, (n - m).toNat, rfl, RgC.neg s1 s2 t1 t2, fun _ => by rw [← ok.K]; exact hq _ [] [] (fun _ => False) (walk_stp (by rw [szl]; omega)) rfl (fun _ => rfl) (fun _ z => z.elim)⟩
    · cases e1
end
end DC
set_option Elab.async false
set_option linter.all false
set_option maxRecDepth 100000
set_option maxHeartbeats 1000000
namespace DC
open PySem PySem.Spec PyProof.Rows L2
theorem meets_en1 {v : Value} {o : Obj} {Hq : Heap → Prop} (B : Begins v o Hq) :
    Meets (Builtin.«enumerate.__new__» ⟨[.type "enumerate", v], []⟩) (fun _ R s => Hq s.heap ∧
      R (.ok (.ret (.ref (s.heap.push o).objs.size))) { s with heap := (s.heap.push o).push { cls := .type "enumerate", data := .fields #[.none, .bool false, .ref s.heap.objs.size, rawInt 0, .none, .none] } }) :=
  .of_wp fun prog w A R s h => by
    obtain ⟨hp, g, d, tk, os⟩ := s
    obtain ⟨b1, h⟩ := h
    have hsub := sub_enumerate
    have qi : ∀ {A' : Around} {E : Value → Shared → Prop} {Q : Value → Shared → Prop}, Q (.ref hp.objs.size) ⟨hp.push o, g, d, tk, os⟩ → wpAny (model prog w) A' (pyIter v) Q E ⟨hp, g, d, tk, os⟩ :=
      fun q => B.iter prog w _ _ ⟨hp, g, d, tk, os⟩ _ b1 q
    wp_walk using qi
    refine wpAny_stack_any fun st => wpAny_pure ?_
    split
    · rename_i c _ _ _ _ _
      cases (c == Value.type "enumerate") <;> (wp_walk using qi; exact ⟨_, rfl, h⟩)
    · wp_walk using qi
      exact ⟨_, rfl, h⟩
theorem call_en1 {prog : Program} {w : World} {A : Around} {E : Value → Shared → Prop} {s : Shared} {v : Value} {o : Obj} {Hq : Heap → Prop} {Q : Value → Shared → Prop} (B : Begins v o Hq) (h1 : Hq s.heap)
    (h : ∀ h', IsEnum h' (s.heap.objs.size + 1) s.heap.objs.size 0 .none → h'.get? s.heap.objs.size = some o → h'.objs.size = s.heap.objs.size + 2 → (∀ b o, s.heap.get? b = some o → h'.get? b = some o) → Q (.ref (s.heap.objs.size + 1)) { s with heap := h' }) :
    wpAny (model prog w) A (call (.type "enumerate") [v]) Q E s := by
  refine callType_new F.called_enumerate (by decide) (F.typeCall_enumerate_1 _) (F.newCall_enumerate_1 _) (fun obj => F.args_object_init_2 obj _) F.entry_enumerate_new (meets_en1 B) ⟨h1, ?_⟩
  have z1 : (s.heap.push o).objs.size = s.heap.objs.size + 1 := Heap.size_push ..
  show _ ∧ _
  rw [z1]
  have he : IsEnum ((s.heap.push o).push { cls := .type "enumerate", data := .fields #[.none, .bool false, .ref s.heap.objs.size, rawInt 0, .none, .none] }) (s.heap.objs.size + 1) s.heap.objs.size 0 .none := by
    have q := Heap.get?_push_size (s.heap.push o) (o := { cls := .type "enumerate", data := .fields #[.none, .bool false, .ref s.heap.objs.size, rawInt 0, .none, .none] }) rfl
    rw [z1] at q
    exact q
  exact ⟨⟨_, he, rfl⟩, h _ he (Heap.get?_push_of_some _ (Heap.get?_push_size _ B.free)) (by rw [Heap.size_push, z1]) fun b o x => Heap.get?_push_of_some _ (Heap.get?_push_of_some _ x)⟩
def IteT (K : PySem.W.Frag) (a : Addr) : It :=
  ⟨fun i H => ∃ (xs : List V) (x : V), SqT K H a xs ∧ xs[i]? = some x, fun i H v H' => ∃ T x, v = .ref T ∧ H T = none ∧ H' = upd H T (.tup [.int (i : Nat), x]) ∧ ∀ xs, SqT K H a xs → xs[i]? = some x, fun i H => ∃ xs : List V, SqT K H a xs ∧ xs.length = i⟩
def IteS (y : Str) : It :=
  ⟨fun i _ => i < y.cps.size, fun i H v H' => ∃ T c, v = .ref T ∧ H T = none ∧ H' = upd H T (.tup [.int (i : Nat), .str ⟨#[c]⟩]) ∧ y.cps[i]? = some c, fun i _ => y.cps.size = i⟩
theorem two_in {e it b : Addr} (hb : b ∈ [e, it]) : b = e ∨ b = it := by simpa using hb
theorem turn_enT {P : Program} {w : World} {K : PySem.W.Frag} {elts : List Expr} {kk : Nat} {tpos : Pos} (a e it : Addr) :
    Turn P w K (.Tuple elts kk tpos) (IteT K a) [e, it] e (fun i h => (∃ old, IsEnum h e it ((i : Nat) : Int) old) ∧ h.IsTupleIter it a i ∧ e ≠ it ∧ a ≠ it ∧ a ≠ e) where
  mem := by simp
  obj := fun i h st b hb => by
    obtain ⟨⟨old, he⟩, ⟨o, ho, _, hd⟩, _⟩ := st
    rcases two_in hb with z | z
    · rw [z]; exact ⟨_, he, fun v q => by cases q⟩
    · exact ⟨o, by rw [z]; exact ho, fun v q => by rw [hd] at q; cases q⟩
  keep := fun i h h' st k => let ⟨⟨old, he⟩, hi, r⟩ := st; ⟨⟨old, k e (by simp) _ he⟩, hi.at fun o q => k it (by simp) o q, r⟩
  item := by
    intro X hP hw hK hc i pins s σ H E I hf st hg
    subst hP hw hK
    obtain ⟨⟨old, he⟩, hi, n1, n2, n3⟩ := st
    obtain ⟨xs, x, hq, hx⟩ := hg
    obtain ⟨ys, rv, p, _⟩ := I.tuple hq
    obtain ⟨u, hu, ru⟩ := rv.get hx
    have le : e < s.heap.objs.size := Heap.lt_size he
    have li : it < s.heap.objs.size := by obtain ⟨_, q, _⟩ := hi; exact Heap.lt_size q
    have hlt : i < ys.toArray.size := by
      have := (List.getElem?_eq_some_iff.mp hu).1
      simpa using this
    have D : Draws X.prog X.w X.A.in1 it [it, a] ys.toArray.size _ _ := Draws.tuple (show X.A.in1.handled = none from I.ok.hd hc) it a n2 ys.toArray
    refine wpAny_pyNext_enum_itemD D he ⟨hi, p⟩ hlt n1 (by simp; exact ⟨n1, fun z => n3 z.symm⟩) fun y h' tk hy ho st' hT hz hk => ?_
    have ey : y = u := by
      have e1 : ys.toArray[i]? = some u := by simpa using hu
      rw [show ys.toArray[i]? = some y from hy] at e1
      exact Option.some.inj e1
    subst ey
    refine ⟨_, rfl, wpAny_letOwnedTupleGo_enum (s := { s with heap := h', toks := tk + 1 }) ho fun h2 he2 sb => ?_⟩
    have hT2 : h2.get? s.heap.objs.size = some { cls := .type "tuple", data := .seq #[.int i tk, y] } := (sb.2 _ (Nat.ne_of_gt le)).trans hT
    have nw : ObjOk X.prog X.w (upd H s.heap.objs.size (.tup [.int (i : Nat), x])) h2 s.heap.objs.size (.tup [.int (i : Nat), x]) :=
      ⟨by show 2 ≤ sizeLine; decide, [.int i tk, y], .cons ⟨_, rfl⟩ (.cons ru .nil), ⟨_, hT2, rfl, _, rfl⟩⟩
    have I1 : Inv X pins σ (upd H s.heap.objs.size (.tup [.int (i : Nat), x])) { s with heap := h2, toks := tk + 1 } :=
      I.turnedNew (ch := [e, it]) (fun b ob hb q => (sb.2 b (fun z => hb (by simp [z]))).trans (hk b ob (fun z => hb (by simp [z])) (fun z => hb (by simp [z])) q)) hf (Nat.le_refl _) nw
    refine ⟨.ref s.heap.objs.size, _, I1, rfl, ⟨_, x, rfl, I.hok.fresh (Nat.le_refl _), rfl, fun zs hy => by rw [I.tuple_inj hy hq]; exact hx⟩, ⟨⟨y, ?_⟩, st'.1.at fun o q => (sb.2 it (Ne.symm n1)).trans q, n1, n2, n3⟩, fun b hb => ?_⟩
    · rw [show ((i + 1 : Nat) : Int) = (i : Int) + 1 by omega]
      exact he2
    · have lb : b < s.heap.objs.size := by rcases two_in hb with z | z <;> (rw [z]; assumption)
      rw [upd_ne (Nat.ne_of_lt lb)]
      exact (hf b hb).1
  done := by
    intro X hP hw hK hc i pins s σ H E I hf st hg
    subst hP hw hK
    obtain ⟨⟨old, he⟩, hi, n1, n2, n3⟩ := st
    obtain ⟨xs, hq, hx⟩ := hg
    obtain ⟨ys, rv, p, _⟩ := I.tuple hq
    obtain ⟨f0, f1, f2, f3, f4, f5⟩ := hf it (by simp)
    have ei : i = ys.toArray.size := by
      have := rv.length
      simp
      omega
    have D : Draws X.prog X.w X.A.in1 it [it, a] ys.toArray.size _ _ := Draws.tuple (show X.A.in1.handled = none from I.ok.hd hc) it a n2 ys.toArray
    rw [ei] at hi
    exact wpAny_pyNext_enum_endD D he ⟨hi, p⟩ fun h' eb => ⟨rfl, I.turned (t' := s.toks) (fun b o hb q => eb b o hb q) f0 f1 f3 f4 f5⟩
  self := fun A i s Q E st h => let ⟨⟨_, he⟩, _⟩ := st; wpAny_pyIter_enum he h
theorem turn_enS {P : Program} {w : World} {K : PySem.W.Frag} {elts : List Expr} {kk : Nat} {tpos : Pos} (y : Str) (t : Tok) (e it : Addr) :
    Turn P w K (.Tuple elts kk tpos) (IteS y) [e, it] e (fun i h => (∃ old, IsEnum h e it ((i : Nat) : Int) old) ∧ h.IsStrIter it (strIterType y) y t i ∧ e ≠ it) where
  mem := by simp
  obj := fun i h st b hb => by
    obtain ⟨⟨old, he⟩, ⟨o, ho, _, hd⟩, _⟩ := st
    rcases two_in hb with z | z
    · rw [z]; exact ⟨_, he, fun v q => by cases q⟩
    · rw [z]; exact ⟨o, ho, fun v q => by rw [hd] at q; cases q⟩
  keep := fun i h h' st k => let ⟨⟨old, he⟩, hi, r⟩ := st; ⟨⟨old, k e (by simp) _ he⟩, let ⟨o, ho, x⟩ := hi; ⟨o, k it (by simp) o ho, x⟩, r⟩
  item := by
    intro X hP hw hK hc i pins s σ H E I hf st hg
    subst hP hw hK
    obtain ⟨⟨old, he⟩, hi, n1⟩ := st
    have hlt : i < y.cps.size := hg
    have le : e < s.heap.objs.size := Heap.lt_size he
    have li : it < s.heap.objs.size := by obtain ⟨_, q, _⟩ := hi; exact Heap.lt_size q
    have D : Draws X.prog X.w X.A.in1 it [it] y.cps.size _ _ := Draws.text (show X.A.in1.handled = none from I.ok.hd hc) it y t
    refine wpAny_pyNext_enum_itemD D he hi hlt n1 (by simpa using n1) fun u h' tk hy ho st' hT hz hk => ?_
    obtain ⟨c, tu, hcu, rfl⟩ := hy
    refine ⟨_, rfl, wpAny_letOwnedTupleGo_enum (s := { s with heap := h', toks := tk + 1 }) ho fun h2 he2 sb => ?_⟩
    have hT2 : h2.get? s.heap.objs.size = some { cls := .type "tuple", data := .seq #[.int i tk, .str ⟨#[c]⟩ tu] } := (sb.2 _ (Nat.ne_of_gt le)).trans hT
    have nw : ObjOk X.prog X.w (upd H s.heap.objs.size (.tup [.int (i : Nat), .str ⟨#[c]⟩])) h2 s.heap.objs.size (.tup [.int (i : Nat), .str ⟨#[c]⟩]) :=
      ⟨by show 2 ≤ sizeLine; decide, [.int i tk, .str ⟨#[c]⟩ tu], .cons ⟨_, rfl⟩ (.cons ⟨_, rfl⟩ .nil), ⟨_, hT2, rfl, _, rfl⟩⟩
    have I1 : Inv X pins σ (upd H s.heap.objs.size (.tup [.int (i : Nat), .str ⟨#[c]⟩])) { s with heap := h2, toks := tk + 1 } :=
      I.turnedNew (ch := [e, it]) (fun b ob hb q => (sb.2 b (fun z => hb (by simp [z]))).trans (hk b ob (fun z => hb (by simp [z])) (fun z => hb (by simp [z])) q)) hf (Nat.le_refl _) nw
    refine ⟨.ref s.heap.objs.size, _, I1, rfl, ⟨_, c, rfl, I.hok.fresh (Nat.le_refl _), rfl, hcu⟩, ⟨⟨.str ⟨#[c]⟩ tu, ?_⟩, let ⟨o, ho, x⟩ := st'; ⟨o, (sb.2 it (Ne.symm n1)).trans ho, x⟩, n1⟩, fun b hb => ?_⟩
    · rw [show ((i + 1 : Nat) : Int) = (i : Int) + 1 by omega]
      exact he2
    · have lb : b < s.heap.objs.size := by rcases two_in hb with z | z <;> (rw [z]; assumption)
      rw [upd_ne (Nat.ne_of_lt lb)]
      exact (hf b hb).1
  done := by
    intro X hP hw hK hc i pins s σ H E I hf st hg
    subst hP hw hK
    obtain ⟨⟨old, he⟩, hi, n1⟩ := st
    have ei : y.cps.size = i := hg
    obtain ⟨f0, f1, f2, f3, f4, f5⟩ := hf it (by simp)
    have D : Draws X.prog X.w X.A.in1 it [it] y.cps.size _ _ := Draws.text (show X.A.in1.handled = none from I.ok.hd hc) it y t
    rw [← ei] at hi
    exact wpAny_pyNext_enum_endD D he hi fun h' eb => ⟨rfl, I.turned (t' := s.toks) (fun b o hb q => eb b o hb q) f0 f1 f3 f4 f5⟩
  self := fun A i s Q E st h => let ⟨⟨_, he⟩, _⟩ := st; wpAny_pyIter_enum he h
def iEnA (K : PySem.W.Frag) (ta : TA) : TI := fun σ H R => ta σ H fun vs H1 => (∃ a xs, vs = [.ref a] ∧ SqL K H1 a xs ∧ R (Ite K a) H1) ∨ (∃ a xs, vs = [.ref a] ∧ SqT K H1 a xs ∧ R (IteT K a) H1) ∨ ∃ y, vs = [.str y] ∧ R (IteS y) H1
theorem pi_enA {X : Cx} {e : Expr} {ta : TA} {p pos tpos : Pos} {elts : List Expr} {kk : Nat} (hg : Gl X "enumerate") (hm : X.mg "enumerate" = none) (ha : PA X [e] ta) (hs : starEach [e] X.env = [(false, eval e X.env)]) :
    PI X (.Tuple elts kk tpos) (.Call (.Name "enumerate" p) [e] [] pos) (iEnA X.K ta) := by
  refine ⟨fun pins s σ H R I h => ?_⟩
  refine Call_ (ld_blt I hg hm boot_enumerate (PyProof.Rows.callWith_type1 (thn (ha.run pos pins s σ H _ I h) fun us s1 ⟨vs, H1, I1, r1, q1⟩ => ?_) hs rfl))
  have fp : ∀ b ∈ [s1.heap.objs.size + 1, s1.heap.objs.size], FpOk X pins H1 b := fun b hb => by
    have hle : s1.heap.objs.size ≤ b := by rcases two_in hb with z | z <;> (rw [z]; first | exact Nat.le_succ _ | exact Nat.le_refl _)
    exact I1.fpOk hle (I1.hok.fresh hle)
  rcases q1 with ⟨a, xs, rfl, hq, q⟩ | ⟨a, xs, rfl, hq, q⟩ | ⟨y, rfl, q⟩
  · cases r1 with
    | cons r rr =>
      cases rr
      cases r
      obtain ⟨ys, rv, p', _⟩ := I1.list hq
      refine call_en1 (begins_list a ys.toArray) p'.isList fun h' he hit hsz hk => wpAny_pyIter_enum he ?_
      have I2 : Inv X pins σ H1 { s1 with heap := h' } := I1.kept (t' := s1.toks) hk
      exact ⟨s1.heap.objs.size + 1, _, _, _, H1, rfl, I2, turn_enum a (s1.heap.objs.size + 1) s1.heap.objs.size, ⟨⟨.none, he⟩, ⟨_, hit, rfl, rfl⟩, Nat.succ_ne_self _⟩, fp, q⟩
  · cases r1 with
    | cons r rr =>
      cases rr
      cases r
      obtain ⟨ys, rv, p', _⟩ := I1.tuple hq
      have la : a < s1.heap.objs.size := by obtain ⟨o, ho, _⟩ := p'; exact Heap.lt_size ho
      refine call_en1 (begins_tuple a ys.toArray) p' fun h' he hit hsz hk => wpAny_pyIter_enum he ?_
      have I2 : Inv X pins σ H1 { s1 with heap := h' } := I1.kept (t' := s1.toks) hk
      exact ⟨s1.heap.objs.size + 1, _, _, _, H1, rfl, I2, turn_enT a (s1.heap.objs.size + 1) s1.heap.objs.size, ⟨⟨.none, he⟩, ⟨_, hit, rfl, rfl⟩, Nat.succ_ne_self _, Nat.ne_of_lt la, Nat.ne_of_lt (Nat.lt_succ_of_lt la)⟩, fp, q⟩
  · cases r1 with
    | cons r rr =>
      cases rr
      obtain ⟨t, rfl⟩ := r
      refine call_en1 (begins_text y t) trivial fun h' he hit hsz hk => wpAny_pyIter_enum he ?_
      have I2 : Inv X pins σ H1 { s1 with heap := h' } := I1.kept (t' := s1.toks) hk
      exact ⟨s1.heap.objs.size + 1, _, _, _, H1, rfl, I2, turn_enS y t (s1.heap.objs.size + 1) s1.heap.objs.size, ⟨⟨.none, he⟩, ⟨_, hit, rfl, rfl⟩, Nat.succ_ne_self _⟩, fp, q⟩
end DC
set_option Elab.async false
set_option linter.all false
set_option maxRecDepth 100000
set_option maxHeartbeats 1000000
namespace DC
open PySem PySem.Spec L2
section
variable {K : PySem.W.Frag}
theorem walk_enT {H : Hp} {a : Addr} {us : List V} {ds : List D} {Mc : MS} (h : SqT K H a us) (kd0 : KD K H) (r : Rps K Mc H ds us) (hl : ds.length ≤ sizeLine) : Walk K (IteT K a) H ds us (enmL 0 ds) (fun _ => False) where
  go := fun i H2 s kd hi => by
    rw [enmL_len, r.length] at hi
    exact ⟨us, us[i], s.tup a us h, List.getElem?_eq_getElem hi⟩
  stop := fun H2 s kd => ⟨us, s.tup a us h, by rw [enmL_len, r.length]⟩
  yld := fun i H2 v H3 d s kd e1 y => by
    obtain ⟨T, x, rfl, hT, rfl, q⟩ := y
    have xx : Ext (fun _ => False) H2 (upd H2 T (.tup [.int (i : Nat), x])) := Ext.upd hT
    refine ⟨xx, fun M _ rp => ?_⟩
    have hi : i < ds.length := by
      have := (List.getElem?_eq_some_iff.mp e1).1
      rw [enmL_len] at this; exact this
    have ed : ds[i]? = some ds[i] := List.getElem?_eq_getElem hi
    rw [enmL_get ed, Nat.zero_add] at e1
    cases e1
    obtain ⟨u, e2, e3⟩ := rp.get ed
    rw [q us (s.tup a us h)] at e2
    cases e2
    refine ⟨T, _, rfl, .inl (.inl upd_same), by rw [szl]; show 2 ≤ 16777216; decide, ?_⟩
    exact ⟨_, _, rfl, rfl, _, _, rfl, Rp.ext xx (fun _ z => z.elim) (fun _ _ _ z => z) _ _ e3, rfl⟩
  few := by rw [enmL_len]; exact hl
theorem walk_enS {H : Hp} {s : List Nat} (hl : s.length ≤ sizeLine) (hc : ∀ c ∈ s, c < 128) : Walk K (IteS ⟨s.toArray⟩) H [] [] (enmL 0 (s.map fun c => .str [c])) (fun _ => False) where
  go := fun i H2 _ kd hi => by
    rw [enmL_len, List.length_map] at hi
    show i < s.toArray.size
    simpa using hi
  stop := fun H2 _ kd => by
    show s.toArray.size = _
    rw [enmL_len, List.length_map]; simp
  yld := fun i H2 v H3 d _ kd e1 y => by
    obtain ⟨T, c, rfl, hT, rfl, q⟩ := y
    have xx : Ext (fun _ => False) H2 (upd H2 T (.tup [.int (i : Nat), .str ⟨#[c]⟩])) := Ext.upd hT
    refine ⟨xx, fun M _ rp => ?_⟩
    have qc : s[i]? = some c := by simpa using q
    have ed : (s.map fun c => D.str [c])[i]? = some (.str [c]) := by rw [List.getElem?_map, qc]; rfl
    rw [enmL_get ed, Nat.zero_add] at e1
    cases e1
    refine ⟨T, _, rfl, .inl (.inl upd_same), by rw [szl]; show 2 ≤ 16777216; decide, ?_⟩
    refine ⟨_, _, rfl, rfl, _, _, rfl, ⟨rfl, by rw [szl]; show 1 ≤ 16777216; decide, fun c' z => ?_⟩, rfl⟩
    have : c' = c := by simpa using z
    rw [this]
    exact hc c (List.mem_of_getElem? qc)
  few := by rw [enmL_len, List.length_map]; exact hl
theorem zipL_get : ∀ {ds es : List D} {i : Nat} {d : D}, (zipL ds es)[i]? = some d → ∃ x y, ds[i]? = some x ∧ es[i]? = some y ∧ d = .tup [x, y]
  | [], _, _, _, h => by simp [zipL] at h
  | _ :: _, [], _, _, h => by simp [zipL] at h
  | x :: ds, y :: es, 0, d, h => by
    simp [zipL] at h
    exact ⟨x, y, rfl, rfl, h.symm⟩
  | x :: ds, y :: es, i + 1, d, h => by
    obtain ⟨a, b, e1, e2, e3⟩ := zipL_get (ds := ds) (es := es) (i := i) (d := d) (by simpa [zipL] using h)
    exact ⟨a, b, by simpa using e1, by simpa using e2, e3⟩
theorem zipL_len : ∀ (ds es : List D), (zipL ds es).length = min ds.length es.length
  | [], _ => by simp [zipL]
  | _ :: _, [] => by simp [zipL]
  | x :: ds, y :: es => by simp [zipL, zipL_len ds es]
theorem Rps.cut2 {M : MS} {H : Hp} {ds es : List D} {us ws : List V} (h : Rps K M H (ds ++ es) (us ++ ws)) (hl : ds.length = us.length) : Rps K M H ds us ∧ Rps K M H es ws := by
  refine ⟨?_, ?_⟩
  · have := h.take ds.length
    rw [List.take_left] at this
    rwa [hl, List.take_left] at this
  · have := h.drop ds.length
    rw [List.drop_left] at this
    rwa [hl, List.drop_left] at this
theorem walk_zip {H : Hp} {a b : Addr} {us ws : List V} {ds es : List D} {Mc : MS} (h : H a = some (.lst us)) (h' : H b = some (.lst ws)) (r : Rps K Mc H ds us) (r' : Rps K Mc H es ws) (hl : ds.length ≤ sizeLine) : Walk K (Itz K a b) H (ds ++ es) (us ++ ws) (zipL ds es) (fun z => z = a ∨ z = b) where
  go := fun i H2 s kd hi => by
    have e : H2 a = some (.lst us) := by rw [s.at_ a (.inl rfl)]; exact h
    have e' : H2 b = some (.lst ws) := by rw [s.at_ b (.inr rfl)]; exact h'
    rw [zipL_len, r.length, r'.length] at hi
    exact ⟨us, ws, us[i]'(by omega), ws[i]'(by omega), .inl (.inl e), .inl (.inl e'), List.getElem?_eq_getElem _, List.getElem?_eq_getElem _⟩
  stop := fun H2 s kd => by
    have e : H2 a = some (.lst us) := by rw [s.at_ a (.inl rfl)]; exact h
    have e' : H2 b = some (.lst ws) := by rw [s.at_ b (.inr rfl)]; exact h'
    refine ⟨us, ws, .inl (.inl e), .inl (.inl e'), ?_⟩
    rw [zipL_len, r.length, r'.length]
    omega
  yld := fun i H2 v H3 d s kd e1 y => by
    have e : H2 a = some (.lst us) := by rw [s.at_ a (.inl rfl)]; exact h
    have e' : H2 b = some (.lst ws) := by rw [s.at_ b (.inr rfl)]; exact h'
    obtain ⟨T, x, y, rfl, hT, rfl, q1, q2⟩ := y
    have xx : Ext (fun _ => False) H2 (upd H2 T (.tup [x, y])) := Ext.upd hT
    refine ⟨xx, fun M _ rp => ?_⟩
    obtain ⟨p1, p2⟩ := rp.cut2 r.length
    obtain ⟨dx, dy, g1, g2, rfl⟩ := zipL_get e1
    obtain ⟨u, e2, e3⟩ := p1.get g1
    rw [q1 us (.inl (.inl e))] at e2
    cases e2
    obtain ⟨w', e4, e5⟩ := p2.get g2
    rw [q2 ws (.inl (.inl e'))] at e4
    cases e4
    refine ⟨T, _, rfl, .inl (.inl upd_same), by rw [szl]; show 2 ≤ 16777216; decide, ?_⟩
    exact ⟨_, _, rfl, Rp.ext xx (fun _ z => z.elim) (fun _ _ _ z => z) _ _ e3, _, _, rfl, Rp.ext xx (fun _ z => z.elim) (fun _ _ _ z => z) _ _ e5, rfl⟩
  few := by rw [zipL_len]; exact Nat.le_trans (Nat.min_le_left _ _) hl
theorem walk_zipT {H : Hp} {a b : Addr} {us ws : List V} {ds es : List D} {Mc : MS} (h : SqT K H a us) (h' : SqT K H b ws) (r : Rps K Mc H ds us) (r' : Rps K Mc H es ws) (hl : ds.length ≤ sizeLine) : Walk K (RZ.ItzT K a b) H (ds ++ es) (us ++ ws) (zipL ds es) (fun _ => False) where
  go := fun i H2 s kd hi => by
    rw [zipL_len, r.length, r'.length] at hi
    exact ⟨us, ws, us[i]'(by omega), ws[i]'(by omega), s.tup a us h, s.tup b ws h', List.getElem?_eq_getElem _, List.getElem?_eq_getElem _⟩
  stop := fun H2 s kd => by
    refine ⟨us, ws, s.tup a us h, s.tup b ws h', ?_⟩
    rw [zipL_len, r.length, r'.length]
    omega
  yld := fun i H2 v H3 d s kd e1 y => by
    obtain ⟨T, x, y, rfl, hT, rfl, q1, q2⟩ := y
    have xx : Ext (fun _ => False) H2 (upd H2 T (.tup [x, y])) := Ext.upd hT
    refine ⟨xx, fun M _ rp => ?_⟩
    obtain ⟨p1, p2⟩ := rp.cut2 r.length
    obtain ⟨dx, dy, g1, g2, rfl⟩ := zipL_get e1
    obtain ⟨u, e2, e3⟩ := p1.get g1
    rw [q1 us (s.tup a us h)] at e2
    cases e2
    obtain ⟨w', e4, e5⟩ := p2.get g2
    rw [q2 ws (s.tup b ws h')] at e4
    cases e4
    refine ⟨T, _, rfl, .inl (.inl upd_same), by rw [szl]; show 2 ≤ 16777216; decide, ?_⟩
    exact ⟨_, _, rfl, Rp.ext xx (fun _ z => z.elim) (fun _ _ _ z => z) _ _ e3, _, _, rfl, Rp.ext xx (fun _ z => z.elim) (fun _ _ _ z => z) _ _ e5, rfl⟩
  few := by rw [zipL_len]; exact Nat.le_trans (Nat.min_le_left _ _) hl
theorem walk_rev {H : Hp} {a : Addr} {us : List V} {ds : List D} {Mc : MS} (h : H a = some (.lst us)) (r : Rps K Mc H ds us) (hl : ds.length ≤ sizeLine) : Walk K (Itv K a us.length) H ds us ds.reverse (fun b => b = a) where
  go := fun i H2 s kd hi => by
    have e : H2 a = some (.lst us) := by rw [s.at_ a rfl]; exact h
    rw [List.length_reverse, r.length] at hi
    exact ⟨hi, us, us[us.length - 1 - i]'(by omega), .inl (.inl e), List.getElem?_eq_getElem _⟩
  stop := fun H2 s kd => by
    show us.length ≤ _
    rw [List.length_reverse, r.length]
    exact Nat.le_refl _
  yld := fun i H2 v H3 d s kd e1 y => by
    have e : H2 a = some (.lst us) := by rw [s.at_ a rfl]; exact h
    obtain ⟨rfl, q⟩ := y
    refine ⟨Ext.refl _ _, fun M _ rp => ?_⟩
    have hi : i < ds.length := by
      have := (List.getElem?_eq_some_iff.mp e1).1
      rw [List.length_reverse] at this; exact this
    rw [List.getElem?_reverse hi] at e1
    obtain ⟨u, e2, e3⟩ := rp.get e1
    rw [r.length, q us (.inl (.inl e))] at e2
    cases e2
    exact e3
  few := by rw [List.length_reverse]; exact hl
end
section
variable {X : Cx} {C : Cz} {c : TrC} {sc : Scope} {k : Nat} {tg : Expr}
theorem pi_enmD {e : Expr} {es : List Expr} {kk : Nat} {l : Ex} {p pos tpos : Pos} {f : Expr → Option Ex} (ok : COk X C c sc k) (hg : glB sc "enumerate" = true) (hl : trA f [e] = some l) (ih : ∀ e x, f e = some x → PE X e (tD C x)) :
    PI X (.Tuple es kk tpos) (.Call (.Name "enumerate" p) [e] [] pos) (tI C (.op .enm l)) := by
  have hA := sA ih [e] l hl
  obtain ⟨a', rfl, e1, e2⟩ := trA1 hl
  refine PI.to (PI.kd (pi_enA (ok.gl _ hg) (ok.blt _ (by decide)) hA (plain_star e2 _ _))) fun σ H R q => ?_
  refine tI_args q fun ρ M δ' ds d is vs H' e1 e2 S' k1 x1 dc1 V hq => ?_
  match ds, e1 with
  | [.lst xs], e1 =>
    cases e1
    cases e2
    obtain ⟨x, rfl, h1⟩ := V.rc.one
    obtain ⟨a, vs, rfl, hr, hn, hl, hs⟩ := id h1
    have hw := walk_enum (K := C.K) hr hs hl
    have hq2 := hq (Ite C.K a) xs vs (fun b => b = a) hw hs (fun z => ?_) (fun b z => ?_)
    · rw [ok.K] at hq2
      exact .inl ⟨a, vs, rfl, .inl (.inl hr), fun _ => hq2⟩
    · have z' : cln C.md (.cons a' .nil) = true := by simpa [tpc, cln, Op.kind] using z
      obtain ⟨x, e3, h3⟩ := (V.cl z').one
      cases e3
      obtain ⟨a2, vs2, e2, hr2, _, _, hs2⟩ := h3
      cases e2
      rw [hr] at hr2; cases hr2
      exact hs2
    · subst z
      refine ⟨⟨vs, hr⟩, hn, fun z => ?_⟩
      have z' : cln C.md (.cons a' .nil) = true := by simpa [tpc, cln, Op.kind] using z
      obtain ⟨x, e3, h3⟩ := (V.cl z').one
      cases e3
      obtain ⟨a2, vs2, e2, hr2, hn2, _, hs2⟩ := h3
      cases e2
      exact hn2
  | [.tup xs], e1 =>
    cases e1
    cases e2
    obtain ⟨x, rfl, h1⟩ := V.rc.one
    obtain ⟨a, vs, rfl, hr, hl, hs⟩ := id h1
    have hw := walk_enT (K := C.K) hr k1 hs hl
    have hq2 := hq (IteT C.K a) xs vs (fun _ => False) hw hs (fun z => ?_) (fun b z => z.elim)
    · rw [ok.K] at hq2 hr
      exact .inr (.inl ⟨a, vs, rfl, hr, fun _ => hq2⟩)
    · have z' : cln C.md (.cons a' .nil) = true := by simpa [tpc, cln, Op.kind] using z
      obtain ⟨x, e3, h3⟩ := (V.cl z').one
      cases e3
      obtain ⟨a2, vs2, e2, hr2, _, hs2⟩ := h3
      cases e2
      cases k1.tup hr hr2
      exact hs2
  | [.str s], e1 =>
    cases e1
    cases e2
    obtain ⟨x, rfl, rfl, hl, hc⟩ := V.rc.one
    have hq2 := hq _ [] [] (fun _ => False) (walk_enS hl hc) rfl (fun _ => rfl) (fun b z => z.elim)
    rw [ok.K] at hq2
    exact .inr (.inr ⟨_, rfl, fun _ => hq2⟩)
theorem pi_zipD {e f' : Expr} {es : List Expr} {kk : Nat} {l : Ex} {p pos tpos : Pos} {f : Expr → Option Ex} (ok : COk X C c sc k) (hg : glB sc "zip" = true) (hl : trA f [e, f'] = some l) (ih : ∀ e x, f e = some x → PE X e (tD C x)) :
    PI X (.Tuple es kk tpos) (.Call (.Name "zip" p) [e, f'] [] pos) (tI C (.op .zip l)) := by
  have hA := sA ih [e, f'] l hl
  obtain ⟨a', b', rfl, e1, e2, e3, e4⟩ := trA2 hl
  refine PI.to (PI.kd (RZ.pi_zipA (ok.gl _ hg) (ok.blt _ (by decide)) hA (plain_star e3 _ _) (by rw [plain_star e4]; rfl))) fun σ H R q => ?_
  refine tI_args q fun ρ M δ' ds d is vs H' e1 e2 S' k1 x1 dc1 V hq => ?_
  match ds, e1 with
  | [.lst xs, .lst ys], e1 =>
    cases e1
    cases e2
    obtain ⟨x, y, rfl, h1, h2⟩ := V.rc.two
    obtain ⟨a, us, rfl, hr, hn, hl, hs⟩ := id h1
    obtain ⟨b, ws, rfl, hr', hn', hl', hs'⟩ := id h2
    have hw := walk_zip (K := C.K) hr hr' hs hs' hl
    have cl : cln C.md (.cons a' (.cons b' .nil)) = true → Rps C.K M H' (xs ++ ys) (us ++ ws) ∧ ¬ M a ∧ ¬ M b := fun z => by
      obtain ⟨x, y, e3, h3, h4⟩ := (V.cl z).two
      cases e3
      obtain ⟨a2, vs2, e2, hr2, hm2, _, hs2⟩ := h3
      cases e2
      rw [hr] at hr2; cases hr2
      obtain ⟨b2, vs3, e2, hr3, hm3, _, hs3⟩ := h4
      cases e2
      rw [hr'] at hr3; cases hr3
      exact ⟨hs2.append hs3, hm2, hm3⟩
    have hq2 := hq (Itz C.K a b) (xs ++ ys) (us ++ ws) (fun z => z = a ∨ z = b) hw (hs.append hs') (fun z => (cl (by simpa [tpc, cln, Op.kind] using z)).1) (fun z hz => ?_)
    · rw [ok.K] at hq2
      exact ⟨a, b, us, ws, rfl, .inl ⟨.inl (.inl hr), .inl (.inl hr'), fun _ => hq2⟩⟩
    · rcases hz with rfl | rfl
      · exact ⟨⟨us, hr⟩, hn, fun z => (cl (by simpa [tpc, cln, Op.kind] using z)).2.1⟩
      · exact ⟨⟨ws, hr'⟩, hn', fun z => (cl (by simpa [tpc, cln, Op.kind] using z)).2.2⟩
  | [.tup xs, .tup ys], e1 =>
    cases e1
    cases e2
    obtain ⟨x, y, rfl, h1, h2⟩ := V.rc.two
    obtain ⟨a, us, rfl, hr, hl, hs⟩ := id h1
    obtain ⟨b, ws, rfl, hr', hl', hs'⟩ := id h2
    have hw := walk_zipT (K := C.K) hr hr' hs hs' hl
    have cl : cln C.md (.cons a' (.cons b' .nil)) = true → Rps C.K M H' (xs ++ ys) (us ++ ws) := fun z => by
      obtain ⟨x, y, e3, h3, h4⟩ := (V.cl z).two
      cases e3
      obtain ⟨a2, vs2, e2, hr2, _, hs2⟩ := h3
      cases e2
      cases k1.tup hr hr2
      obtain ⟨b2, vs3, e2, hr3, _, hs3⟩ := h4
      cases e2
      cases k1.tup hr' hr3
      exact hs2.append hs3
    have hq2 := hq (RZ.ItzT C.K a b) (xs ++ ys) (us ++ ws) (fun _ => False) hw (hs.append hs') (fun z => cl (by simpa [tpc, cln, Op.kind] using z)) (fun z hz => hz.elim)
    rw [ok.K] at hq2 hr hr'
    exact ⟨a, b, us, ws, rfl, .inr ⟨hr, hr', fun _ => hq2⟩⟩
theorem pi_revD2 {e : Expr} {l : Ex} {p pos : Pos} {f : Expr → Option Ex} (ok : COk X C c sc k) (hg : glB sc "reversed" = true) (hl : trA f [e] = some l) (ih : ∀ e x, f e = some x → PE X e (tD C x)) :
    PI X tg (.Call (.Name "reversed" p) [e] [] pos) (tI C (.op .rev l)) := by
  obtain ⟨a', rfl, e1, e2⟩ := trA1 hl
  refine PI.to (PI.kd (pi_reversed (ok.gl _ hg) (ok.blt _ (by decide)) (sA ih [e] _ hl) (plain_star e2 _ _))) fun σ H R q => ?_
  refine tI_args q fun ρ M δ' ds d is vs H' e1 e2 S' k1 x1 dc1 V hq => ?_
  match ds, e1 with
  | [.lst xs], e1 =>
    cases e1
    cases e2
    obtain ⟨x, rfl, h1⟩ := V.rc.one
    obtain ⟨a, us, rfl, hr, hn, hl, hs⟩ := id h1
    have hw := walk_rev (K := C.K) hr hs hl
    have cl : cln C.md (.cons a' .nil) = true → Rps C.K M H' xs us ∧ ¬ M a := fun z => by
      obtain ⟨x, e3, h3⟩ := (V.cl z).one
      cases e3
      obtain ⟨a2, vs2, e2, hr2, hm2, _, hs2⟩ := h3
      cases e2
      rw [hr] at hr2; cases hr2
      exact ⟨hs2, hm2⟩
    have hq2 := hq (Itv C.K a us.length) xs us (fun b => b = a) hw hs (fun z => (cl (by simpa [tpc, cln, Op.kind] using z)).1) (fun b z => ?_)
    · rw [ok.K] at hq2
      exact ⟨a, us, rfl, .inl (.inl hr), fun _ => hq2⟩
    · subst z
      exact ⟨⟨us, hr⟩, hn, fun z => (cl (by simpa [tpc, cln, Op.kind] using z)).2⟩
end
end DC
set_option Elab.async false
set_option linter.all false
set_option maxRecDepth 100000
set_option maxHeartbeats 1000000
namespace DC
open PySem PySem.Spec L2
def Pat.names : Pat → List Nat
  | .nm i => [i]
  | .nil => []
  | .cons p r => p.names ++ r.names
def Pat.len : Pat → Nat
  | .cons _ r => r.len + 1
  | _ => 0
def Pat.chain : Pat → Bool
  | .nil => true
  | .cons _ r => r.chain
  | .nm _ => false
structure Sets (l : List Nat) (σ σ' : St) : Prop where
  len : σ'.length = σ.length
  get : ∀ i, i ∉ l → σ'[i]? = σ[i]?
theorem Sets.trans {l l' : List Nat} {σ σ1 σ2 : St} (a : Sets l σ σ1) (b : Sets l' σ1 σ2) : Sets (l ++ l') σ σ2 :=
  ⟨b.len.trans a.len, fun i h => (b.get i fun z => h (List.mem_append_right _ z)).trans (a.get i fun z => h (List.mem_append_left _ z))⟩
section
variable {X : Cx} {C : Cz} {c : TrC} {sc : Scope} {k : Nat}
theorem Stt.setI {M : MS} {ρ : En} {δ : Dice} {σ : St} {H : Hp} (S : Stt C M ρ δ σ H) {i : Nat} {d : D} {v : V} (hm : C.md.getD i false = false) (hk : i ≠ C.kd) (h1 : Rp C.K C.Mc H d v) (h2 : Rp C.K M H d v) : Stt C M (ρ.set i (some d)) δ (σ.set i (some v)) H where
  sub := S.sub
  mok := S.mok
  new := S.new
  ext := S.ext
  dice := S.dice
  dpl := fun a z => ⟨(S.dpl a z).1, by rw [List.getElem?_set_ne hk]; exact (S.dpl a z).2⟩
  tpl := fun ta ras z => ⟨by rw [List.getElem?_set_ne hk]; exact (S.tpl ta ras z).1, (S.tpl ta ras z).2⟩
  Tpl := S.Tpl
  slot := fun j e hj => by
    by_cases hij : i = j
    · subst hij
      have hl : i < ρ.length := by
        have := (List.getElem?_eq_some_iff.mp hj).1
        simpa using this
      rw [List.getElem?_set_self hl] at hj
      cases hj
      rw [List.getElem?_set_self (by rw [← S.len]; exact hl)]
      exact ⟨v, rfl, h1, h2.top, fun _ => h2, fun z => by rw [hm] at z; cases z⟩
    · rw [List.getElem?_set_ne hij] at hj ⊢
      exact S.slot j e hj
  dist := fun a b d' e' v' ha hb hab h3 h4 h5 h6 => by
    have n1 : i ≠ a := fun z => by rw [z, ha] at hm; cases hm
    have n2 : i ≠ b := fun z => by rw [z, hb] at hm; cases hm
    rw [List.getElem?_set_ne n1] at h3 h5
    rw [List.getElem?_set_ne n2] at h4 h6
    exact S.dist a b d' e' v' ha hb hab h3 h4 h5 h6
  len := by simpa using S.len
  kd := S.kd
def gD (C : Cz) (p : Pat) : TG := fun v σ H Q => ∃ ρ δ M d ρ', Stt C M ρ δ σ H ∧ Rp C.K C.Mc H d v ∧ Rp C.K M H d v ∧ bindP p d ρ = some ρ' ∧ ∀ σ', Stt C M ρ' δ σ' H → Sets p.names σ σ' → Q σ' H
def gDs (C : Cz) (p : Pat) : TGs := fun vs σ H Q => ∃ ρ δ M ds ρ', Stt C M ρ δ σ H ∧ Rps C.K C.Mc H ds vs ∧ Rps C.K M H ds vs ∧ bindP p (.tup ds) ρ = some ρ' ∧ p.chain = true ∧ ∀ σ', Stt C M ρ' δ σ' H → Sets p.names σ σ' → Q σ' H
theorem PG.to {e : Expr} {t t' : TG} (h : PG X e t) (w : ∀ v σ H Q, t' v σ H Q → t v σ H Q) : PG X e t' := ⟨fun pins s σ H v u Q I r q => h.run pins s σ H v u Q I r (w v σ H Q q)⟩
theorem PGs.to {e : List Expr} {t t' : TGs} (h : PGs X e t) (w : ∀ v σ H Q, t' v σ H Q → t v σ H Q) : PGs X e t' := ⟨fun pins s σ H v u Q I r q => h.run pins s σ H v u Q I r (w v σ H Q q)⟩
theorem plain_asg {e : Expr} (h : plainE e = true) (es : List Expr) (env : Env) : assignEach (e :: es) env = (false, assign e env) :: assignEach es env := by
  cases e <;> first | rfl | cases h
theorem trPs_all {f : Expr → Option Pat} : ∀ {es : List Expr} {p : Pat}, trPs f es = some p → ∀ env, (assignEach es env).length = p.len ∧ (assignEach es env).findIdx? (·.1) = none ∧ p.chain = true
  | [], p, h, env => by cases h; exact ⟨rfl, rfl, rfl⟩
  | e :: es, p, h, env => by
    unfold trPs at h
    split at h
    · rename_i hp
      cases e1 : f e <;> cases e2 : trPs f es <;> simp only [e1, e2] at h <;> try cases h
      obtain ⟨h1, h2, h3⟩ := trPs_all e2 env
      rw [plain_asg hp]
      refine ⟨by simp [h1, Pat.len], ?_, h3⟩
      rw [List.findIdx?_cons, h2]
      rfl
    · cases h
theorem bindP_len : ∀ {p : Pat} {ds : List D} {ρ ρ' : En}, p.chain = true → bindP p (.tup ds) ρ = some ρ' → ds.length = p.len
  | .nm _, _, _, _, h, _ => by cases h
  | .nil, [], _, _, _, _ => rfl
  | .nil, _ :: _, _, _, _, h => by simp [bindP] at h
  | .cons p r, [], _, _, _, h => by simp [bindP] at h
  | .cons p r, d :: ds, ρ, ρ', hc, h => by
    simp only [bindP] at h
    cases e : bindP p d ρ with
    | none => rw [e] at h; cases h
    | some ρ1 =>
      rw [e] at h
      have := bindP_len (p := r) (show r.chain = true from hc) h
      simp [Pat.len, this]
theorem sP (ok : COk X C c sc k) : ∀ (n : Nat) (e : Expr) (p : Pat), trP c.N c.md c.dk sc n e = some p → PG X e (gD C p)
  | 0, e, p, h => by simp [trP] at h
  | n + 1, e, p, h => by
    match e, h with
    | .Name x pos, h =>
      simp only [trP] at h
      split at h
      · rename_i hv
        simp only [Bool.and_eq_true, Bool.not_eq_true'] at hv
        cases e1 : ixS c.N x with
        | none => rw [e1] at h; cases h
        | some i =>
          rw [e1] at h
          simp only [Option.bind_some] at h
          split at h
          · cases h
          · rename_i hk
            cases h
            obtain ⟨l1, l2⟩ := ok.loc x hv.1
            refine PG.to (pg_name (i := i) (by rw [ok.N]; exact ok.nd) (by rw [ok.N]; exact ixS_get e1) l1 l2) fun v σ H Q q => ?_
            obtain ⟨ρ, δ, M, d, ρ', S, r1, r2, e2, q⟩ := q
            cases e2
            have hk' : i ≠ c.dk ∧ c.md.getD i false = false := by
              refine ⟨fun z => hk (.inl z), ?_⟩
              cases e3 : c.md.getD i false with
              | false => rfl
              | true => exact absurd (.inr e3) hk
            refine q _ (S.setI (by rw [ok.md]; exact hk'.2) (by rw [ok.dk]; exact hk'.1) r1 r2) ⟨by simp, fun j hj => ?_⟩
            exact List.getElem?_set_ne (fun z => hj (by simp [Pat.names, z]))
      · cases h
    | .Tuple es j pos, h =>
      simp only [trP] at h
      have all : ∀ (es : List Expr) (p : Pat), trPs (trP c.N c.md c.dk sc n) es = some p → PGs X es (gDs C p) := by
        intro es
        induction es with
        | nil =>
          intro p h
          cases h
          refine PGs.to pgs_nil fun vs σ H Q q => ?_
          obtain ⟨ρ, δ, M, ds, ρ', S, r1, r2, e2, _, q⟩ := q
          match ds, e2 with
          | [], e2 =>
            cases e2
            exact ⟨r1, q σ S ⟨rfl, fun _ _ => rfl⟩⟩
        | cons e es ihs =>
          intro p h
          unfold trPs at h
          split at h
          · rename_i hp
            cases e1 : trP c.N c.md c.dk sc n e <;> cases e2 : trPs (trP c.N c.md c.dk sc n) es <;> simp only [e1, e2] at h <;> try cases h
            rename_i p1 p2
            refine PGs.to (pgs_cons (sP ok n e p1 e1) (ihs p2 e2) (by rw [plain_asg hp]; rfl)) fun vs σ H Q q => ?_
            obtain ⟨ρ, δ, M, ds, ρ', S, r1, r2, e3, hc, q⟩ := q
            match ds, e3 with
            | d :: ds, e3 =>
              simp only [bindP] at e3
              cases e4 : bindP p1 d ρ with
              | none => rw [e4] at e3; cases e3
              | some ρ1 =>
                rw [e4] at e3
                obtain ⟨v, r, rfl, a1, a2⟩ := r1
                obtain ⟨v', r', ev', b1, b2⟩ := r2
                cases ev'
                refine ⟨v, r, rfl, ρ, δ, M, d, ρ1, S, a1, b1, e4, fun σ1 S1 z1 => ?_⟩
                exact ⟨ρ1, δ, M, ds, ρ', S1, a2, b2, e3, hc, fun σ2 S2 z2 => q σ2 S2 (z1.trans z2)⟩
          · cases h
      obtain ⟨h1, h2, h3⟩ := trPs_all h X.env
      refine PG.to (pg_tup (n := p.len) ok.calm (all es p h) h1 h2) fun v σ H Q q => ?_
      obtain ⟨ρ, δ, M, d, ρ', S, r1, r2, e2, q⟩ := q
      have hd : ∃ ds, d = .tup ds := by
        match p, d, e2, h3 with
        | .nil, .tup [], _, _ => exact ⟨_, rfl⟩
        | .cons _ _, .tup (_ :: _), _, _ => exact ⟨_, rfl⟩
      obtain ⟨ds, rfl⟩ := hd
      obtain ⟨a, vs, rfl, hr, hl, hs⟩ := r1
      obtain ⟨a', vs', e', hr', _, hs'⟩ := r2
      cases e'
      cases S.kd.tup hr hr'
      rw [ok.K] at hr
      exact ⟨a, vs, rfl, hr, by rw [← hs.length]; exact bindP_len h3 e2, ρ, δ, M, ds, ρ', S, hs, hs', e2, h3, q⟩
end
end DC
set_option Elab.async false
set_option linter.all false
set_option maxRecDepth 100000
set_option maxHeartbeats 1000000
namespace DC
open PySem PySem.Spec L2
theorem look_rel {f : Str → NameKind → NameKind} : ∀ {names : List (Str × NameKind)} {x : Str}, (names.map fun p => (p.1, f p.1 p.2)).lookup x = (names.lookup x).map (f x)
  | [], _ => rfl
  | (n, k) :: r, x => by
    simp only [List.map_cons, List.lookup_cons]
    cases e : x == n with
    | true =>
      have : x = n := by simpa using e
      subst this
      rfl
    | false => exact look_rel
def relK (env : Env) (x : Str) (k : NameKind) : NameKind := if (k == .free && env.scope.kind == .function && env.kindOf x == some .cell) = true then .cell else k
theorem look_relabel (scope : Scope) (env : Env) (x : Str) : (relabel scope env).names.lookup x = (scope.names.lookup x).map (relK env x) := by
  rw [← look_rel]
  unfold relabel
  congr 1
  refine List.map_congr_left fun p _ => ?_
  unfold relK
  obtain ⟨n, k⟩ := p
  dsimp only
  split <;> rfl
theorem relK_ne {env : Env} {x : Str} {k : NameKind} (h : k ≠ .free) : relK env x k = k := by
  unfold relK
  rw [if_neg]
  intro z
  simp only [Bool.and_eq_true, beq_iff_eq] at z
  exact h z.1.1
theorem relK_free (env : Env) (x : Str) : relK env x .free = .free ∨ relK env x .free = .cell := by
  unfold relK
  split
  · exact .inr rfl
  · exact .inl rfl
section
variable {X : Cx} {C : Cz} {c : TrC} {sc : Scope} {k : Nat}
def Cz.blk (C : Cz) (D : Addr) : Cz := { C with Mc := orAt C.Mc D, E := fun _ _ _ => False }
theorem COk.blk (ok : COk X C c sc k) (D : Addr) (s : Shared) (H : Hp) (scope : Scope) (C0 : Addr) (cl : List (Str × Addr)) (fp : List Addr) : COk (X.blk s H scope (compEnvC scope cl C0 X.env) fp) (C.blk D) c scope k where
  K := ok.K
  mg := ok.mg
  N := ok.N
  md := ok.md
  nd := ok.nd
  calm := ok.calm
  room := ok.room
  dk := ok.dk
  vis := fun x h => by
    show Vis (relabel scope X.env) x
    unfold Vis
    rw [look_relabel]
    unfold visB at h
    cases e : scope.names.lookup x with
    | none => rw [e] at h; cases h
    | some k =>
      rw [e] at h
      cases k with
      | «local» => exact .inl (by rw [Option.map_some, relK_ne (by decide)])
      | cell => exact .inr (.inl (by rw [Option.map_some, relK_ne (by decide)]))
      | free =>
        rw [Option.map_some]
        rcases relK_free X.env x with z | z
        · exact .inr (.inr (by rw [z]))
        · exact .inr (.inl (by rw [z]))
      | _ => cases h
  gl := fun x h => by
    show (relabel scope X.env).names.lookup x = some .globalImplicit
    rw [look_relabel]
    unfold glB at h
    cases e : scope.names.lookup x with
    | none => rw [e] at h; cases h
    | some k =>
      rw [e] at h
      cases k with
      | globalImplicit => rw [Option.map_some, relK_ne (by decide)]
      | _ => cases h
  loc := fun x h => by
    show L2.Loc (relabel scope X.env) x ∧ ((scope.names.lookup x == some .cell) = true ∨ (relabel scope X.env).names.lookup x = some .local)
    unfold L2.Loc
    rw [look_relabel]
    unfold locB at h
    cases e : scope.names.lookup x with
    | none => rw [e] at h; cases h
    | some k =>
      rw [e] at h
      cases k with
      | «local» => exact ⟨.inl (by rw [Option.map_some, relK_ne (by decide)]), .inr (by rw [Option.map_some, relK_ne (by decide)])⟩
      | cell => exact ⟨.inr (by rw [Option.map_some, relK_ne (by decide)]), .inl rfl⟩
      | _ => cases h
  fre := fun x h => by
    show (relabel scope X.env).names.lookup x = some .cell ∨ (relabel scope X.env).names.lookup x = some .free
    rw [look_relabel]
    rcases h with h | h
    · rw [h]; exact .inl (by rw [Option.map_some, relK_ne (by decide)])
    · rw [h, Option.map_some]
      rcases relK_free X.env x with z | z
      · exact .inr (by rw [z])
      · exact .inl (by rw [z])
  fns := ok.fns
  cst := ok.cst
  blt := ok.blt
  tk := fun u s' z => by
    obtain ⟨a, B, sI, pins, σ, H, cls, d, h1, h2, h3, h4, h5, h6, h7, h8, w⟩ := z
    exact w.elim
  pdk := ok.pdk
  tdk := ok.tdk
theorem wipeE_some {ρ : En} {i : Nat} {d : D} : ∀ {vs : List Nat}, (wipeE ρ vs)[i]? = some (some d) → ρ[i]? = some (some d) ∧ i ∉ vs
  | [], h => ⟨h, by simp⟩
  | v :: vs, h => by
    simp only [wipeE] at h
    by_cases e : v = i
    · subst e
      have hl : v < (wipeE ρ vs).length := by
        have := (List.getElem?_eq_some_iff.mp h).1
        simpa using this
      rw [List.getElem?_set_self hl] at h
      cases h
    · rw [List.getElem?_set_ne e] at h
      obtain ⟨h1, h2⟩ := wipeE_some h
      exact ⟨h1, by simp [h2, Ne.symm e]⟩
theorem wipeE_len (ρ : En) : ∀ vs : List Nat, (wipeE ρ vs).length = ρ.length
  | [] => rfl
  | v :: vs => by simp [wipeE, wipeE_len ρ vs]
theorem Stt.blk {M : MS} {ρ : En} {δ : Dice} {σ : St} {H : Hp} (S : Stt C M ρ δ σ H) {D : Addr} (hD : H D = none) {own : List Nat} (hk : C.kd ∉ own) : Stt (C.blk D) (orAt M D) (wipeE ρ own) δ (wipe σ own) (upd H D (.lst [])) := by
  have x : Ext (fun _ => False) H (upd H D (.lst [])) := Ext.upd hD
  have up : ∀ {M : MS} {d : DC.D} {v : V}, Rp C.K M H d v → Rp C.K (orAt M D) (upd H D (.lst [])) d v := fun h => Rp.ext x (fun _ z => z.elim) (fun _ _ _ z => z) _ _ (Rp.free hD _ _ h)
  have ups : ∀ {M : MS} {d : List DC.D} {v : List V}, Rps C.K M H d v → Rps C.K (orAt M D) (upd H D (.lst [])) d v := fun h => Rps.ext x (fun _ z => z.elim) (fun _ _ _ z => z) _ _ (Rps.free hD _ _ h)
  have hd0 : ¬ C.pds D := fun z => by obtain ⟨o, e⟩ := S.dice.some_ D z; rw [e] at hD; cases hD
  exact {
    sub := fun a z => z.elim (fun z => .inl (S.sub a z)) .inr
    mok := fun a z => by
      rcases z with z | z
      · rcases S.mok a z with ⟨xs, e⟩ | ⟨xs, e⟩ | ⟨xs, e⟩
        · exact .inl ⟨xs, x.keep a _ e (fun z => z) (fun _ z => nomatch z)⟩
        · exact .inr (.inl ⟨xs, x.keep a _ e (fun z => z) (fun _ z => nomatch z)⟩)
        · exact .inr (.inr ⟨xs, x.tb a _ e (fun z => z)⟩)
      · rw [z]; exact .inl ⟨[], upd_same⟩
    new := fun a z => by
      rcases z with z | z
      · rcases S.new a z with q | q
        · exact .inl (.inl q)
        · exact .inr q
      · exact .inl (.inr z)
    ext := S.ext.trans x.no
    dice := ⟨(S.dice.keep x).at_, (S.dice.keep x).row, (S.dice.keep x).tab⟩
    dpl := fun a z => ⟨.inl (S.dpl a z).1, by show (wipe σ own)[C.kd]? = _; rw [wipe_out hk]; exact (S.dpl a z).2⟩
    tpl := fun ta ras z => by
      obtain ⟨h1, h2, h3, h4, h5, h6⟩ := S.tpl ta ras z
      exact ⟨by show (wipe σ own)[C.kd]? = _; rw [wipe_out hk]; exact h1, h2, h3, h4, h5, fun a ha => .inl (h6 a ha)⟩
    Tpl := fun p hp => .inl (S.Tpl p hp)
    slot := fun i d e => by
      obtain ⟨e1, e2⟩ := wipeE_some e
      obtain ⟨v, q1, q2, q3, q4, q5⟩ := S.slot i d e1
      refine ⟨v, by rw [wipe_out e2]; exact q1, up q2, ?_, fun z => up (q4 z), fun z => ?_⟩
      · cases d with
        | lst ds =>
          obtain ⟨a, vs, rfl, hr, hl, hs⟩ := q3
          exact ⟨a, vs, rfl, x.keep a _ hr (fun z => z) (fun _ z => nomatch z), hl, ups hs⟩
        | dic ks ds =>
          obtain ⟨a, vs, rfl, hr, hk, hl, hs⟩ := q3
          exact ⟨a, vs, rfl, x.keep a _ hr (fun z => z) (fun _ z => nomatch z), hk, hl, ups hs⟩
        | non => exact up q3
        | bl _ => exact up q3
        | int _ => exact up q3
        | str _ => exact up q3
        | tup _ => exact up q3
        | scr _ => exact up q3
      · obtain ⟨a, ds, rfl, rfl, h1, h2⟩ := q5 z
        refine ⟨a, ds, rfl, rfl, .inl h1, fun w => ?_⟩
        rcases w with w | w
        · exact h2 w
        · obtain ⟨a', vs, e', hr, _⟩ := q2
          cases e'
          rw [w, hD] at hr; cases hr
    dist := fun i j d e v h1 h2 h3 h4 h5 h6 h7 => by
      obtain ⟨a1, a2⟩ := wipeE_some h4
      obtain ⟨b1, b2⟩ := wipeE_some h5
      rw [wipe_out a2] at h6
      rw [wipe_out b2] at h7
      exact S.dist i j d e v h1 h2 h3 a1 b1 h6 h7
    len := by rw [wipeE_len, wipe_length]; exact S.len
    kd := S.kd.lst }
theorem Stt.stepP {M : MS} {ρ : En} {δ δ' : Dice} {σ : St} {H H' : Hp} {P : MS} (S : Stt C M ρ δ σ H) (hP : ∀ a, P a → C.Mc a) (x : Ext P H H') (m : MOk M H') (e0 : Ext C.pds C.H0 H') (dc : DiceAt C δ' H') (kd : KD C.K H') : Stt C M ρ δ' σ H' := by
  have hT : ∀ a vs, Rd H a (.tup vs) → ¬ P a := fun a vs r z => S.mokc.tup r (hP a z)
  exact {
    sub := S.sub
    mok := m
    new := S.new
    ext := e0
    dice := dc
    dpl := S.dpl
    tpl := S.tpl
    Tpl := S.Tpl
    slot := fun i d e => by
      obtain ⟨v, e1, h1, h2, h3, h4⟩ := S.slot i d e
      refine ⟨v, e1, Rp.ext x hP hT _ _ h1, ?_, fun z => Rp.ext x (fun a z => S.sub a (hP a z)) hT _ _ (h3 z), h4⟩
      cases d with
      | lst ds =>
        obtain ⟨a, vs, rfl, hr, hl, hs⟩ := h2
        obtain ⟨a', vs', e', _, hn, _⟩ := h1
        cases e'
        exact ⟨a, vs, rfl, x.keep a _ hr (fun z => hn (hP a z)) (fun _ z => nomatch z), hl, Rps.ext x (fun a z => S.sub a (hP a z)) hT _ _ hs⟩
      | dic ks ds =>
        obtain ⟨a, vs, rfl, hr, hk, hl, hs⟩ := h2
        obtain ⟨a', vs', e', _, hn, _⟩ := h1
        cases e'
        exact ⟨a, vs, rfl, x.keep a _ hr (fun z => hn (hP a z)) (fun _ z => nomatch z), hk, hl, Rps.ext x (fun a z => S.sub a (hP a z)) hT _ _ hs⟩
      | non => exact Rp.ext x (fun a z => S.sub a (hP a z)) hT _ _ h2
      | bl _ => exact Rp.ext x (fun a z => S.sub a (hP a z)) hT _ _ h2
      | int _ => exact Rp.ext x (fun a z => S.sub a (hP a z)) hT _ _ h2
      | str _ => exact Rp.ext x (fun a z => S.sub a (hP a z)) hT _ _ h2
      | tup _ => exact Rp.ext x (fun a z => S.sub a (hP a z)) hT _ _ h2
      | scr _ => exact Rp.ext x (fun a z => S.sub a (hP a z)) hT _ _ h2
    dist := S.dist
    len := S.len
    kd := kd }
theorem wipe_sets {σ σ' : St} {l vs : List Nat} (h : Sets l (wipe σ vs) σ') (hs : ∀ i ∈ l, i ∈ vs) : wipe σ' vs = wipe σ vs := by
  apply List.ext_getElem?
  intro i
  by_cases hi : i ∈ vs
  · have aux : ∀ (τ : St) (vs : List Nat), i ∈ vs → (wipe τ vs)[i]? = if i < τ.length then some none else none := by
      intro τ vs
      induction vs with
      | nil => intro h; cases h
      | cons v r ih =>
        intro h
        show ((wipe τ r).set v none)[i]? = _
        by_cases e : v = i
        · subst e
          by_cases hl : v < τ.length
          · rw [List.getElem?_set_self (by rw [wipe_length]; exact hl), if_pos hl]
          · rw [if_neg hl, List.getElem?_eq_none_iff]
            simp [wipe_length]; omega
        · rw [List.getElem?_set_ne e]
          exact ih ((List.mem_cons.mp h).resolve_left (Ne.symm e))
    rw [aux σ' vs hi, aux σ vs hi, h.len, wipe_length]
  · rw [wipe_out hi, h.get i (fun z => hi (hs i z))]
theorem Ext.updN {P : MS} {H H1 : Hp} {p : Addr} {o : HO} (x : Ext P H H1) (h : H p = none) : Ext P H (L2.upd H1 p o) := ⟨fun a u e n t => by rw [upd_ne (ne_of_none e h)]; exact x.keep a u e n t, fun a ps e => by
  rw [upd_ne (ne_of_none e h)]; exact x.tbl a ps e, fun a ps e n => by
  rw [upd_ne (ne_of_none e h)]; exact x.tb a ps e n⟩
end
end DC
set_option Elab.async false
set_option linter.all false
set_option maxRecDepth 100000
set_option maxHeartbeats 2000000
namespace DC
open PySem PySem.Spec L2
section
variable {X : Cx} {C : Cz} {c : TrC} {sc : Scope} {k : Nat}
theorem src_ok {K : PySem.W.Frag} {src P : MS} {H H2 : Hp} (x : Ext P H H2) (h1 : ∀ a, src a → (∃ xs, H a = some (.lst xs)) ∧ ¬ P a) (h2 : ∀ a vs, Rd H a (.tup vs) → ¬ P a) : SrcOk K src H H2 where
  at_ := fun a z => by
    obtain ⟨⟨xs, e⟩, n⟩ := h1 a z
    rw [e, x.keep a _ e n (fun _ z => nomatch z)]
  tup := fun a vs h => by
    rcases h with h | h
    · exact .inl (x.rd h (h2 a vs h) (fun _ z => nomatch z))
    · exact .inr h
abbrev gB (C : Cz) (p : Pat) : TG := fun v σ H Q => ∃ D, gD (C.blk D) p v σ H Q
abbrev tB' (C : Cz) (x : Ex) : TT := fun σ H Q => ∃ D, tDT (C.blk D) x σ H Q
abbrev eB (C : Cz) (x : Ex) : TE := fun σ H Q => ∃ D, tD (C.blk D) x σ H Q
theorem lc_red {own : List (Str × Nat)} {p : Pat} {it cd el : Ex} {σ : St} {H : Hp} {Q : VK} (ok : COk X C c sc k) (hk : c.dk ∉ own.map (·.2)) (ht : tpc c.md it = true) (hn : ∀ i ∈ p.names, i ∈ own.map (·.2))
    (q : tD C (.comp (own.map (·.2)) p it cd el) σ H Q) : tLc (tI C it) (gB C p) (tB' C cd) (eB C el) (own.map (·.2)) σ H fun v H' => KD X.K H' → Q v H' := by
  obtain ⟨ρ, δ, M, S, q⟩ := q
  refine ⟨ρ, δ, M, S, ?_⟩
  simp only [ev] at q
  cases e : ev C.Γ it ρ δ with
  | stk => rw [e] at q; exact q
  | exc y δ' => rw [e] at q; exact q
  | ok d δ1 =>
    rw [e] at q
    simp only [Res.bind] at q
    cases e1 : d.items with
    | none => rw [e1] at q; exact q.elim
    | some ds =>
      rw [e1] at q
      simp only at q
      refine ⟨ds, e1, fun J H1 bs us src k1 x1 dc1 hw hbc hbm hsrc D hD => ?_⟩
      have S1 := S.step x1 dc1 k1
      have ht' : tpc C.md it = true := by rw [ok.md]; exact ht
      have hbm := hbm ht'
      have hk' : C.kd ∉ own.map (·.2) := by rw [ok.dk]; exact hk
      have SB := S1.blk hD hk'
      have hDM : ¬ M D := S1.mok.none hD
      have hDp : ¬ C.pds D := fun z => hDM (S1.sub D (S1.pdM D z))
      have hD0 : C.H0 D = none := S1.ext.free hD hDp
      cases e2 : compL (bindP p) (ev C.Γ cd) (ev C.Γ el) (wipeE ρ (own.map (·.2))) ds δ1 with
      | stk => rw [e2] at q; exact q.elim
      | exc y δ' => rw [e2] at q; exact q.elim
      | ok xs δ2 =>
        rw [e2] at q
        simp only [noExc] at q
        have fin : ∀ i, ds.length ≤ i → ds.drop i = [] := fun i h => List.drop_eq_nil_of_le h
        refine ⟨fun i m Hi => m + i = ds.length ∧ ∃ accd accv δi rest, Stt (C.blk D) (orAt M D) (wipeE ρ (own.map (·.2))) δi (wipe σ (own.map (·.2))) Hi ∧ Hi D = some (.lst accv) ∧
            Rps C.K (orAt C.Mc D) Hi accd accv ∧ (cln C.md el = true → Rps C.K (orAt M D) Hi accd accv) ∧ compL (bindP p) (ev C.Γ cd) (ev C.Γ el) (wipeE ρ (own.map (·.2))) (ds.drop i) δi = .ok rest δ2 ∧ accd ++ rest = xs ∧ accd.length ≤ i ∧ Ext C.pds H1 Hi,
          ⟨ds.length, rfl, [], [], δ1, xs, SB, upd_same, rfl, fun _ => rfl, by simpa using e2, rfl, Nat.le_refl _, (Ext.refl _ _).updN hD⟩, fun i m Hi hW => ?_⟩
        obtain ⟨em, accd, accv, δi, rest, Si, hDi, r1, r2, e3, e4, e5, xi⟩ := hW
        have so : SrcOk C.K src H1 Hi := src_ok xi (fun a z => ⟨(hsrc a z).1, fun w => (hsrc a z).2.1 (S1.pdM a w)⟩) (fun a vs r w => S1.mokc.tup r (S1.pdM a w))
        by_cases hi : i < ds.length
        · refine .inr ⟨hw.go i Hi so Si.kd hi, fun H' => ∃ accd accv δi rest, Stt (C.blk D) (orAt M D) (wipeE ρ (own.map (·.2))) δi (wipe σ (own.map (·.2))) H' ∧ H' D = some (.lst accv) ∧
            Rps C.K (orAt C.Mc D) H' accd accv ∧ (cln C.md el = true → Rps C.K (orAt M D) H' accd accv) ∧ compL (bindP p) (ev C.Γ cd) (ev C.Γ el) (wipeE ρ (own.map (·.2))) (ds.drop (i + 1)) δi = .ok rest δ2 ∧ accd ++ rest = xs ∧ accd.length ≤ i + 1 ∧ Ext C.pds H1 H',
            fun H' h' => ⟨m - 1, by omega, by omega, h'⟩, fun v H2 hy => ?_⟩
          obtain ⟨hy, kd2⟩ := hy
          have ed : ds[i]? = some ds[i] := List.getElem?_eq_getElem hi
          obtain ⟨x2, hv⟩ := hw.yld i Hi v H2 ds[i] so Si.kd ed hy
          rw [List.drop_eq_getElem_cons hi] at e3
          simp only [compL] at e3
          have bc : ∀ {M' : MS}, Rps C.K M' H1 bs us → (∀ a, C.pds a → M' a) → MOk M' H1 → Rps C.K (orAt M' D) Hi bs us := fun {M'} hb hp hm => Rps.ext xi (fun a z => .inl (hp a z)) (fun a vs r w => S1.mokc.tup r (S1.pdM a w)) _ _ (Rps.free hD _ _ hb)
          have v1 : Rp C.K (orAt C.Mc D) H2 ds[i] v := hv _ Si.mokc (bc hbc S1.pdM S1.mokc)
          have v2 : Rp C.K (orAt M D) H2 ds[i] v := hv _ Si.mok (bc hbm (fun a z => S1.sub a (S1.pdM a z)) S1.mok)
          have S2 : Stt (C.blk D) (orAt M D) (wipeE ρ (own.map (·.2))) δi (wipe σ (own.map (·.2))) H2 := Si.step x2.no (Si.dice.keep x2) kd2
          have hD2 : H2 D = some (.lst accv) := x2.keep D _ hDi (fun q => q) (fun _ q => nomatch q)
          cases e6 : bindP p ds[i] (wipeE ρ (own.map (·.2))) with
          | none => rw [e6] at e3; cases e3
          | some ρ2 =>
            rw [e6] at e3
            simp only at e3
            refine ⟨D, _, δi, orAt M D, ds[i], ρ2, S2, v1, v2, e6, fun σ2 Sp sets => ⟨wipe_sets sets hn, ?_⟩⟩
            refine ⟨D, ρ2, δi, orAt M D, Sp, ?_⟩
            have r12 : Rps C.K (orAt C.Mc D) H2 accd accv := Rps.ext x2 (fun _ z => z.elim) (fun _ _ _ z => z) _ _ r1
            show match ev C.Γ cd ρ2 δi with
              | .ok (.bl b) δ' => _
              | .exc y δ' => _
              | _ => False
            cases e7 : ev C.Γ cd ρ2 δi with
            | stk => rw [e7] at e3; cases e3
            | exc y δ' => rw [e7] at e3; cases e3
            | ok dc δ3 =>
              rw [e7] at e3
              cases dc with
              | bl b =>
                intro H3 kd3 x3 dc3
                have S3 := Sp.step x3 dc3 kd3
                have hDp3 : ¬ (C.blk D).pds D := hDp
                have hD3 : H3 D = some (.lst accv) := x3.keep D _ hD2 hDp3 (fun _ q => nomatch q)
                have r13 : Rps C.K (orAt C.Mc D) H3 accd accv := Sp.rpsc x3 r12
                have x13 : Ext C.pds H1 H3 := (xi.trans x2.no).trans x3
                have S3' : Stt (C.blk D) (orAt M D) (wipeE ρ (own.map (·.2))) δ3 (wipe σ (own.map (·.2))) H3 := S2.step x3 dc3 kd3
                cases b with
                | false =>
                  rw [if_neg (by decide)]
                  exact ⟨accd, accv, δ3, rest, S3', hD3, r13, fun z => Sp.rps x3 (Rps.ext x2 (fun _ z => z.elim) (fun _ _ _ z => z) _ _ (r2 z)), e3, e4, Nat.le_succ_of_le e5, x13⟩
                | true =>
                  rw [if_pos rfl]
                  simp only at e3
                  refine ⟨D, ρ2, δ3, orAt M D, S3, ?_⟩
                  show match ev C.Γ el ρ2 δ3 with
                    | .ok d δ' => _
                    | .exc y δ' => _
                    | .stk => False
                  cases e8 : ev C.Γ el ρ2 δ3 with
                  | stk => rw [e8] at e3; cases e3
                  | exc y δ' => rw [e8] at e3; cases e3
                  | ok dy δ4 =>
                    rw [e8] at e3
                    simp only [Res.bind] at e3
                    cases e9 : compL (bindP p) (ev C.Γ cd) (ev C.Γ el) (wipeE ρ (own.map (·.2))) (ds.drop (i + 1)) δ4 with
                    | stk => rw [e9] at e3; cases e3
                    | exc y δ' => rw [e9] at e3; cases e3
                    | ok rest' δ5 =>
                      rw [e9] at e3
                      simp only at e3
                      injection e3 with e3a e3b
                      subst e3b
                      intro y H4 kd4 x4 dc4 V4
                      have hD4 : H4 D = some (.lst accv) := x4.keep D _ hD3 hDp3 (fun _ q => nomatch q)
                      have r14 : Rps C.K (orAt C.Mc D) H4 accd accv := S3.rpsc x4 r13
                      have x14 : Ext C.pds H1 H4 := x13.trans x4
                      have S4 : Stt (C.blk D) (orAt M D) (wipeE ρ (own.map (·.2))) δ4 (wipe σ (own.map (·.2))) H4 := S3'.step x4 dc4 kd4
                      have xw : Ext (fun a => a = D) H4 (upd H4 D (.lst (accv ++ [y]))) := Ext.write (P := fun a => a = D) rfl hD4 (fun _ q => nomatch q)
                      have hT : ∀ a vs, Rd H4 a (.tup vs) → ¬ (a = D) := fun a vs r z => by
                        subst z
                        rcases r with r | ⟨o, r⟩ <;> rw [hD4] at r <;> cases r
                      have hlen : accv.length < sizeLine := by
                        rw [← r14.length]
                        have := hw.few
                        omega
                      refine ⟨accv, hD4, hlen, accd ++ [dy], accv ++ [y], δ4, rest', ?_, upd_same, ?_, fun z => ?_, e9, ?_, by rw [List.length_append]; simp; omega, x14.updN hD⟩
                      · refine S4.stepP (P := fun a => a = D) (fun a z => .inr z) xw (fun a z => ?_) ?_ ?_ kd4.lst
                        · by_cases ha : a = D
                          · rw [ha]; exact .inl ⟨_, upd_same⟩
                          · rw [upd_ne ha]; exact S4.mok a z
                        · exact (S4.ext).updN hD0
                        · exact dc4.write hD4 hDp
                      · refine Rps.ext xw (fun a z => .inr z) hT _ _ (r14.append ⟨y, [], rfl, V4.rc, rfl⟩)
                      · have rc := r2 z
                        have rc4 : Rps C.K (orAt M D) H4 accd accv := S3.rps x4 (Sp.rps x3 (Rps.ext x2 (fun _ z => z.elim) (fun _ _ _ z => z) _ _ rc))
                        exact Rps.ext xw (fun a z => .inr z) hT _ _ (rc4.append ⟨y, [], rfl, V4.cl z, rfl⟩)
                      · rw [List.append_assoc]
                        show accd ++ (dy :: rest') = xs
                        rw [e3a]; exact e4
              | _ => cases e3
        · have hi' : ds.length ≤ i := by omega
          have ei : i = ds.length := by omega
          rw [fin i hi'] at e3
          simp only [compL] at e3
          cases e3
          rw [List.append_nil] at e4
          subst e4
          refine .inl ⟨by rw [ei]; exact hw.stop Hi so Si.kd, fun kd => ?_⟩
          have hl : accd.length ≤ sizeLine := Nat.le_trans e5 (by rw [ei]; exact hw.few)
          have hf : H D = none := x1.free hD hDp
          refine q (.ref D) Hi Si.kd (x1.trans xi) ⟨Si.dice.at_, Si.dice.row, Si.dice.tab⟩ ⟨?_, fun z => ?_, fun z => ?_, fun z => ?_⟩
          · exact ⟨D, accv, rfl, hDi, S1.mokc.none hD, hl, Rps.mono (fun a z => .inl z) _ _ r1⟩
          · have z' : tpc C.md it = true ∧ cln C.md el = true := by simpa [cln] using z
            exact ⟨D, accv, rfl, hDi, hDM, hl, Rps.mono (fun a z => .inl z) _ _ (r2 z'.2)⟩
          · have z' : tpc C.md it = true ∧ cln C.md el = true := by simpa [tpc] using z
            exact ⟨D, accv, rfl, hDi, hl, Rps.mono (fun a z => .inl z) _ _ (r2 z'.2)⟩
          · have z' : tpc C.md it = true ∧ cln C.md el = true := by simpa [frs] using z
            intro es ee
            cases ee
            exact ⟨D, accv, rfl, hf, hDi, hl, r2 z'.2⟩
theorem blk_ok {scope : Scope} {own : List (Str × Nat)} (ok : COk X C c sc k) (hb : blkC c.N sc scope own = true) : BlkOk X.N X.env.scope scope own := by
  have b0 := blkOk_by hb
  rw [ok.N]
  exact ⟨b0.kind, b0.uniq, b0.ix, fun y hy e => ok.fre y.1 (b0.free y hy e), b0.own⟩
theorem pe_lcD {elt tg iter : Expr} {ifs : List Expr} {scope : Scope} {pos : Pos} {own : List (Str × Nat)} {p : Pat} {it cd el : Ex} (ok : COk X C c sc k) (hb : blkC c.N sc scope own = true) (hk : c.dk ∉ own.map (·.2)) (hpl : plainE iter = true) (ht : tpc c.md it = true) (hn : ∀ i ∈ p.names, i ∈ own.map (·.2))
    (hi : PI X tg iter (tI C it))
    (hg : ∀ D s H C0 cl fp, PG (X.blk s H scope (compEnvC scope cl C0 X.env) fp) tg (gD (C.blk D) p)) (hc : ∀ D s H C0 cl fp, PTs (X.blk s H scope (compEnvC scope cl C0 X.env) fp) ifs (tDT (C.blk D) cd))
    (he : ∀ D s H C0 cl fp, PE (X.blk s H scope (compEnvC scope cl C0 X.env) fp) elt (tD (C.blk D) el)) :
    PE X (.ListComp elt [⟨tg, iter, ifs, 0⟩] scope pos) (tD C (.comp (own.map (·.2)) p it cd el)) := by
  have hs : ∀ x, foldedSetIterable iter X.env x = pure x := fun x => by cases iter <;> first | rfl | cases hpl
  exact PE.to (PE.kd (pe_lc (g := gB C p) (tt := tB' C cd) (te := eB C el) ok.calm (by rw [ok.N]; exact ok.nd) hi (blk_ok ok hb)
    (fun s H C0 cl fp => ⟨fun pins s' σ H' v u Q I r q => by obtain ⟨D, q⟩ := q; exact (hg D s H C0 cl fp).run pins s' σ H' v u Q I r q⟩)
    (fun s H C0 cl fp => ⟨fun pins s' σ H' Q I q => by obtain ⟨D, q⟩ := q; exact (hc D s H C0 cl fp).run pins s' σ H' Q I q⟩)
    (fun s H C0 cl fp => ⟨fun pins s' σ H' Q I q => by obtain ⟨D, q⟩ := q; exact (he D s H C0 cl fp).run pins s' σ H' Q I q⟩) hs)) fun σ H Q q => lc_red ok hk ht hn q
end
end DC
set_option Elab.async false
set_option linter.all false
set_option maxRecDepth 100000
set_option maxHeartbeats 2000000
namespace DC
open PySem PySem.Spec L2
def Ex.isL : Ex → Bool
  | .nil => true
  | .cons _ r => r.isL
  | _ => false
def Ex.ln : Ex → Nat
  | .cons _ r => r.ln + 1
  | _ => 0
theorem trA_ln {f : Expr → Option Ex} : ∀ {es : List Expr} {l : Ex}, trA f es = some l → l.isL = true ∧ l.ln = es.length
  | [], l, h => by cases h; exact ⟨rfl, rfl⟩
  | e :: es, l, h => by
    unfold trA at h
    split at h
    · cases e1 : f e <;> cases e2 : trA f es <;> simp only [e1, e2] at h <;> try cases h
      obtain ⟨h1, h2⟩ := trA_ln e2
      exact ⟨h1, by simp [Ex.ln, h2]⟩
    · cases h
theorem ev_list {Γ : Glo} {l : Ex} : ∀ {ρ : En} {δ δ' : Dice} {d : D}, l.isL = true → ev Γ l ρ δ = .ok d δ' → ∃ ds, d = .tup ds ∧ ds.length = l.ln := by
  induction l with
  | nil => intro ρ δ δ' d _ h; simp only [ev] at h; cases h; exact ⟨[], rfl, rfl⟩
  | cons a r _ ih =>
    intro ρ δ δ' d hl h
    simp only [ev] at h
    cases e1 : ev Γ a ρ δ with
    | stk => rw [e1] at h; cases h
    | exc _ _ => rw [e1] at h; cases h
    | ok x δ1 =>
      rw [e1] at h
      simp only [Res.bind] at h
      cases e2 : ev Γ r ρ δ1 with
      | stk => rw [e2] at h; cases h
      | exc _ _ => rw [e2] at h; cases h
      | ok y δ2 =>
        rw [e2] at h
        obtain ⟨ds, rfl, e3⟩ := ih (show r.isL = true from hl) e2
        simp only at h
        cases h
        exact ⟨x :: ds, rfl, by simp [Ex.ln, e3]⟩
  | _ => intro ρ δ δ' d hl; cases hl
theorem arr_rps {K : PySem.W.Frag} {M : MS} {H : Hp} {l : Option (List (Nat ⊕ D))} {ds es : List D} {vs : List V} (hc : ∀ l', l = some l' → ∀ d, .inr d ∈ l' → okC d = true) (h : arrG l ds = some es) (r : Rps K M H ds vs) : Rps K M H es (arrV l vs) := by
  cases l with
  | none => cases h; exact r
  | some l =>
    replace hc := hc l rfl
    induction l generalizing es with
    | nil => cases h; rfl
    | cons x l ih =>
      simp only [arrG, List.foldr_cons] at h
      cases e : arrG (some l) ds with
      | none =>
        simp only [arrG] at e
        rw [e] at h
        cases x <;> cases h
      | some gs =>
        have e' := e
        simp only [arrG] at e'
        rw [e'] at h
        have ih' := ih e (fun d z => hc d (List.mem_cons_of_mem _ z))
        cases x with
        | inl i =>
          simp only at h
          obtain ⟨d, e1, rfl⟩ := map_opt h
          obtain ⟨v, e2, e3⟩ := r.get e1
          refine ⟨vs.getD i .non, _, rfl, ?_, ih'⟩
          rw [List.getD_eq_getElem?_getD, e2]
          exact e3
        | inr d =>
          simp only at h
          cases h
          exact ⟨dV d, _, rfl, dV_rp (hc d List.mem_cons_self), ih'⟩
theorem arrV_len {l : Option (List (Nat ⊕ D))} {vs : List V} : (arrV l vs).length = (match l with | none => vs.length | some l => l.length) := by
  cases l with
  | none => rfl
  | some l => simp [arrV]
section
variable {X : Cx} {C : Cz} {c : TrC} {sc : Scope} {k : Nat}
theorem kw_ok : ∀ {kws : List Keyword} {ks : List Str}, kwNames kws = some ks → ∀ (pos : Pos) (env : Env), (backToKw pos (keywordEach kws env)).all (·.1.isSome) = true ∧ (backToKw pos (keywordEach kws env)).filterMap (·.1) = ks ∧ (backToKw pos (keywordEach kws env)).any (·.1.isNone) = false
  | [], ks, h, pos, env => by cases h; exact ⟨rfl, rfl, rfl⟩
  | ⟨some x, e, p⟩ :: r, ks, h, pos, env => by
    obtain ⟨ks', e1, rfl⟩ := map_opt (show (kwNames r).map (x :: ·) = some ks from h)
    obtain ⟨h1, h2, h3⟩ := kw_ok e1 pos env
    simp only [keywordEach, backToKw, List.map_cons] at h1 h2 h3 ⊢
    exact ⟨by simpa using h1, by simpa using h2, by simpa using h3⟩
  | ⟨none, e, p⟩ :: r, ks, h, pos, env => by cases h
theorem PK.to {kws : List Keyword} {t t' : TA} (h : PK X kws t) (w : ∀ σ H Q, t' σ H Q → t σ H Q) : PK X kws t' := ⟨fun pos pins s σ H Q I q => h.run pos pins s σ H Q I (w σ H Q q)⟩
theorem sK {f : Expr → Option Ex} (ih : ∀ e x, f e = some x → PE X e (tD C x)) : ∀ (kws : List Keyword) l, trA f (kwVals kws) = some l → PK X kws (tDs C l)
  | [], l, h => by cases h; exact PK.to pk_nil fun _ _ _ h => tDs_nil h
  | ⟨nm, e, p⟩ :: kws, l, h => by
    simp only [kwVals] at h
    unfold trA at h
    split at h
    · rename_i hp
      cases e1 : f e <;> cases e2 : trA f (kwVals kws) <;> simp only [e1, e2] at h <;> try cases h
      exact PK.to (pk_cons (ih e _ e1) (sK ih kws _ e2)) fun _ _ _ h => tDs_cons h
    · cases h
theorem ExcIs.mono {mg : Str → Option Value} {K : PySem.W.Frag} {M M' : MS} {H : Hp} {x : Exc} {cls : Value} {dd : Option Addr} (h : ∀ a, M' a → M a) (q : ExcIs mg K M H x cls dd) : ExcIs mg K M' H x cls dd := by
  refine ⟨q.1, ?_⟩
  have q2 := q.2
  cases e : x.fld with
  | none => rw [e] at q2; exact q2
  | some d =>
    rw [e] at q2
    obtain ⟨a, f, v, e1, e2, e3⟩ := q2
    exact ⟨a, f, v, e1, e2, Rp.mono h _ _ e3⟩
theorem sp_of {fs : Fs} {f : Str} {dc : Bool} {w : Nat} {l l' : Ex} {way : Way} {σ : St} {ρ : En} {M : MS} {δ2 : Dice} {H H2 : Hp} {ds es : List D} {vs zs : List V} {Q : VK} (hd : fs.dice = false) (hf : C.Γ.fn f = some fs) (S2 : Stt C M ρ δ2 σ H2) (x2 : Ext C.pds H H2)
    (r1 : Rps C.K C.Mc H2 (ds ++ es) (vs ++ zs)) (r2 : cln C.md l = true → cln C.md l' = true → Rps C.K M H2 (ds ++ es) (vs ++ zs)) (hway : fs.pats[w]? = some way) (hnp : (arrV way.2.2 (vs ++ zs)).length = fs.np) (hoc : ∀ l', way.2.2 = some l' → ∀ d, .inr d ∈ l' → okC d = true)
    (h : match (match (fs.pats[w]?).bind fun w => arrG w.2.2 (ds ++ es) with
          | some gs => if fs.dice then fs.sem gs δ2 else match fs.sem gs (0, 0, []) with
            | .ok d _ => .ok d δ2
            | .exc x _ => .exc x δ2
            | .stk => .stk
          | none => .stk : Res D) with
      | .ok d δ' => ∀ v H', KD C.K H' → Ext C.pds H H' → DiceAt C δ' H' → Val C M (.call f false w l l') H H' d v → Q v H'
      | .exc y δ' => Bad C y δ' H
      | .stk => False) : spD C.K C.mg fs (arrV way.2.2 (vs ++ zs)) H2 (fun v H' => KD C.K H' → Q v H') C.E := by
  rw [hway] at h
  simp only [Option.bind_some] at h
  cases e : arrG way.2.2 (ds ++ es) with
  | none => rw [e] at h; exact h.elim
  | some gs =>
    rw [e] at h
    simp only [hd] at h
    have noD : ∀ a, (none : Option Addr) = some a → False := fun a z => nomatch z
    have xn : ∀ {H' : Hp}, Ext (fun a => (none : Option Addr) = some a) H2 H' → Ext C.pds H H' ∧ DiceAt C δ2 H' := fun {H'} x => ⟨x2.trans (x.mono fun a z => nomatch z), S2.dice.keep (x.mono fun a z => nomatch z)⟩
    have hfr : ∀ {H' : Hp} {d : D} {v : V}, Fresh C.K M H2 H' d v → Fresh C.K M H H' d v := fun f => f.back x2 S2.dice.ne
    by_cases hc : cln C.md l = true ∧ cln C.md l' = true
    · refine ⟨gs, (0, 0, []), M, none, hnp, S2.kd, S2.mok, ?_, ?_⟩
      · rw [hd]; exact ⟨rfl, arr_rps hoc e (r2 hc.1 hc.2)⟩
      · cases e2 : fs.sem gs (0, 0, []) with
        | stk => rw [e2] at h; exact h
        | exc y δ' =>
          rw [e2] at h
          exact fun cls dd H' x _ q => h cls dd H' (xn x).1 (xn x).2 (q.mono S2.sub)
        | ok d δ' =>
          rw [e2] at h
          exact fun v H' kd x _ r fr _ => h v H' kd (xn x).1 (xn x).2 ⟨Rp.mono S2.sub _ _ r, fun _ => r, fun _ => r.top, fun z => hfr (fr (by simp only [frs, hf, Bool.and_eq_true] at z; exact z.2))⟩
    · refine ⟨gs, (0, 0, []), C.Mc, none, hnp, S2.kd, S2.mokc, ?_, ?_⟩
      · rw [hd]; exact ⟨rfl, arr_rps hoc e r1⟩
      · cases e2 : fs.sem gs (0, 0, []) with
        | stk => rw [e2] at h; exact h
        | exc y δ' =>
          rw [e2] at h
          exact fun cls dd H' x _ q => h cls dd H' (xn x).1 (xn x).2 q
        | ok d δ' =>
          rw [e2] at h
          have no : ∀ z : cln C.md (.call f false w l l') = true, False := fun z => hc (by simpa [cln] using z)
          exact fun v H' kd x _ r fr _ => h v H' kd (xn x).1 (xn x).2 ⟨r, fun z => (no z).elim, fun z => (no (by simpa [cln, tpc] using z)).elim, fun z => (hc (by simp only [frs, hf, Bool.and_eq_true] at z; exact z.1)).elim⟩
theorem no_fn {e : Expr} {f : Str} {dc : Bool} {w : Nat} {l l' : Ex} (h : C.Γ.fn f = none) : PE X e (tD C (.call f dc w l l')) := ⟨fun pins s σ H Q I q => by
  obtain ⟨ρ, δ, M, S, q⟩ := q
  simp only [ev, h] at q⟩
theorem pats_get {fs : Fs} {l : List (Nat × List Str)} {i n : Nat} {ks : List Str} (h : fs.pats.map (fun p => (p.1, p.2.1)) = l) (e : l[i]? = some (n, ks)) : ∃ ar, fs.pats[i]? = some (n, ks, ar) := by
  rw [← h, List.getElem?_map] at e
  obtain ⟨p, e1, e2⟩ := map_opt e
  obtain ⟨a, b, ar⟩ := p
  cases e2
  exact ⟨ar, e1⟩
theorem pe_callD {fe : Expr → Option Ex} {f : Str} {e : Expr} {es : List Expr} {kws : List Keyword} {ks : List Str} {l l' : Ex} {w : Nat} {p pos : Pos} (ok : COk X C c sc k) (ih : ∀ e x, fe e = some x → PE X e (tD C x)) (hg : glB sc f = true) (ho : oddName f = false) (hdc : c.dc f = false)
    (hk : kwNames kws = some ks) (hl : trA fe (e :: es) = some l) (hl' : trA fe (kwVals kws) = some l') (hw : wayIx (c.sg f) (e :: es).length ks = some w) : PE X (.Call (.Name f p) (e :: es) kws pos) (tD C (.call f false w l l')) := by
  cases hf : C.Γ.fn f with
  | none => exact no_fn hf
  | some fs =>
    obtain ⟨⟨a, fd, ps, m1, m2, F, pt⟩, hsg, hdd⟩ := ok.fns f fs hf
    rw [hdc] at hdd
    obtain ⟨ar, hway⟩ := pats_get hsg (wayIx_get hw)
    obtain ⟨_, p1, p2, g, gV, hkb, hgv⟩ := pt w _ hway
    have hst : plainE e = true := by
      unfold trA at hl
      split at hl
      · assumption
      · cases hl
    obtain ⟨o1, o2, o3⟩ := odd_of ho
    refine PE.to (PE.kd (pe_callN F ok.room (ok.gl f hg) m1 m2 hkb (passes_call ok.tk fun _ _ _ _ z => z) (sA ih _ l hl) (sK ih kws l' hl') (kw_ok hk pos X.env).1 (kw_ok hk pos X.env).2.1 o1 (plain_star hst _ _) (by rw [trA_star hl, (kw_ok hk pos X.env).2.2]; rfl))) fun σ H Q q => ?_
    obtain ⟨ρ, δ, M, S, q⟩ := q
    refine ⟨ρ, δ, M, S, ?_⟩
    simp only [ev, hf, hdd, if_pos] at q
    obtain ⟨L1, L2⟩ := trA_ln hl
    obtain ⟨L3, L4⟩ := trA_ln hl'
    cases e1 : ev C.Γ l ρ δ with
    | stk => rw [e1] at q; exact q
    | exc y δ' => rw [e1] at q; exact q
    | ok d1 δ1 =>
      rw [e1] at q
      simp only [Res.bind] at q
      obtain ⟨ds, rfl, n1⟩ := ev_list L1 e1
      intro vs H1 k1 x1 dc1 V1
      have S1 := S.step x1 dc1 k1
      refine ⟨ρ, δ1, M, S1, ?_⟩
      cases e2 : ev C.Γ l' ρ δ1 with
      | stk => rw [e2] at q; exact q
      | exc y δ' => rw [e2] at q; exact q.step x1
      | ok d2 δ2 =>
        rw [e2] at q
        obtain ⟨es', rfl, n2⟩ := ev_list L3 e2
        simp only at q
        intro zs H2 k2 x2 dc2 V2
        have S2 := S1.step x2 dc2 k2
        have lv : vs.length = (e :: es).length := by rw [← V1.rc.length, n1, L2]
        have lz : zs.length = ks.length := by
          rw [← V2.rc.length, n2, L4]
          have : ∀ {kws : List Keyword} {ks : List Str}, kwNames kws = some ks → (kwVals kws).length = ks.length := by
            intro kws
            induction kws with
            | nil => intro ks h; cases h; rfl
            | cons q r ihk =>
              intro ks h
              obtain ⟨nm, e, p⟩ := q
              cases nm with
              | none => cases h
              | some x =>
                obtain ⟨ks', e1, rfl⟩ := map_opt (show (kwNames r).map (x :: ·) = some ks from h)
                simp [kwVals, ihk e1]
          exact this hk
        refine ⟨lv, lz, ?_⟩
        rw [hgv vs zs lv lz]
        have hnp : (arrV ar (vs ++ zs)).length = fs.np := by
          rw [arrV_len, ← p1]
          cases ar with
          | none => simp [lv, lz]
          | some _ => rfl
        have := sp_of (dc := false) (w := w) (l := l) (l' := l') (Q := Q) hdd hf S2 (x1.trans x2) ((S1.rpsc x2 V1.rc).append V2.rc) (fun z1 z2 => (S1.rps x2 (V1.cl z1)).append (V2.cl z2)) hway hnp p2 (by rw [hdd]; exact q)
        rw [ok.K, ok.mg] at this
        exact this
theorem pe_diceD {fe : Expr → Option Ex} {f d : Str} {es : List Expr} {l : Ex} {w : Nat} {p pd' pos : Pos} (ok : COk X C c sc k) (ih : ∀ e x, fe e = some x → PE X e (tD C x)) (hg : glB sc f = true) (ho : oddName f = false) (hdc : c.dc f = true)
    (hd : (!c.tbl && decide (ixS c.N d = some c.dk)) = true) (hv : visB sc d = true) (hod : oddName d = false) (hl : trA fe es = some l) (hw : wayIx (c.sg f) (es.length + 1) [] = some w) : PE X (.Call (.Name f p) (.Name d pd' :: es) [] pos) (tD C (.call f true w l .nil)) := by
  cases hf : C.Γ.fn f with
  | none => exact no_fn hf
  | some fs =>
    obtain ⟨⟨a, fd, ps, m1, m2, F, pt⟩, hsg, hdd⟩ := ok.fns f fs hf
    rw [hdc] at hdd
    obtain ⟨ar, hway⟩ := pats_get hsg (wayIx_get hw)
    obtain ⟨p0, p1, p2, g, gV, hkb, hgv⟩ := pt w _ hway
    have har : ar = none := p0 hdd
    subst har
    obtain ⟨o1, o2, o3⟩ := odd_of ho
    obtain ⟨q1, q2, q3⟩ := odd_of hod
    have hd' : c.tbl = false ∧ ixS c.N d = some c.dk := by simpa using hd
    have hdk := ixS_get hd'.2
    obtain ⟨da, hpd⟩ := ok.pdk hd'.1 (List.getElem?_eq_some_iff.mp hdk).1
    have hA : PA X (.Name d pd' :: es) (tCons (tVar c.dk) (tDs C l)) := pa_cons (pe_var (by rw [ok.N]; exact hdk) (ok.vis d hv) q1 q2) (sA ih _ l hl) rfl
    refine PE.to (PE.kd (pe_callN F ok.room (ok.gl f hg) m1 m2 hkb (passes_call ok.tk fun _ _ _ _ z => z) hA pk_nil rfl rfl o1 rfl (by show ((backTo pos ((false, _) :: starEach es X.env)).any _ || _) = false; simpa [backTo, keywordEach, backToKw] using trA_star hl pos X.env))) fun σ H Q q => ?_
    obtain ⟨ρ, δ, M, S, q⟩ := q
    refine ⟨.ref da, by rw [← ok.dk]; exact (S.dpl da hpd).2, ?_⟩
    refine ⟨ρ, δ, M, S, ?_⟩
    simp only [ev, hf, hdd, if_pos] at q
    obtain ⟨L1, L2⟩ := trA_ln hl
    cases e1 : ev C.Γ l ρ δ with
    | stk => rw [e1] at q; exact q
    | exc y δ' => rw [e1] at q; exact q
    | ok d1 δ1 =>
      rw [e1] at q
      simp only [Res.bind] at q
      obtain ⟨ds, rfl, n1⟩ := ev_list L1 e1
      intro vs H1 k1 x1 dc1 V1
      have S1 := S.step x1 dc1 k1
      have lv : (V.ref da :: vs).length = es.length + 1 := by rw [List.length_cons, ← V1.rc.length, n1, L2]
      refine ⟨lv, rfl, ?_⟩
      rw [hgv _ [] lv rfl]
      simp only [arrV, List.append_nil]
      have hda : C.Mc da := (S.dpl da hpd).1
      simp only [hway, Option.bind_some, arrG, List.append_nil] at q
      have hnp : (V.ref da :: vs).length = fs.np := by rw [← p1, lv]; rfl
      have xn : ∀ {H' : Hp}, Ext (fun a => some da = some a) H1 H' → Ext C.pds H H' := fun {H'} x => x1.trans (x.mono fun a z => by cases z; exact .inl hpd)
      have dn : ∀ {δ' : Dice} {H' : Hp}, Ext (fun a => some da = some a) H1 H' → (∀ a, some da = some a → H' a = some (.lst [.int δ'.1, .int δ'.2.1])) → DiceAt C δ' H' := fun x h => ⟨fun a z => h a (by rw [← z, hpd]), fun ta ras z => (by have := (S.tpl ta ras z).2.2.2.1; rw [hpd] at this; cases this), tabs_ext dc1.tab x fun a z => by cases z; exact ⟨_, dc1.at_ da hpd⟩⟩
      rw [← ok.K, ← ok.mg]
      by_cases hc : cln C.md l = true
      · refine ⟨ds, δ1, M, some da, hnp, k1, S1.mok, ?_, ?_⟩
        · rw [hdd, if_pos rfl]
          exact ⟨da, vs, rfl, rfl, S1.sub da hda, dc1.at_ da hpd, V1.cl hc⟩
        · cases e2 : fs.sem ds δ1 with
          | stk => rw [e2] at q; exact q
          | exc y δ' =>
            rw [e2] at q
            exact fun cls dd H' x dq z => q cls dd H' (xn x) (dn x dq) (z.mono S1.sub)
          | ok d δ' =>
            rw [e2] at q
            exact fun v H' kd x dq r fr _ => q v H' kd (xn x) (dn x dq) ⟨Rp.mono S1.sub _ _ r, fun _ => r, fun _ => r.top, fun z => Fresh.back (fr (by simp only [frs, hf, Bool.and_eq_true] at z; exact z.2)) x1 dc1.ne⟩
      · refine ⟨ds, δ1, C.Mc, some da, hnp, k1, S1.mokc, ?_, ?_⟩
        · rw [hdd, if_pos rfl]
          exact ⟨da, vs, rfl, rfl, hda, dc1.at_ da hpd, V1.rc⟩
        · cases e2 : fs.sem ds δ1 with
          | stk => rw [e2] at q; exact q
          | exc y δ' =>
            rw [e2] at q
            exact fun cls dd H' x dq z => q cls dd H' (xn x) (dn x dq) z
          | ok d δ' =>
            rw [e2] at q
            have no : ∀ z : cln C.md (.call f true w l .nil) = true, False := fun z => hc (by simp only [cln, Bool.and_eq_true] at z; exact z.1)
            exact fun v H' kd x dq r fr _ => q v H' kd (xn x) (dn x dq) ⟨r, fun z => (no z).elim, fun z => (no (by simpa [cln, tpc] using z)).elim, fun z => (hc (by simp only [frs, hf, Bool.and_eq_true] at z; exact z.1.1)).elim⟩
end
end DC
set_option Elab.async false
set_option linter.all false
set_option maxRecDepth 100000
set_option maxHeartbeats 4000000
namespace DC
open PySem PySem.Spec L2
section
variable {X : Cx} {C : Cz} {c : TrC} {sc : Scope} {k : Nat}
theorem tIfT' {t a b : Ex} {σ : St} {H : Hp} {Q : Bool → Hp → Prop} (h : tDT C (.ife t a b) σ H Q) : tDT C t σ H fun c H1 => if c = true then tDT C a σ H1 Q else tDT C b σ H1 Q := by
  obtain ⟨ρ, δ, M, S, h⟩ := h
  refine ⟨ρ, δ, M, S, ?_⟩
  simp only [ev] at h
  cases e : ev C.Γ t ρ δ with
  | stk => rw [e] at h; exact h
  | exc y δ' => rw [e] at h; exact h
  | ok x δ1 =>
    rw [e] at h
    simp only [Res.bind] at h
    cases x with
    | bl t =>
      intro H1 k1 x1 dc1
      have S1 := S.step x1 dc1 k1
      cases t with
      | true =>
        rw [if_pos rfl]
        refine ⟨ρ, δ1, M, S1, ?_⟩
        simp only at h
        cases e2 : ev C.Γ a ρ δ1 with
        | stk => rw [e2] at h; exact h
        | exc y δ' => rw [e2] at h; exact h.step x1
        | ok y δ2 =>
          rw [e2] at h
          cases y with
          | bl b => exact fun H2 k2 x2 dc2 => h H2 k2 (x1.trans x2) dc2
          | _ => exact h.elim
      | false =>
        rw [if_neg (by decide)]
        refine ⟨ρ, δ1, M, S1, ?_⟩
        simp only at h
        cases e2 : ev C.Γ b ρ δ1 with
        | stk => rw [e2] at h; exact h
        | exc y δ' => rw [e2] at h; exact h.step x1
        | ok y δ2 =>
          rw [e2] at h
          cases y with
          | bl b => exact fun H2 k2 x2 dc2 => h H2 k2 (x1.trans x2) dc2
          | _ => exact h.elim
    | _ => exact h.elim
theorem pt_ifD {t a b : Expr} {t' a' b' : Ex} {pos : Pos} (ht : PT X t (tDT C t')) (ha : PT X a (tDT C a')) (hb : PT X b (tDT C b')) : PT X (.IfExp t a b pos) (tDT C (.ife t' a' b')) := by
  refine ⟨fun pins s σ H Q I h => ?_⟩
  refine PyProof.Rows.isTrue_IfExp (thn (ht.run pins s σ H _ I (tIfT' h)) fun d s1 ⟨H1, I1, q1⟩ => ?_)
  cases d with
  | true => exact ha.run pins s1 σ H1 Q I1 q1
  | false => exact hb.run pins s1 σ H1 Q I1 q1
theorem tIdx {a b : Expr} (h : ∀ o i, subscripted b false o i = operate [o, i] (getItem o i)) : PlainIx b := h
theorem plain_ix {b : Expr} (h : plainE b = true) : PlainIx b := fun o i => by cases b <;> first | rfl | cases h
theorem pe_slc3 {a b d : Expr} {a' b' d' : Ex} {p2 pos : Pos} (ok : COk X C c sc k) (hq : s3Ok (.cons a' (.cons b' (.cons d' .nil))) = true) (ha : PE X a (tD C a')) (hb : PE X b (tD C b')) (hd : PE X d (tD C d')) :
    PE X (.Subscript a (.Slice (some b) (some d) none p2) pos) (tD C (.op (.slc true true) (.cons a' (.cons b' (.cons d' .nil))))) := by
  refine PE.to (PE.kd (pe_slice (r := rSlA X.K) (sl_list.or (sl_str.or sl_tupA)) ha (po_some hb) (po_some hd))) fun σ H Q h => ?_
  have ok2 : OpOk C.K (.slc true true) (rSlc X.K true true) := by rw [ok.K]; exact ok_slc true true
  obtain ⟨ρ, δ, M, S, h⟩ := h
  refine ⟨ρ, δ, M, S, ?_⟩
  simp only [ev] at h
  cases e1 : ev C.Γ a' ρ δ with
  | stk => rw [e1] at h; exact h
  | exc y δ' => rw [e1] at h; exact h
  | ok x δ1 =>
    rw [e1] at h
    simp only [Res.bind] at h
    intro v H1 k1 x1 dc1 V1
    have S1 := S.step x1 dc1 k1
    refine ⟨ρ, δ1, M, S1, ?_⟩
    cases e2 : ev C.Γ b' ρ δ1 with
    | stk => rw [e2] at h; exact h
    | exc y δ' => rw [e2] at h; exact h.step x1
    | ok y δ2 =>
      rw [e2] at h
      simp only at h
      intro u H2 k2 x2 dc2 V2
      have S2 := S1.step x2 dc2 k2
      have hy : ∃ i, y = .int i := by
        have hq' : (isIntC b' || quiet d') = true := hq
        rw [Bool.or_eq_true] at hq'
        clear hq
        rcases hq' with hz | hz
        · cases b' <;> try cases hz
          rename_i d0
          cases d0 <;> try cases hz
          simp only [ev] at e2
          cases e2
          exact ⟨_, rfl⟩
        · cases e3 : ev C.Γ d' ρ δ2 with
          | stk => rw [e3] at h; exact h.elim
          | exc y δ' => exact absurd e3 (quiet_ok d' ρ δ2 hz _ _)
          | ok z δ3 =>
            rw [e3] at h
            simp only at h
            cases e4 : opv (.slc true true) [x, y, z] with
            | none => rw [e4] at h; exact h.elim
            | some g =>
              match y, z, e4 with
              | .int i, .int j, e4 => exact ⟨i, rfl⟩
      obtain ⟨i, rfl⟩ := hy
      refine ⟨i, V2.rc, ρ, δ2, M, S2, ?_⟩
      cases e3 : ev C.Γ d' ρ δ2 with
      | stk => rw [e3] at h; exact h
      | exc y δ' => rw [e3] at h; exact (h.step x1).step x2
      | ok z δ3 =>
        rw [e3] at h
        simp only at h
        intro t H3 k3 x3 dc3 V3
        have S3 := S2.step x3 dc3 k3
        cases e4 : opv (.slc true true) [x, .int i, z] with
        | none => rw [e4] at h; exact h.elim
        | some g =>
          rw [e4] at h
          have VV : Vls C M (.cons a' (.cons b' (.cons d' .nil))) H3 [x, .int i, z] [v, u, t] := by
            refine ⟨⟨v, [u, t], rfl, S2.rpc x3 (S1.rpc x2 V1.rc), u, [t], rfl, S2.rpc x3 V2.rc, t, [], rfl, V3.rc, rfl⟩, fun z => ?_, fun z => ?_⟩
            · have z' : cln C.md a' = true ∧ cln C.md b' = true ∧ cln C.md d' = true := by simpa [cln] using z
              exact ⟨v, [u, t], rfl, S2.rp x3 (S1.rp x2 (V1.cl z'.1)), u, [t], rfl, S2.rp x3 (V2.cl z'.2.1), t, [], rfl, V3.cl z'.2.2, rfl⟩
            · have z' : tpc C.md a' = true ∧ tpc C.md b' = true ∧ tpc C.md d' = true := by simpa [tpc] using z
              intro i d' v' e1 e2
              match i, e1, e2 with
              | 0, e1, e2 => cases e1; cases e2; exact S2.rpt x3 (S1.rpc x2 V1.rc) (S1.rpt x2 V1.rc (V1.tp z'.1))
              | 1, e1, e2 => cases e1; cases e2; exact S2.rpt x3 V2.rc (V2.tp z'.2.1)
              | 2, e1, e2 => cases e1; cases e2; exact V3.tp z'.2.2
          have fin := op_fin ok2 S3 k3 ((x1.trans x2).trans x3) dc3 VV e4 h
          obtain ⟨x', i', j', eq, fin⟩ := fin
          cases eq
          rw [ok.K] at fin
          cases (show V.int i' = V.int i from V2.rc)
          exact ⟨_, rfl, fin⟩
theorem dgI_some {a b : Expr} {i : Nat} (h : dgI c sc a b = some i) : ∃ d p z q, a = .Name d p ∧ b = .Constant (.int (i : Int)) z q ∧ (i = 0 ∨ i = 1) ∧ (c.tbl = false ∧ ixS c.N d = some c.dk) ∧ visB sc d = true ∧ oddName d = false := by
  unfold dgI at h
  split at h
  · rename_i d p j z q
    split at h
    · rename_i hc
      cases h
      simp only [Bool.and_eq_true, decide_eq_true_eq, Bool.not_eq_true'] at hc
      obtain ⟨⟨⟨⟨h0, h1⟩, h2⟩, h3⟩, h4⟩ := hc
      rcases h4 with rfl | rfl
      · exact ⟨d, p, z, q, rfl, rfl, .inl rfl, ⟨h0, h1⟩, h2, h3⟩
      · exact ⟨d, p, z, q, rfl, rfl, .inr rfl, ⟨h0, h1⟩, h2, h3⟩
    · cases h
  · cases h
theorem tgI_some {a e : Expr} (h : tgI c sc a = some e) : ∃ d p q, a = .Subscript (.Name d p) e q ∧ c.tbl = true ∧ ixS c.N d = some c.dk ∧ visB sc d = true ∧ oddName d = false ∧ plainE e = true := by
  unfold tgI at h
  split at h
  · rename_i d p e' q
    split at h
    · rename_i hc
      cases h
      simp only [Bool.and_eq_true, decide_eq_true_eq, Bool.not_eq_true'] at hc
      obtain ⟨⟨⟨⟨h0, h1⟩, h2⟩, h3⟩, h4⟩ := hc
      exact ⟨d, p, q, rfl, h0, h1, h2, h3, h4⟩
    · cases h
  · cases h
theorem pe_diceN {d : Str} {p : Pos} (ok : COk X C c sc k) (h1 : c.tbl = false ∧ ixS c.N d = some c.dk) (h2 : visB sc d = true) (h3 : oddName d = false) : ∃ i, X.N[i]? = some d ∧ i = C.kd ∧ PE X (.Name d p) (tVar i) ∧ ∃ a, C.pd = some a := by
  have hx : (d == ("__debug__" : Str)) = false ∧ (d == ("__classdict__" : Str)) = false := by
    unfold oddName at h3
    cases e1 : d == ("__debug__" : Str) <;> cases e2 : d == ("__classdict__" : Str) <;> simp [e1, e2] at h3 ⊢
  have hN : X.N[c.dk]? = some d := by rw [ok.N]; exact ixS_get h1.2
  exact ⟨c.dk, hN, ok.dk.symm, pe_var hN (ok.vis d h2) hx.1 hx.2, ok.pdk h1.1 (by rw [← ok.N]; exact (List.getElem?_eq_some_iff.mp hN).1)⟩
theorem pe_dgetD {a b : Expr} {i : Nat} {pos : Pos} (ok : COk X C c sc k) (h : dgI c sc a b = some i) : PE X (.Subscript a b pos) (tD C (.dget i)) := by
  obtain ⟨d, p, z, q, rfl, rfl, hi, h1, h2, h3⟩ := dgI_some h
  obtain ⟨j, hN, hj, hv, pa, hp⟩ := pe_diceN (p := p) ok h1 h2 h3
  refine PE.to (pe_ix ix_seq hv pe_int (plain_ix rfl)) fun σ H Q h => ?_
  obtain ⟨ρ, δ, M, S, h⟩ := h
  simp only [ev] at h
  obtain ⟨g1, g2⟩ := S.dpl pa hp
  have g3 := S.dice.at_ pa hp
  refine ⟨.ref pa, by rw [hj]; exact g2, .inl ⟨pa, _, (i : Int), .int (if i = 0 then δ.1 else δ.2.1), rfl, rfl, .inl (.inl g3), ?_, ?_⟩⟩
  · rcases hi with rfl | rfl <;> rfl
  · exact h _ H S.kd (Ext.refl _ _) S.dice ⟨rfl, fun _ => rfl, fun _ => rfl, fun z => by simp [frs] at z⟩
theorem atI_as {α β : Type} {xs : List α} {ys : List β} {i : Int} {v : α} (h : atI xs i = some v) (hl : xs.length = ys.length) : ∃ j, ∃ y, ixN xs.length i = some j ∧ xs[j]? = some v ∧ ys[j]? = some y ∧ atI ys i = some y := by
  unfold atI at h
  cases e : ixN xs.length i with
  | none => rw [e] at h; cases h
  | some j =>
    rw [e] at h
    have h : xs[j]? = some v := h
    have hj := (List.getElem?_eq_some_iff.mp h).1
    refine ⟨j, ys[j]'(by omega), rfl, h, List.getElem?_eq_getElem (by omega), ?_⟩
    unfold atI
    have e' : ixN ys.length i = some j := by rw [← hl]; exact e
    simp only [e', Option.bind_some]
    exact List.getElem?_eq_getElem (by omega)
theorem atI_map {α β : Type} {xs : List α} {i : Int} {v : α} (f : α → β) (h : atI xs i = some v) : atI (xs.map f) i = some (f v) := by
  unfold atI at h ⊢
  rw [List.length_map]
  cases e : ixN xs.length i with
  | none => rw [e] at h; cases h
  | some j =>
    rw [e] at h
    have h : xs[j]? = some v := h
    show (xs.map f)[j]? = some (f v)
    rw [List.getElem?_map, h]
    rfl
theorem pe_tgetD {d : Str} {e b : Expr} {a' b' : Ex} {p q pos : Pos} (ok : COk X C c sc k) (h0 : c.tbl = true) (h1 : ixS c.N d = some c.dk) (h2 : visB sc d = true) (h3 : oddName d = false) (he : plainE e = true) (hb : plainE b = true) (hq : quiet b' = true)
    (ha : PE X e (tD C a')) (hb' : PE X b (tD C b')) : PE X (.Subscript (.Subscript (.Name d p) e q) b pos) (tD C (.tget a' b')) := by
  have hx : (d == ("__debug__" : Str)) = false ∧ (d == ("__classdict__" : Str)) = false := by
    unfold oddName at h3
    cases e1 : d == ("__debug__" : Str) <;> cases e2 : d == ("__classdict__" : Str) <;> simp [e1, e2] at h3 ⊢
  have hN : X.N[c.dk]? = some d := by rw [ok.N]; exact ixS_get h1
  obtain ⟨ta, ras, htb⟩ := ok.tdk h0 (by rw [← ok.N]; exact (List.getElem?_eq_some_iff.mp hN).1)
  refine PE.to (pe_ix ix_seq (pe_ix ix_seq (pe_var hN (ok.vis d h2) hx.1 hx.2) ha (plain_ix he)) hb' (plain_ix hb)) fun σ H Q h => ?_
  obtain ⟨ρ, δ, M, S, h⟩ := h
  refine ⟨.ref ta, by rw [← ok.dk]; exact (S.tpl ta ras htb).1, ?_⟩
  refine ⟨ρ, δ, M, S, ?_⟩
  simp only [ev] at h
  cases e1 : ev C.Γ a' ρ δ with
  | stk => rw [e1] at h; exact h
  | exc y δ' => rw [e1] at h; exact h
  | ok x δ1 =>
    rw [e1] at h
    intro v H1 k1 x1 dc1 V1
    have S1 := S.step x1 dc1 k1
    simp only [Res.bind] at h
    cases e2 : ev C.Γ b' ρ δ1 with
    | stk => rw [e2] at h; exact h.elim
    | exc y δ' => exact absurd e2 (quiet_ok b' ρ δ1 hq _ _)
    | ok y δ2 =>
      rw [e2] at h
      cases x with
      | int i =>
        cases y with
        | int j =>
          simp only at h
          by_cases hl0 : δ2.2.2.length = δ1.2.2.length
          case neg => rw [if_neg hl0] at h; exact h.elim
          rw [if_pos hl0] at h
          cases e3 : tabG δ2.2.2 i j with
          | none => rw [e3] at h; exact h.elim
          | some n =>
            rw [e3] at h
            unfold tabG at e3
            cases e4 : atI δ2.2.2 i with
            | none => rw [e4] at e3; cases e3
            | some r =>
              rw [e4] at e3
              have e3 : atI r j = some n := e3
              obtain ⟨w1, w2, w3, w4⟩ := dc1.row ta ras htb
              cases (show v = .int i from V1.rc)
              have hl : δ2.2.2.length = ras.length := hl0.trans w2.symm
              obtain ⟨jj, ra, g1, g2, g3, g4⟩ := atI_as e4 hl
              refine .inl ⟨ta, ras.map V.ref, i, .ref ra, rfl, rfl, .inl (.inl w1), atI_map _ g4, ?_⟩
              refine ⟨ρ, δ1, M, S1, ?_⟩
              rw [e2]
              intro v2 H2 k2 x2 dc2 V2
              cases (show v2 = .int j from V2.rc)
              obtain ⟨u1, u2, u3, u4⟩ := dc2.row ta ras htb
              refine .inl ⟨ra, r.map V.int, j, .int n, rfl, rfl, .inl (.inl (u4 jj ra r g3 g2).1), atI_map _ e3, ?_⟩
              exact h _ H2 k2 (x1.trans x2) dc2 ⟨rfl, fun _ => rfl, fun _ => rfl, fun z => by simp [frs] at z⟩
        | _ => exact h.elim
      | _ => exact h.elim
end
end DC
set_option Elab.async false
set_option linter.all false
set_option maxRecDepth 100000
set_option maxHeartbeats 4000000
namespace DC
open PySem PySem.Spec L2
section
variable {X : Cx} {C : Cz} {c : TrC} {sc : Scope} {k : Nat}
def Both (X : Cx) (C : Cz) (e : Expr) (x : Ex) : Prop := PE X e (tD C x) ∧ PT X e (tDT C x)
theorem Both.plain {e : Expr} {x : Ex} (h : PE X e (tD C x)) (he : ∀ whole, isTrue e X.env whole = (do let v ← whole; standAt e.pos; holding [v] (truthy v))) : Both X C e x := ⟨h, pt_valD h he⟩
theorem s_call {fe : Expr → Option Ex} {f : Str} {args : List Expr} {kws : List Keyword} {x : Ex} {p pos : Pos} (ok : COk X C c sc k) (ih : ∀ e x, fe e = some x → PE X e (tD C x)) (hg : glB sc f = true) (ho : oddName f = false) (h : trCall c fe sc f args kws = some x) : PE X (.Call (.Name f p) args kws pos) (tD C x) := by
  unfold trCall at h
  split at h
  · rename_i d pd rest hd
    split at h
    · rename_i l w h1 h2 h4 h5
      cases h
      have h2' : visB sc d = true ∧ oddName d = false := by simpa using h2
      exact pe_diceD ok ih hg ho hd h1 h2'.1 h2'.2 h4 h5
    · cases h
  · rename_i e es hd
    split at h
    · rename_i ks l l' h1 h2 h3
      split at h
      · rename_i w h4
        cases h
        exact pe_callD ok ih hg ho hd h1 h2 h3 h4
      · cases h
    · cases h
  · cases h
theorem s_df {fe : Expr → Option Ex} {f : Str} {args : List Expr} {kws : List Keyword} {x : Ex} {p pos : Pos} (ok : COk X C c sc k) (ih : ∀ e x, fe e = some x → PE X e (tD C x)) (hg : glB sc f = true) (h : trDf fe f args kws = some x) : PE X (.Call (.Name f p) args kws pos) (tD C x) := by
  unfold trDf at h
  split at h
  · split at h
    · rename_i hn
      subst hn
      split at h
      · rename_i e' d' hA
        obtain ⟨a2, b2, eq, e2, e3, e4, e5⟩ := trA2 hA
        cases eq
        split at h
        · rename_i hf
          subst hf
          cases h
          exact pe_dfD ok (by decide) hg (by decide) ⟨_, by decide +kernel, cr_maxd ok.calm ok.room⟩ ok_maxd e4 (ih _ _ e2) (ih _ _ e3)
        split at h
        · rename_i hf
          subst hf
          cases h
          exact pe_dfD ok (by decide) hg (by decide) ⟨_, by decide +kernel, cr_mind ok.calm ok.room⟩ ok_mind e4 (ih _ _ e2) (ih _ _ e3)
        · cases h
      · cases h
    · cases h
  · cases h
theorem s_isi {fe : Expr → Option Ex} {f : Str} {args : List Expr} {kws : List Keyword} {x : Ex} {p pos : Pos} (ok : COk X C c sc k) (ih : ∀ e x, fe e = some x → PE X e (tD C x)) (hg : glB sc f = true) (h : trIsi fe sc f args kws = some x) : PE X (.Call (.Name f p) args kws pos) (tD C x) := by
  unfold trIsi at h
  split at h
  · rename_i e t pt hf
    split at h
    · rename_i t' l h1 h2 h3
      cases h
      have hf' := of_decide_eq_true hf
      subst hf'
      obtain ⟨a', rfl, e1, e2⟩ := trA1 h3
      exact pe_isiD ok hg h1 h2 e2 (ih e a' e1)
    · cases h
  · exact s_df ok ih hg h
theorem s_iter {fe : Expr → Option Ex} {tg iter : Expr} {it : Ex} (ok : COk X C c sc k) (ih : ∀ e x, fe e = some x → PE X e (tD C x)) (h : trI fe sc tg iter = some it) : PI X tg iter (tI C it) := by
  unfold trI at h
  split at h
  · rename_i g pg args pos
    split at h
    · rename_i hg
      simp only [Bool.and_eq_true, decide_eq_true_eq] at hg
      obtain ⟨hg, rfl⟩ := hg
      unfold trRng at h
      split at h
      · obtain ⟨l, e1, rfl⟩ := map_opt h
        exact pi_rng1 ok hg e1 ih
      · obtain ⟨l, e1, rfl⟩ := map_opt h
        exact pi_rng2 ok hg e1 ih
      · obtain ⟨l, e1, rfl⟩ := map_opt h
        exact pi_rng3 ok hg e1 ih
      · cases h
    split at h
    · rename_i hg
      simp only [Bool.and_eq_true, decide_eq_true_eq] at hg
      obtain ⟨hg, rfl⟩ := hg
      unfold trEnm at h
      split at h
      · obtain ⟨l, e1, rfl⟩ := map_opt h
        exact pi_enmD ok hg e1 ih
      · cases h
    split at h
    · rename_i hg
      simp only [Bool.and_eq_true, decide_eq_true_eq] at hg
      obtain ⟨hg, rfl⟩ := hg
      unfold trZip at h
      split at h
      · obtain ⟨l, e1, rfl⟩ := map_opt h
        exact pi_zipD ok hg e1 ih
      · cases h
    split at h
    · rename_i hg
      simp only [Bool.and_eq_true, decide_eq_true_eq] at hg
      obtain ⟨hg, rfl⟩ := hg
      unfold trRev at h
      split at h
      · obtain ⟨l, e1, rfl⟩ := map_opt h
        exact pi_revD2 ok hg e1 ih
      · cases h
    · exact pi_plainD ok (ih _ _ h)
  · exact pi_plainD ok (ih _ _ h)
theorem names_own {N : List Str} {md : List Bool} {dk : Nat} {scope : Scope} : ∀ (m : Nat) (e : Expr) (p : Pat), trP N md dk scope m e = some p → ∀ i ∈ p.names, i ∈ (ownOf N scope).map (·.2)
  | 0, e, p, h => by simp [trP] at h
  | m + 1, e, p, h => by
    match e, h with
    | .Name x pos, h =>
      simp only [trP] at h
      split at h
      · rename_i hv
        simp only [Bool.and_eq_true] at hv
        cases e1 : ixS N x with
        | none => rw [e1] at h; cases h
        | some i =>
          rw [e1] at h
          simp only [Option.bind_some] at h
          split at h
          · cases h
          · cases h
            intro j hj
            have : j = i := by simpa [Pat.names] using hj
            subst this
            have hl := hv.1
            unfold locB at hl
            have hmem : ∀ {kd : NameKind}, scope.names.lookup x = some kd → (x, kd) ∈ scope.names := by
              intro kd hk
              have : ∀ (l : List (Str × NameKind)), l.lookup x = some kd → (x, kd) ∈ l := by
                intro l
                induction l with
                | nil => intro h; cases h
                | cons q r ih =>
                  intro h
                  obtain ⟨y, ky⟩ := q
                  rw [List.lookup_cons] at h
                  cases e2 : x == y with
                  | true =>
                    rw [e2] at h
                    have : x = y := by simpa using e2
                    subst this
                    cases h
                    exact List.mem_cons_self
                  | false => rw [e2] at h; exact List.mem_cons_of_mem _ (ih h)
              exact this _ hk
            refine List.mem_map.mpr ⟨(x, j), ?_, rfl⟩
            unfold ownOf
            refine List.mem_filterMap.mpr ?_
            cases e3 : scope.names.lookup x with
            | none => rw [e3] at hl; cases hl
            | some kd =>
              rw [e3] at hl
              refine ⟨(x, kd), hmem e3, ?_⟩
              cases kd <;> first | (cases hl; done) | simp [e1]
      · cases h
    | .Tuple es j pos, h =>
      simp only [trP] at h
      have all : ∀ (es : List Expr) (p : Pat), trPs (trP N md dk scope m) es = some p → ∀ i ∈ p.names, i ∈ (ownOf N scope).map (·.2) := by
        intro es
        induction es with
        | nil => intro p h; cases h; intro i hi; cases hi
        | cons e es ihs =>
          intro p h
          unfold trPs at h
          split at h
          · cases e1 : trP N md dk scope m e <;> cases e2 : trPs (trP N md dk scope m) es <;> simp only [e1, e2] at h <;> try cases h
            intro i hi
            rcases List.mem_append.mp hi with z | z
            · exact names_own m e _ e1 i z
            · exact ihs _ e2 i z
          · cases h
      exact all es p h
end
section
variable {c : TrC} {k : Nat}
theorem chn_bl {Γ : Glo} {o p : Op} {a b d : Ex} {ρ : En} {δ δ' : Dice} {x : D} (h : ev Γ (.chn o p a b d) ρ δ = .ok x δ') : ∃ b, x = .bl b := by
  simp only [ev] at h
  cases e1 : ev Γ a ρ δ with
  | stk => rw [e1] at h; cases h
  | exc _ _ => rw [e1] at h; cases h
  | ok x1 δ1 =>
    rw [e1] at h
    simp only [Res.bind] at h
    cases e2 : ev Γ b ρ δ1 with
    | stk => rw [e2] at h; cases h
    | exc _ _ => rw [e2] at h; cases h
    | ok x2 δ2 =>
      rw [e2] at h
      simp only at h
      split at h
      · cases e3 : ev Γ d ρ δ2 with
        | stk => rw [e3] at h; cases h
        | exc _ _ => rw [e3] at h; cases h
        | ok x3 δ3 =>
          rw [e3] at h
          simp only at h
          split at h
          · cases h; exact ⟨_, rfl⟩
          · cases h
      · cases h; exact ⟨_, rfl⟩
      · cases h
theorem snd : ∀ (n : Nat) (sc : Scope) (e : Expr) (x : Ex), tr c n sc e = some x → ∀ (X : Cx) (C : Cz), COk X C c sc k → Both X C e x
  | 0, sc, e, x, h, X, C, ok => by simp [tr] at h
  | n + 1, sc, e, x, h, X, C, ok => by
    have ihP : ∀ (sc : Scope) (X : Cx) (C : Cz), COk X C c sc k → ∀ e x, tr c n sc e = some x → PE X e (tD C x) := fun sc X C ok e x h => (snd n sc e x h X C ok).1
    have ihT : ∀ (sc : Scope) (X : Cx) (C : Cz), COk X C c sc k → ∀ e x, tr c n sc e = some x → PT X e (tDT C x) := fun sc X C ok e x h => (snd n sc e x h X C ok).2
    unfold tr at h
    split at h
    case h_1 => cases h
    case h_2 => cases h; exact .plain (pe_cstD pe_non fun _ _ => rfl) (fun _ => rfl)
    case h_3 => cases h; exact .plain (pe_cstD pe_bl fun _ _ => rfl) (fun _ => rfl)
    case h_4 => cases h; exact .plain (pe_cstD pe_int fun _ _ => rfl) (fun _ => rfl)
    case h_5 =>
      split at h
      · rename_i hs
        cases h
        simp only [Bool.and_eq_true, List.all_eq_true, decide_eq_true_eq] at hs
        exact .plain (pe_cstD pe_str fun _ _ => ⟨rfl, by rw [szl]; omega, hs.1⟩) (fun _ => rfl)
      · cases h
    case h_6 =>
      rename_i x' pos heq
      cases heq
      split at h
      · cases h
      · rename_i ho
        have ho : oddName x' = false := by simpa using ho
        split at h
        · rename_i hv
          cases e1 : ixS c.N x' with
          | none => rw [e1] at h; cases h
          | some i =>
            rw [e1] at h
            simp only [Option.bind_some] at h
            split at h
            · cases h
            · cases h
              exact .plain (pe_varD ok (ixS_get e1) hv ho) (fun _ => rfl)
        · split at h
          · rename_i hg
            cases h
            exact .plain (pe_glbD ok hg ho) (fun _ => rfl)
          · cases h
    case h_7 =>
      rename_i heq
      cases heq
      split at h
      · rename_i o' l h1 h2
        cases h
        obtain ⟨a', b', rfl, e1, e2, _, _⟩ := trA2 h2
        exact .plain (pe_binD ok h1 (ihP _ X C ok _ _ e1) (ihP _ X C ok _ _ e2)) (fun _ => rfl)
      · cases h
    case h_8 =>
      rename_i heq
      cases heq
      obtain ⟨a', e1, rfl⟩ := map_opt h
      refine ⟨PE.to (PE.kd (pe_not (ihP _ X C ok _ _ e1))) fun σ H Q q => by rw [← ok.K]; exact tNotD q, PT.to (PT.kd (pt_not (ihT _ X C ok _ _ e1))) fun σ H Q q => by rw [← ok.K]; exact tNotT' q⟩
    case h_9 =>
      rename_i heq
      cases heq
      obtain ⟨l, e1, rfl⟩ := map_opt h
      obtain ⟨a', rfl, e2, _⟩ := trA1 e1
      refine .plain (PE.to (PE.kd (pe_un un_neg (ihP _ X C ok _ _ e2))) fun σ H Q q => ?_) (fun _ => rfl)
      rw [← ok.K]
      exact tD_eq1 (op_red ok_neg q)
    case h_10 =>
      rename_i heq
      cases heq
      exact ⟨sB ok (ihP _ X C ok) _ _ h, (sBT ok (ihT _ X C ok) _ _ h).pt⟩
    case h_11 =>
      rename_i heq
      cases heq
      split at h
      · rename_i o' l h1 h2
        cases h
        obtain ⟨a', b', rfl, e1, e2, _, e4⟩ := trA2 h2
        exact ⟨pe_cmpD ok h1 e4 (ihP _ X C ok _ _ e1) (ihP _ X C ok _ _ e2), pt_cmpD ok h1 e4 (ihP _ X C ok _ _ e1) (ihP _ X C ok _ _ e2)⟩
      · cases h
    case h_12 =>
      rename_i heq
      cases heq
      split at h
      · rename_i o' p' a' b' d' h1 h2 h3 h4 h5 h6
        cases h
        obtain ⟨r, g1, g2⟩ := cmp_ok (X := X) ok.room h1
        obtain ⟨r', g3, g4⟩ := cmp_ok (X := X) ok.room h2
        rw [← ok.K] at g2 g4
        refine ⟨PE.to (PE.kd (pe_chain g1 g3 (ihP _ X C ok _ _ h3) (ihP _ X C ok _ _ h4) (ihP _ X C ok _ _ h5) (mark_ok h6 _))) fun σ H Q q => ?_, PT.to (PT.kd (pt_chain g1 g3 (ihP _ X C ok _ _ h3) (ihP _ X C ok _ _ h4) (ihP _ X C ok _ _ h5) (mark_ok h6 _))) fun σ H Q q => ?_⟩
        · rw [← ok.K]
          refine tChD (R := Q) g2 g4 (fun b H' z => z) ?_
          obtain ⟨ρ, δ, M, S, q⟩ := q
          refine ⟨ρ, δ, M, S, ?_⟩
          cases e : ev C.Γ (.chn o' p' a' b' d') ρ δ with
          | stk => rw [e] at q; exact q
          | exc y δ' => rw [e] at q; exact q
          | ok d δ1 =>
            rw [e] at q
            obtain ⟨b, rfl⟩ := chn_bl e
            exact fun H' k x dc => q (.bl b) H' k x dc ⟨rfl, fun _ => rfl, fun _ => rfl, fun z => by simp [frs] at z⟩
        · rw [← ok.K]
          exact tChD (R := fun v H' => ∀ b, v = .bl b → Q b H') g2 g4 (fun b H' z => ⟨b, rfl, fun k => z k b rfl⟩) (by
            obtain ⟨ρ, δ, M, S, q⟩ := q
            refine ⟨ρ, δ, M, S, ?_⟩
            cases e : ev C.Γ (.chn o' p' a' b' d') ρ δ with
            | stk => rw [e] at q; exact q
            | exc y δ' => rw [e] at q; exact q
            | ok d δ1 =>
              rw [e] at q
              obtain ⟨b, rfl⟩ := chn_bl e
              exact fun H' k x dc b' eb => by cases eb; exact q H' k x dc)
      · cases h
    case h_13 =>
      rename_i heq
      cases heq
      split at h
      · rename_i t' a' b' h1 h2 h3
        cases h
        exact ⟨PE.to (PE.kd (pe_ifExp (ihT _ X C ok _ _ h1) (ihP _ X C ok _ _ h2) (ihP _ X C ok _ _ h3))) fun σ H Q q => by rw [← ok.K]; exact tIfD q, pt_ifD (ihT _ X C ok _ _ h1) (ihT _ X C ok _ _ h2) (ihT _ X C ok _ _ h3)⟩
      · cases h
    case h_14 =>
      rename_i heq
      cases heq
      obtain ⟨l, e1, rfl⟩ := map_opt h
      obtain ⟨a', rfl, e2, _⟩ := trA1 e1
      exact .plain (pe_slcD ok (ihP _ X C ok _ _ e2) po_none po_none fun σ H Q q => tD_eq1 q) (fun _ => rfl)
    case h_15 =>
      rename_i heq
      cases heq
      obtain ⟨l, e1, rfl⟩ := map_opt h
      obtain ⟨a', b', rfl, e2, e3, _, _⟩ := trA2 e1
      exact .plain (pe_slcD ok (ihP _ X C ok _ _ e2) (po_some (ihP _ X C ok _ _ e3)) po_none fun σ H Q q => tD_eq2 (R := fun x y H' => ∃ i, y = .int i ∧ rSlA X.K x (some i) none H' Q) (tDs_mono q fun vs H' ⟨x, i, e, z⟩ => ⟨x, .int i, e, i, rfl, z⟩)) (fun _ => rfl)
    case h_16 =>
      rename_i heq
      cases heq
      obtain ⟨l, e1, rfl⟩ := map_opt h
      obtain ⟨a', b', rfl, e2, e3, _, _⟩ := trA2 e1
      exact .plain (pe_slcD ok (ihP _ X C ok _ _ e2) po_none (po_some (ihP _ X C ok _ _ e3)) fun σ H Q q => tD_eq2 (R := fun x y H' => ∃ i, y = .int i ∧ rSlA X.K x none (some i) H' Q) (tDs_mono q fun vs H' ⟨x, i, e, z⟩ => ⟨x, .int i, e, i, rfl, z⟩)) (fun _ => rfl)
    case h_17 =>
      rename_i heq
      cases heq
      cases e1 : trA (tr c n _) [_, _, _] with
      | none => rw [e1] at h; cases h
      | some l =>
        rw [e1] at h
        simp only [Option.bind_some] at h
        split at h
        · rename_i hq
          cases h
          obtain ⟨a', b', d', rfl, e2, e3, e4⟩ := trA3 e1
          exact .plain (pe_slc3 ok hq (ihP _ X C ok _ _ e2) (ihP _ X C ok _ _ e3) (ihP _ X C ok _ _ e4)) (fun _ => rfl)
        · cases h
    case h_18 =>
      rename_i heq
      cases heq
      obtain ⟨g1, g2⟩ := s_more ok (ihP _ X C ok) h
      exact .plain g1 g2
    case h_19 =>
      rename_i heq
      cases heq
      split at h
      · rename_i i hd
        cases h
        exact .plain (pe_dgetD ok hd) (fun _ => rfl)
      split at h
      · rename_i e ht
        split at h
        · rename_i e' b' hA
          split at h
          · rename_i hq
            cases h
            obtain ⟨a2, b2, eq, e2, e3, e4, e5⟩ := trA2 hA
            cases eq
            obtain ⟨d, p, q, rfl, t1, t2, t3, t4, t5⟩ := tgI_some ht
            exact .plain (pe_tgetD ok t1 t2 t3 t4 t5 e5 hq (ihP _ X C ok _ _ e2) (ihP _ X C ok _ _ e3)) (fun _ => rfl)
          · cases h
        · cases h
      obtain ⟨l, e1, rfl⟩ := map_opt h
      obtain ⟨a', b', rfl, e2, e3, _, e5⟩ := trA2 e1
      refine .plain (PE.to (PE.kd (pe_ix ix_seq (ihP _ X C ok _ _ e2) (ihP _ X C ok _ _ e3) (plain_ix e5))) fun σ H Q q => ?_) (fun _ => rfl)
      rw [← ok.K]
      exact tOpD ok_idx q
    case h_20 =>
      rename_i heq
      cases heq
      obtain ⟨l, e1, rfl⟩ := map_opt h
      exact .plain (pe_lstD ok (sA (ihP _ X C ok) _ _ e1)) (fun _ => rfl)
    case h_21 =>
      rename_i heq
      cases heq
      obtain ⟨l, e1, rfl⟩ := map_opt h
      exact .plain (pe_tupD ok (sA (ihP _ X C ok) _ _ e1)) (fun _ => rfl)
    case h_22 =>
      rename_i elt tg iter ifs scope pos heq
      cases heq
      split at h
      · rename_i p it cd el h1 h2 h3 h4 h5 h6
        split at h
        · rename_i ht
          cases h
          simp only [Bool.and_eq_true, Bool.not_eq_true'] at h1
          refine .plain (pe_lcD ok h1.1 ?_ h6 ht (names_own 3 _ _ h2) (s_iter ok (ihP _ X C ok) h3) (fun D s H C0 cl fp => sP (ok.blk D s H scope C0 cl fp) 3 _ _ h2) (fun D s H C0 cl fp => ?_) (fun D s H C0 cl fp => ihP _ _ _ (ok.blk D s H scope C0 cl fp) _ _ h5)) (fun _ => rfl)
          · intro z
            have := List.contains_iff_mem.mpr z
            rw [h1.2] at this
            cases this
          · unfold trIfs at h4
            split at h4
            · cases h4
              refine ⟨fun pins s' σ H' Q I q => ?_⟩
              obtain ⟨ρ, δ, M, S, q⟩ := q
              exact pts_nil.run pins s' σ H' Q I (q H' S.kd (Ext.refl _ _) S.dice)
            · exact pts_one (ihT _ _ _ (ok.blk D s H scope C0 cl fp) _ _ h4)
            · cases h4
        · cases h
      · cases h
    case h_23 =>
      rename_i f p args kws pos heq
      cases heq
      split at h
      · rename_i hgo
        simp only [Bool.and_eq_true, Bool.not_eq_true'] at hgo
        obtain ⟨hg, ho⟩ := hgo
        split at h
        · rename_i o h1
          obtain ⟨l, e1, rfl⟩ := map_opt h
          obtain ⟨b1, b2, b3⟩ := bltF_ok (X := X) ok.calm ok.room h1
          match args, e1 with
          | [], e1 => exact absurd b3 (by decide)
          | e :: es, e1 => exact .plain (pe_bltD ok b1 b2 hg ho e1 (sA (ihP _ X C ok) _ _ e1)) (fun _ => rfl)
        · rename_i o h1 h2
          obtain ⟨l, e1, rfl⟩ := map_opt h
          obtain ⟨b1, b2, b3⟩ := bltT_ok (X := X) h2
          match args, e1 with
          | [], e1 => exact absurd b3 (by decide)
          | e :: es, e1 => exact .plain (pe_bltD ok b1 b2 hg ho e1 (sA (ihP _ X C ok) _ _ e1)) (fun _ => rfl)
        · split at h
          · exact .plain (s_isi ok (ihP _ X C ok) hg h) (fun _ => rfl)
          · exact .plain (s_call ok (ihP _ X C ok) hg ho h) (fun _ => rfl)
      · cases h
    case h_24 =>
      rename_i o m ap args cp heq
      cases heq
      split at h
      · rename_i hr
        have hr' : recvOk o = true ∧ (ap.endLine == cp.line) = true := by simpa using hr
        split at h
        · rename_i q h1
          obtain ⟨l, e1, rfl⟩ := map_opt h
          obtain ⟨a', rfl, e2, _⟩ := trA1 e1
          exact .plain (pe_m0D ok h1 hr'.1 hr'.2 (ihP _ X C ok _ _ e2)) (fun _ => rfl)
        · rename_i e q h1
          split at h
          · rename_i x hx
            cases h
            obtain ⟨g1, g2⟩ := s_more ok (ihP _ X C ok) hx
            exact .plain g1 g2
          cases e1 : trA (tr c n _) [o, e] with
          | none => rw [e1] at h; cases h
          | some l =>
            rw [e1] at h
            simp only [Option.bind_some] at h
            split at h
            · rename_i hm
              cases h
              obtain ⟨a', b', rfl, e2, e3, _, e5⟩ := trA2 e1
              exact .plain (pe_m1D ok h1 hr'.1 hr'.2 e5 hm (ihP _ X C ok _ _ e2) (ihP _ X C ok _ _ e3)) (fun _ => rfl)
            · cases h
        · obtain ⟨g1, g2⟩ := s_more ok (ihP _ X C ok) h
          exact .plain g1 g2
      · cases h
    case h_25 =>
      cases (‹n + 1 = Nat.succ _›)
      obtain ⟨g1, g2⟩ := s_more ok (ihP _ X C ok) h
      exact .plain g1 g2
end
end DC
set_option Elab.async false
set_option linter.all false
set_option maxRecDepth 100000
set_option maxHeartbeats 2000000
namespace DC
open PySem PySem.Spec L2
inductive Sm where
  | skip
  | seq (a b : Sm)
  | asg (i : Nat) (x : Ex)
  | unp (p : Pat) (x : Ex)
  | par (is : List Nat) (x : Ex)
  | app (i : Nat) (x : Ex)
  | iff (t : Ex) (a b : Sm)
  | fr (p : Pat) (it : Ex) (b : Sm)
  | whl (t : Ex) (b : Sm)
  | ret (x : Ex)
  | retN
  | rai (cls : Str)
  | exp (x : Ex)
  | cont
  | dset (i : Nat) (x : Ex)
  | tset (a b x : Ex)
  | lset (i : Nat) (k x : Ex)
  | bad
inductive Out where
  | nx (ρ : En) (δ : Dice)
  | ct (ρ : En) (δ : Dice)
  | rt (d : D) (δ : Dice)
  | ex (x : Exc) (δ : Dice)
  | stk
@[reducible] def Res.out (r : Res D) (f : D → Dice → Out) : Out := match r with
  | .ok d δ => f d δ
  | .exc x δ => .ex x δ
  | .stk => .stk
def putS (Γ : Glo) (md : List Bool) (i : Nat) (x : Ex) (d : D) (ρ : En) : Option En :=
  if md.getD i false then (match frs Γ md x, d with
    | true, .lst _ => some (ρ.set i (some d))
    | _, _ => none)
  else if cln md x || d.flat then some (ρ.set i (some d)) else none
def putP (Γ : Glo) (md : List Bool) : List Nat → Ex → List D → En → Option En
  | [], .nil, [], ρ => some ρ
  | i :: is, .cons x xs, d :: ds, ρ => match putS Γ md i x d ρ with
    | some ρ' => putP Γ md is xs ds ρ'
    | none => none
  | _, _, _, _ => none
def forL (p : Pat) (fb : En → Dice → Out) : List D → En → Dice → Out
  | [], ρ, δ => .nx ρ δ
  | d :: ds, ρ, δ => match bindP p d ρ with
    | none => .stk
    | some ρ1 => match fb ρ1 δ with
      | .nx ρ2 δ2 => forL p fb ds ρ2 δ2
      | .ct ρ2 δ2 => forL p fb ds ρ2 δ2
      | .rt d δ2 => .rt d δ2
      | .ex x δ2 => .ex x δ2
      | .stk => .stk
def whlN (ft : En → Dice → Res D) (fb : En → Dice → Out) : Nat → En → Dice → Out
  | 0, _, _ => .stk
  | n + 1, ρ, δ => (ft ρ δ).out fun d δ1 => match d with
    | .bl true => match fb ρ δ1 with
      | .nx ρ2 δ2 => whlN ft fb n ρ2 δ2
      | .ct ρ2 δ2 => whlN ft fb n ρ2 δ2
      | .rt d δ2 => .rt d δ2
      | .ex x δ2 => .ex x δ2
      | .stk => .stk
    | .bl false => .nx ρ δ1
    | _ => .stk
def retOk (Γ : Glo) (md : List Bool) (fr : Bool) (x : Ex) : Bool := !fr || frs Γ md x || (match x with | .var i => md.getD i false | _ => false)
def exS (Γ : Glo) (md : List Bool) (fr : Bool) (n : Nat) : Sm → En → Dice → Out
  | .skip, ρ, δ => .nx ρ δ
  | .seq a b, ρ, δ => match exS Γ md fr n a ρ δ with
    | .nx ρ' δ' => exS Γ md fr n b ρ' δ'
    | o => o
  | .asg i x, ρ, δ => (ev Γ x ρ δ).out fun d δ1 => match putS Γ md i x d ρ with
    | some ρ' => .nx ρ' δ1
    | none => .stk
  | .unp p x, ρ, δ => (ev Γ x ρ δ).out fun d δ1 => if cln md x || d.flat then (match bindP p d ρ with
      | some ρ' => .nx ρ' δ1
      | none => .stk) else .stk
  | .par is x, ρ, δ => (ev Γ x ρ δ).out fun d δ1 => match d with
    | .tup ds => (match putP Γ md is x ds ρ with
      | some ρ' => .nx ρ' δ1
      | none => .stk)
    | _ => .stk
  | .app i x, ρ, δ => match md.getD i false, ρ[i]? with
    | true, some (some (.lst ds)) => (ev Γ x ρ δ).out fun d δ1 => if (cln md x || d.flat) && decide (ds.length < 16777216) then .nx (ρ.set i (some (.lst (ds ++ [d])))) δ1 else .stk
    | _, _ => .stk
  | .iff t a b, ρ, δ => (ev Γ t ρ δ).out fun d δ1 => match d with
    | .bl true => exS Γ md fr n a ρ δ1
    | .bl false => exS Γ md fr n b ρ δ1
    | _ => .stk
  | .fr p it b, ρ, δ => if cln md it then (ev Γ it ρ δ).out fun d δ1 => (match d.items with
      | some ds => forL p (exS Γ md fr n b) ds ρ δ1
      | none => .stk) else .stk
  | .whl t b, ρ, δ => whlN (ev Γ t) (exS Γ md fr n b) n ρ δ
  | .ret x, ρ, δ => if retOk Γ md fr x then (ev Γ x ρ δ).out fun d δ1 => .rt d δ1 else .stk
  | .retN, _, δ => if fr then .stk else .rt .non δ
  | .rai cls, _, δ => .ex ⟨cls, none⟩ δ
  | .exp x, ρ, δ => (ev Γ x ρ δ).out fun _ δ1 => .nx ρ δ1
  | .cont, ρ, δ => .ct ρ δ
  | .dset i x, ρ, δ => (ev Γ x ρ δ).out fun d δ1 => match d with
    | .int v => .nx ρ (if i = 0 then (v, δ1.2) else (δ1.1, v, δ1.2.2))
    | _ => .stk
  | .tset a b x, ρ, δ => (ev Γ x ρ δ).out fun d δ1 => (ev Γ a ρ δ1).out fun i δ2 => (ev Γ b ρ δ2).out fun j δ3 => match d, i, j with
    | .int v, .int i, .int j => if δ3.2.2.length = δ2.2.2.length then (match tabS δ3.2.2 i j v with
      | some t => .nx ρ (δ3.1, δ3.2.1, t)
      | none => .stk) else .stk
    | _, _, _ => .stk
  | .lset i k x, ρ, δ => (ev Γ x ρ δ).out fun d δ1 => (ev Γ k ρ δ1).out fun kk δ2 => match md.getD i false, ρ[i]?, kk with
    | true, some (some (.lst ds)), .int n => (match ixN ds.length n with
      | some m => if cln md x || d.flat then .nx (ρ.set i (some (.lst (ds.set m d)))) δ2 else .stk
      | none => .stk)
    | _, _, _ => .stk
  | .bad, _, _ => .stk
def runF (Γ : Glo) (md : List Bool) (fr : Bool) (N : Nat) (dice : Bool) (s : Sm) (n : Nat) (ds : List D) (δ : Dice) : Res D :=
  match exS Γ md fr n s ((if dice then [none] else []) ++ ds.map some ++ List.replicate (N - ds.length - (if dice then 1 else 0)) none) δ with
  | .nx _ δ' => if fr then .stk else .ok .non δ'
  | .rt d δ' => .ok d δ'
  | .ex x δ' => .exc x δ'
  | _ => .stk

def isVar : Ex → Bool
  | .var _ => true
  | _ => false
def notTup : Expr → Bool
  | .Tuple _ _ _ => false
  | _ => true
def simpE : Expr → Bool
  | .ListComp _ _ _ _ => false
  | .SetComp _ _ _ _ => false
  | .DictComp _ _ _ _ _ => false
  | _ => true
def nmIx (N : List Str) (dk : Nat) (sc : Scope) : List Expr → Option (List Nat)
  | [] => some []
  | .Name x _ :: es => if locB sc x && !oddName x then (match ixS N x, nmIx N dk sc es with
      | some i, some r => if i = dk then none else some (i :: r)
      | _, _ => none) else none
  | _ => none
def isLoc (sc : Scope) (x : Str) : Bool := match sc.names.lookup x with
  | some .local => true
  | _ => false
def swN (sc : Scope) (ts : List Expr) : List Str :=
  ts.filterMap fun | .Name id pos => (if isLoc sc id && pos.line == (ts.head?.map (·.pos.line)).getD 0 then some id else none) | _ => none
def swB (sc : Scope) (ts vs : List Expr) : Option Bool :=
  if !(ts.length == 2 || ts.length == 3) || vs.length != ts.length then some false
  else if (swN sc ts).length != ts.length || (swN sc ts).eraseDups.length != (swN sc ts).length then some false
  else if vs.all (foldedForSure 8) then some false
  else if vs.all (constantsAlone 8) then none
  else some true
def lsI (c : TrC) (sc : Scope) : Expr → Option Nat
  | .Name x _ => if visB sc x && !oddName x then (ixS c.N x).bind (fun i => if i = c.dk then none else some i) else none
  | _ => none
def trS (c : TrC) (sc : Scope) (ex : Str → Bool) : Nat → Stmt → Option Sm
  | 0, _ => none
  | _ + 1, .Pass _ => some .skip
  | _ + 1, .Continue _ => some .cont
  | _ + 1, .Return none _ => some .retN
  | _ + 1, .Return (some (.Name x _)) _ => if oddName x then none else if visB sc x then (ixS c.N x).bind (fun i => if i = c.dk then none else some (.ret (.var i))) else if glB sc x then some (.ret (.glb x)) else none
  | _ + 1, .Return (some e) _ => (tr c 30 sc e).bind fun e' => if isVar e' then none else some (.ret e')
  | _ + 1, .Expr (.Call (.Attribute (.Name x _) m ap) [e] [] cp) _ =>
    if m = "append" then (match visB sc x && !oddName x && (ap.endLine == cp.line) && plainE e, ixS c.N x, tr c 30 sc e with
      | true, some i, some e' => if i = c.dk then none else some (.app i e')
      | _, _, _ => none) else none
  | _ + 1, .Expr (.Call (.Name f p) args kws pos) _ => (tr c 30 sc (.Call (.Name f p) args kws pos)).map .exp
  | _ + 1, .Assign [.Name x _] (.ListComp elt [⟨tg, iter, ifs, 0⟩] scope cpos) spos => if locB sc x && !oddName x then (match ixS c.N x, tr c 30 sc (.ListComp elt [⟨tg, iter, ifs, 0⟩] scope cpos) with
      | some i, some e' => if i = c.dk then none else some (.asg i e')
      | _, _ => none) else none
  | _ + 1, .Assign [.Name x _] e _ => if locB sc x && !oddName x && simpE e then (match ixS c.N x, tr c 30 sc e with
      | some i, some e' => if i = c.dk then none else some (.asg i e')
      | _, _ => none) else none
  | _ + 1, .Assign [.Tuple ts j tp] (.Tuple vs j' vp) _ => match nmIx c.N c.dk sc ts, trA (tr c 30 sc) vs, swB sc ts vs with
    | some is, some l, some _ => if is.length == vs.length && decide is.Nodup && decide (is.length ≤ 100) then some (.par is l) else none
    | _, _, _ => none
  | _ + 1, .Assign [.Tuple ts j tp] e _ => match plainE e && simpE e, trP c.N c.md c.dk sc 3 (.Tuple ts j tp), tr c 30 sc e with
    | true, some p, some e' => some (.unp p e')
    | _, _, _ => none
  | _ + 1, .Assign [.Subscript a b _] e _ => match dgI c sc a b, simpE e && notTup e, tr c 30 sc e with
    | some i, true, some e' => some (.dset i e')
    | none, true, some e' => (match tgI c sc a with
      | some a2 => (match tr c 30 sc a2, tr c 30 sc b, plainE b with
        | some a', some b', true => if quiet a' && quiet b' then some (.tset a' b' e') else none
        | _, _, _ => none)
      | none => (match lsI c sc a, tr c 30 sc b, plainE b with
        | some i, some b', true => if quiet b' then some (.lset i b' e') else none
        | _, _, _ => none))
    | _, _, _ => none
  | n + 1, .If t a b _ => match tr c 30 sc t, trSs (trS c sc ex n) a, trSs (trS c sc ex n) b with
    | some t', some a', some b' => some (.iff t' a' b')
    | _, _, _ => none
  | n + 1, .For tg it b [] _ => match plainE it, trP c.N c.md c.dk sc 3 tg, trI (tr c 30 sc) sc tg it, trSs (trS c sc ex n) b with
    | true, some p, some it', some b' => some (.fr p it' b')
    | _, _, _, _ => none
  | n + 1, .While t b [] _ => match tr c 30 sc t, trSs (trS c sc ex n) b with
    | some t', some b' => some (.whl t' b')
    | _, _ => none
  | _ + 1, .Raise (some (.Call (.Name x _) [.Constant (.str _) _ _] [] _)) none _ => if ex x && glB sc x && !oddName x then some (.rai x) else none
  | _, _ => none
where trSs (f : Stmt → Option Sm) : List Stmt → Option Sm
  | [] => some .skip
  | s :: r => match f s, trSs f r with
    | some a, some b => some (.seq a b)
    | none, some b => some (.seq .bad b)
    | _, _ => none
end DC
set_option Elab.async false
set_option linter.all false
set_option maxRecDepth 100000
set_option maxHeartbeats 2000000
namespace DC
open PySem PySem.Spec L2
structure Rel (M : MS) (H : Hp) (M' : MS) (H' : Hp) : Prop where
  ext : Ext M H H'
  new : ∀ a, M' a → M a ∨ H a = none
theorem Rel.refl (M : MS) (H : Hp) : Rel M H M H := ⟨Ext.refl _ _, fun _ h => .inl h⟩
theorem Rel.trans {M M1 M2 : MS} {H H1 H2 : Hp} (a : Rel M H M1 H1) (b : Rel M1 H1 M2 H2) : Rel M H M2 H2 where
  ext := ⟨fun x o h n t => b.ext.keep x o (a.ext.keep x o h n t) (fun z => (a.new x z).elim n fun w => by rw [h] at w; cases w) t, fun x ps h => by
    obtain ⟨p1, h1⟩ := a.ext.tbl x ps h
    exact b.ext.tbl x p1 h1, fun x ps h n => b.ext.tb x ps (a.ext.tb x ps h n) (fun z => (a.new x z).elim n fun w => by rw [h] at w; cases w)⟩
  new := fun x z => by
    rcases b.new x z with w | w
    · exact a.new x w
    · by_cases hm : M x
      · exact .inl hm
      · exact .inr (a.ext.free w hm)
section
variable {K : PySem.W.Frag} {M M' : MS} {H H' : Hp}
mutual
theorem Rp.rel (r : Rel M H M' H') (hT : ∀ a vs, Rd H a (.tup vs) → ¬ M a) : ∀ (d : D) (v : V), Rp K M H d v → Rp K M' H' d v
  | .non, _, h => h
  | .bl _, _, h => h
  | .int _, _, h => h
  | .str _, _, h => h
  | .lst ds, v, h => by
    obtain ⟨a, vs, e, hr, hn, hl, hs⟩ := h
    exact ⟨a, vs, e, r.ext.keep a _ hr hn (fun _ z => nomatch z), fun z => (r.new a z).elim hn (fun w => by rw [hr] at w; cases w), hl, Rps.rel r hT ds vs hs⟩
  | .tup ds, v, h => by
    obtain ⟨a, vs, e, hr, hl, hs⟩ := h
    refine ⟨a, vs, e, ?_, hl, Rps.rel r hT ds vs hs⟩
    rcases hr with hr | hr
    · exact .inl (r.ext.rd hr (hT a vs hr) (fun _ z => nomatch z))
    · exact .inr hr
  | .dic ks ds, v, h => by
    obtain ⟨a, vs, e, hr, hn, hk, hl, hs⟩ := h
    exact ⟨a, vs, e, r.ext.keep a _ hr hn (fun _ z => nomatch z), fun z => (r.new a z).elim hn (fun w => by rw [hr] at w; cases w), hk, hl, Rps.rel r hT ds vs hs⟩
  | .scr ns, v, h => by
    obtain ⟨a, e, hr, hn, hl⟩ := h
    refine ⟨a, e, ?_, fun z => ?_, hl⟩
    · rcases hr with hr | hr
      · by_cases hm : M a
        · exact .inr (hn hm)
        · exact .inl (r.ext.rd hr hm (fun _ z => nomatch z))
      · exact .inr hr
    · rcases hr with hr | hr
      · rcases r.new a z with w | w
        · exact hn w
        · rcases hr with hr | ⟨o, hr⟩ <;> rw [w] at hr <;> cases hr
      · exact hr
theorem Rps.rel (r : Rel M H M' H') (hT : ∀ a vs, Rd H a (.tup vs) → ¬ M a) : ∀ (ds : List D) (vs : List V), Rps K M H ds vs → Rps K M' H' ds vs
  | [], _, h => h
  | d :: ds, _, h => by
    obtain ⟨v, s, e, h1, h2⟩ := h
    exact ⟨v, s, e, Rp.rel r hT d v h1, Rps.rel r hT ds s h2⟩
end
end
def BadS (C : Cz) (y : Exc) (δ' : Dice) : Prop := ∀ cls dd H', Ext C.pds C.H0 H' → DiceAt C δ' H' → ExcIs C.mg C.K C.Mc H' y cls dd → C.E cls dd H'
def EndO (C : Cz) (M : MS) (H : Hp) (D : Ends) : Out → Prop
  | .nx ρ' δ' => ∀ σ' H' M', Stt C M' ρ' δ' σ' H' → Rel M H M' H' → D.nx σ' H'
  | .ct ρ' δ' => ∀ σ' H' M', Stt C M' ρ' δ' σ' H' → Rel M H M' H' → D.ct σ' H'
  | .rt d δ' => ∀ v H', KD C.K H' → Ext C.pds C.H0 H' → DiceAt C δ' H' → Rp C.K C.Mc H' d v → (C.fr = true → Fresh C.K C.Mc C.H0 H' d v) → D.rt v H'
  | .ex y δ' => BadS C y δ'
  | .stk => False
def tS (C : Cz) (s : Sm) : TS := fun D σ H => ∃ ρ δ M n, Stt C M ρ δ σ H ∧ EndO C M H D (exS C.Γ C.md C.fr n s ρ δ)
section
variable {C : Cz} {M M' : MS} {ρ : En} {δ δ' : Dice} {σ : St} {H H' : Hp} {D : Ends}
theorem EndO.rel {o : Out} (r : Rel M H M' H') (h : EndO C M H D o) : EndO C M' H' D o := by
  cases o with
  | nx ρ' δ' => exact fun σ' H2 M2 S r' => h σ' H2 M2 S (r.trans r')
  | ct ρ' δ' => exact fun σ' H2 M2 S r' => h σ' H2 M2 S (r.trans r')
  | rt d δ' => exact h
  | ex y δ' => exact h
  | stk => exact h
theorem BadS.at_ {y : Exc} (S : Stt C M ρ δ σ H) (b : BadS C y δ') : Bad C y δ' H := fun cls dd H' x dc e => b cls dd H' (S.ext.trans x) dc e
theorem Stt.toM (S : Stt C M ρ δ σ H) (x : Ext C.pds H H') : Rel M H M H' := ⟨x.mono fun a z => S.sub a (S.pdM a z), fun _ h => .inl h⟩
theorem Stt.rd (S : Stt C M ρ δ σ H) : ∀ a vs, Rd H a (.tup vs) → ¬ M a := fun a vs r => S.mok.tup r
theorem Stt.grow {p : Addr} {us : List V} (S : Stt C M ρ δ σ H) (hp : H p = none) (x : Ext C.pds H H') (dc : DiceAt C δ' H') (kd : KD C.K H') (h' : H' p = some (.lst us)) : Stt C (orAt M p) ρ δ' σ H' := by
  have S' := S.step x dc kd
  have hpp : ¬ C.pds p := fun z => by obtain ⟨o, e⟩ := S.dice.some_ p z; rw [e] at hp; cases hp
  have up : ∀ {d : DC.D} {v : V}, Rp C.K M H d v → Rp C.K (orAt M p) H' d v := fun h => Rp.ext x (fun a z => .inl (S.sub a (S.pdM a z))) (fun a vs r z => S.mokc.tup r (S.pdM a z)) _ _ (Rp.free hp _ _ h)
  have ups : ∀ {d : List DC.D} {v : List V}, Rps C.K M H d v → Rps C.K (orAt M p) H' d v := fun h => Rps.ext x (fun a z => .inl (S.sub a (S.pdM a z))) (fun a vs r z => S.mokc.tup r (S.pdM a z)) _ _ (Rps.free hp _ _ h)
  exact {
    sub := fun a z => .inl (S.sub a z)
    mok := fun a z => by
      rcases z with z | z
      · exact S'.mok a z
      · rw [z]; exact .inl ⟨us, h'⟩
    new := fun a z => by
      rcases z with z | z
      · exact S.new a z
      · rw [z]; exact .inr (S.ext.free hp hpp)
    ext := S'.ext
    dice := dc
    dpl := S.dpl
    tpl := S.tpl
    Tpl := S.Tpl
    slot := fun i d e => by
      obtain ⟨v, q1, q2, q3, q4, q5⟩ := S.slot i d e
      obtain ⟨v', w1, w2, w3, w4, w5⟩ := S'.slot i d e
      rw [q1] at w1; cases w1
      refine ⟨v, q1, w2, ?_, fun z => up (q4 z), fun z => ?_⟩
      · cases d with
        | lst ds =>
          obtain ⟨a, vs, rfl, hr, hl, hs⟩ := q3
          obtain ⟨a', vs', e', hr', _⟩ := w3
          cases e'
          obtain ⟨a2, vs2, e2, _, hn2, _⟩ := q2
          cases e2
          rw [x.keep a _ hr (fun z => hn2 (S.pdM a z)) (fun _ z => nomatch z)] at hr'
          cases hr'
          exact ⟨a, vs, rfl, x.keep a _ hr (fun z => hn2 (S.pdM a z)) (fun _ z => nomatch z), hl, ups hs⟩
        | dic ks ds =>
          obtain ⟨a, vs, rfl, hr, hk, hl, hs⟩ := q3
          obtain ⟨a2, vs2, e2, _, hn2, _⟩ := q2
          cases e2
          exact ⟨a, vs, rfl, x.keep a _ hr (fun z => hn2 (S.pdM a z)) (fun _ z => nomatch z), hk, hl, ups hs⟩
        | non => exact up q3
        | bl _ => exact up q3
        | int _ => exact up q3
        | str _ => exact up q3
        | tup _ => exact up q3
        | scr _ => exact up q3
      · obtain ⟨a, ds, rfl, rfl, h1, h2⟩ := q5 z
        exact ⟨a, ds, rfl, rfl, .inl h1, h2⟩
    dist := S.dist
    len := S.len
    kd := kd }
theorem Stt.setM {p : Addr} {us : List V} {es : List DC.D} {i : Nat} (S : Stt C M ρ δ σ H) (hm : C.md.getD i false = true) (hk : i ≠ C.kd) (hp : H p = some (.lst us)) (hM : M p) (hc : ¬ C.Mc p) (hl : es.length ≤ sizeLine) (hs : Rps C.K M H es us)
    (hd : ∀ (j : Nat) d, j ≠ i → C.md.getD j false = true → ρ[j]? = some (some d) → σ[j]? ≠ some (some (.ref p))) : Stt C M (ρ.set i (some (.lst es))) δ (σ.set i (some (.ref p))) H where
  sub := S.sub
  mok := S.mok
  new := S.new
  ext := S.ext
  dice := S.dice
  dpl := fun a z => ⟨(S.dpl a z).1, by rw [List.getElem?_set_ne hk]; exact (S.dpl a z).2⟩
  tpl := fun ta ras z => ⟨by rw [List.getElem?_set_ne hk]; exact (S.tpl ta ras z).1, (S.tpl ta ras z).2⟩
  Tpl := S.Tpl
  slot := fun j e hj => by
    by_cases hij : i = j
    · subst hij
      have hl' : i < ρ.length := by
        have := (List.getElem?_eq_some_iff.mp hj).1
        simpa using this
      rw [List.getElem?_set_self hl'] at hj
      cases hj
      rw [List.getElem?_set_self (by rw [← S.len]; exact hl')]
      exact ⟨.ref p, rfl, ⟨p, us, rfl, hp, hc, hl, Rps.mono S.sub _ _ hs⟩, ⟨p, us, rfl, hp, hl, hs⟩, (fun z => by rw [hm] at z; cases z), fun _ => ⟨p, es, rfl, rfl, hM, hc⟩⟩
    · rw [List.getElem?_set_ne hij] at hj ⊢
      exact S.slot j e hj
  dist := fun a b d' e' v' ha hb hab h3 h4 h5 h6 => by
    have hlσ : ∀ {j : Nat} {d : DC.D}, (ρ.set i (some (.lst es)))[j]? = some (some d) → j = i → i < σ.length := fun {j d} h e => by
      subst e
      have := (List.getElem?_eq_some_iff.mp h).1
      rw [← S.len]; simpa using this
    by_cases e1 : a = i
    · subst e1
      have hlen := hlσ h3 rfl
      rw [List.getElem?_set_self hlen] at h5
      cases h5
      have n2 : b ≠ a := Ne.symm hab
      rw [List.getElem?_set_ne (Ne.symm n2)] at h4 h6
      exact hd b e' n2 hb h4 h6
    · by_cases e2 : b = i
      · subst e2
        have hlen := hlσ h4 rfl
        rw [List.getElem?_set_self hlen] at h6
        cases h6
        rw [List.getElem?_set_ne (Ne.symm e1)] at h3 h5
        exact hd a d' e1 ha h3 h5
      · rw [List.getElem?_set_ne (Ne.symm e1)] at h3 h5
        rw [List.getElem?_set_ne (Ne.symm e2)] at h4 h6
        exact S.dist a b d' e' v' ha hb hab h3 h4 h5 h6
  len := by simpa using S.len
  kd := S.kd
theorem putS_ok {i : Nat} {x : Ex} {d : DC.D} {v : V} {ρ' : En} (S : Stt C M ρ δ σ H) (k1 : KD C.K H') (x1 : Ext C.pds H H') (dc1 : DiceAt C δ' H') (V1 : Val C M x H H' d v) (hk : i ≠ C.kd) (h : putS C.Γ C.md i x d ρ = some ρ') :
    ∃ M', Stt C M' ρ' δ' (σ.set i (some v)) H' ∧ Rel M H M' H' := by
  have S1 := S.step x1 dc1 k1
  unfold putS at h
  split at h
  · rename_i hm
    split at h
    · rename_i es hf
      cases h
      obtain ⟨p, us, rfl, e2, e3, e4, e5⟩ := V1.fr hf es rfl
      have S2 := S.grow e2 x1 dc1 k1 e3
      obtain ⟨p', us', ep, hr, hn, _⟩ := V1.rc
      cases ep
      refine ⟨orAt M p, S2.setM hm hk e3 (.inr rfl) hn e4 e5 (fun j d hj hmj hρ hσ => ?_), (S.toM x1).ext, fun a z => ?_⟩
      · obtain ⟨v, q1, q2, _⟩ := S.slot j d hρ
        rw [hσ] at q1
        cases q1
        obtain ⟨v2, w1, w2, w3, w4, w5⟩ := S.slot j d hρ
        rw [hσ] at w1; cases w1
        obtain ⟨a, ds, ea, rfl, _⟩ := w5 hmj
        cases ea
        obtain ⟨a', vs', ea', hr', _⟩ := q2
        cases ea'
        rw [e2] at hr'; cases hr'
      · rcases z with z | z
        · exact .inl z
        · rw [z]; exact .inr e2
    · cases h
  · rename_i hm
    have hm : C.md.getD i false = false := by simpa using hm
    split at h
    · rename_i hcf
      cases h
      have r2 : Rp C.K M H' d v := by
        rw [Bool.or_eq_true] at hcf
        rcases hcf with hc | hf
        · exact V1.cl hc
        · exact Rp.flat d v hf V1.rc
      exact ⟨M, S1.setI hm hk V1.rc r2, S.toM x1⟩
    · cases h
theorem Stt.more {i : Nat} {a : Addr} {ds : List DC.D} {vs : List V} {d : DC.D} {y : V} (S : Stt C M ρ δ σ H) (hm : C.md.getD i false = true) (hρ : ρ[i]? = some (some (.lst ds))) (hσ : σ[i]? = some (some (.ref a))) (ha : H a = some (.lst vs)) (hd : Rp C.K M H d y) (hl : ds.length < sizeLine) :
    Stt C M (ρ.set i (some (.lst (ds ++ [d])))) δ σ (upd H a (.lst (vs ++ [y]))) ∧ Rel M H M (upd H a (.lst (vs ++ [y]))) := by
  obtain ⟨v0, q1, q2, q3, q4, q5⟩ := S.slot i _ hρ
  rw [hσ] at q1; cases q1
  obtain ⟨a0, ds0, e0, e1, hM, hc⟩ := q5 hm
  cases e0; cases e1
  obtain ⟨a1, vs1, e1, hr, hl1, hs⟩ := q3
  cases e1
  rw [ha] at hr; cases hr
  have x : Ext (fun b => b = a) H (upd H a (.lst (vs ++ [y]))) := Ext.write (P := fun b => b = a) rfl ha (fun _ z => nomatch z)
  have hP : ∀ b, b = a → M b := fun b z => by rw [z]; exact hM
  have hT : ∀ b ws, Rd H b (.tup ws) → ¬ (b = a) := fun b ws r z => S.mok.tup r (hP b z)
  have up : ∀ {d : DC.D} {v : V}, Rp C.K M H d v → Rp C.K M (upd H a (.lst (vs ++ [y]))) d v := fun h => Rp.ext x hP hT _ _ h
  have ups : ∀ {d : List DC.D} {v : List V}, Rps C.K M H d v → Rps C.K M (upd H a (.lst (vs ++ [y]))) d v := fun h => Rps.ext x hP hT _ _ h
  have hpd : ¬ C.pds a := fun z => hc (S.pdM a z)
  have h0 : C.H0 a = none := by
    rcases S.new a hM with z | z
    · exact absurd z hc
    · exact z
  refine ⟨?_, ⟨x.mono hP, fun _ z => .inl z⟩⟩
  exact {
    sub := S.sub
    mok := fun b z => by
      by_cases hb : b = a
      · rw [hb]; exact .inl ⟨_, upd_same⟩
      · rw [upd_ne hb]; exact S.mok b z
    new := S.new
    ext := S.ext.updN h0
    dice := S.dice.write ha hpd
    dpl := S.dpl
    tpl := S.tpl
    Tpl := S.Tpl
    slot := fun j e hj => by
      by_cases hij : i = j
      · subst hij
        have hl' : i < ρ.length := by
          have := (List.getElem?_eq_some_iff.mp hj).1
          simpa using this
        rw [List.getElem?_set_self hl'] at hj
        cases hj
        have hs' : Rps C.K M (upd H a (.lst (vs ++ [y]))) (ds ++ [d]) (vs ++ [y]) := (ups hs).append ⟨y, [], rfl, up hd, rfl⟩
        have hl2 : (ds ++ [d]).length ≤ sizeLine := by rw [List.length_append]; exact hl
        exact ⟨.ref a, hσ, ⟨a, _, rfl, upd_same, hc, hl2, Rps.mono S.sub _ _ hs'⟩, ⟨a, _, rfl, upd_same, hl2, hs'⟩, (fun z => by rw [hm] at z; cases z), fun _ => ⟨a, _, rfl, rfl, hM, hc⟩⟩
      · rw [List.getElem?_set_ne hij] at hj
        obtain ⟨v, w1, w2, w3, w4, w5⟩ := S.slot j e hj
        cases hmj : C.md.getD j false with
        | false =>
          have r := up (w4 hmj)
          exact ⟨v, w1, Rp.mono S.sub _ _ r, r.top, fun _ => r, fun z => nomatch z⟩
        | true =>
          obtain ⟨b, es, rfl, rfl, hMb, hcb⟩ := w5 hmj
          have hba : b ≠ a := fun z => by
            subst z
            exact S.dist i j _ _ _ hm hmj hij hρ hj hσ w1
          obtain ⟨b', ws, eb, hr, hlb, hsb⟩ := w3
          cases eb
          have hr' : (upd H a (.lst (vs ++ [y]))) b = some (.lst ws) := by rw [upd_ne hba]; exact hr
          exact ⟨.ref b, w1, ⟨b, ws, rfl, hr', hcb, hlb, Rps.mono S.sub _ _ (ups hsb)⟩, ⟨b, ws, rfl, hr', hlb, ups hsb⟩, (fun z => nomatch z), fun _ => ⟨b, es, rfl, rfl, hMb, hcb⟩⟩
    dist := fun j l d' e' v' hj hl hjl h3 h4 h5 h6 => by
      have get : ∀ {j : Nat} {d : DC.D}, (ρ.set i (some (.lst (ds ++ [d]))))[j]? = some (some d') → ∃ e, ρ[j]? = some (some e) := fun {j d} h => by
        by_cases hij : i = j
        · subst hij; exact ⟨_, hρ⟩
        · rw [List.getElem?_set_ne hij] at h; exact ⟨_, h⟩
      have get' : ∀ {j : Nat} {d : DC.D}, (ρ.set i (some (.lst (ds ++ [d]))))[j]? = some (some e') → ∃ e, ρ[j]? = some (some e) := fun {j d} h => by
        by_cases hij : i = j
        · subst hij; exact ⟨_, hρ⟩
        · rw [List.getElem?_set_ne hij] at h; exact ⟨_, h⟩
      obtain ⟨e1, g1⟩ := get h3
      obtain ⟨e2, g2⟩ := get' h4
      exact S.dist j l e1 e2 v' hj hl hjl g1 g2 h5 h6
    len := by simpa using S.len
    kd := S.kd.lst }
end
end DC
set_option Elab.async false
set_option linter.all false
set_option maxRecDepth 100000
set_option maxHeartbeats 2000000
namespace DC
open PySem PySem.Spec L2
structure SOk (X : Cx) (C : Cz) (c : TrC) (sc : Scope) (ex : Str → Bool) (k : Nat) : Prop extends COk X C c sc k where
  scp : X.env.scope = sc
  knd : sc.kind = .function
  pas : PassesOwn (model X.prog X.w) X.A X.env X.xe
  exs : ∀ x, ex x = true → glB sc x = true → ∃ Ca, X.mg x = some (.ref Ca) ∧ ∀ m j p p2 pos, PMk X (.Call (.Name x p) [.Constant (.str m) j p2] [] pos) (fun _ H Q => Q (.ref Ca) none H)
section
variable {X : Cx} {C : Cz} {c : TrC} {sc : Scope} {ex : Str → Bool} {k : Nat}
theorem PS.to {s : Stmt} {t t' : TS} (h : PS X s t) (w : ∀ D σ H, t' D σ H → t D σ H) : PS X s t' := ⟨fun pins s σ H D I q => h.run pins s σ H D I (w D σ H q)⟩
theorem PSs.to {s : List Stmt} {t t' : TS} (h : PSs X s t) (w : ∀ D σ H, t' D σ H → t D σ H) : PSs X s t' := ⟨fun pins s σ H D I q => h.run pins s σ H D I (w D σ H q)⟩
theorem tS_ev {s : Sm} {x : Ex} {f : En → D → Dice → Out} {D : Ends} {σ : St} {H : Hp} {Q : VK} (h : tS C s D σ H) (hs : ∀ n ρ δ, exS C.Γ C.md C.fr n s ρ δ = (ev C.Γ x ρ δ).out (f ρ))
    (w : ∀ ρ δ M δ1 d v H1, Stt C M ρ δ σ H → KD C.K H1 → Ext C.pds H H1 → DiceAt C δ1 H1 → Val C M x H H1 d v → EndO C M H D (f ρ d δ1) → Q v H1) : tD C x σ H Q := by
  obtain ⟨ρ, δ, M, n, S, h⟩ := h
  rw [hs] at h
  refine ⟨ρ, δ, M, S, ?_⟩
  cases e : ev C.Γ x ρ δ with
  | stk => rw [e] at h; exact h
  | exc y δ' => rw [e] at h; exact BadS.at_ S h
  | ok d δ1 =>
    rw [e] at h
    exact fun v H1 k1 x1 dc1 V1 => w ρ δ M δ1 d v H1 S k1 x1 dc1 V1 h
theorem simp_swap {e tg : Expr} {line : Nat} {env : Env} (h : simpE e = true) : swapsWith e (some tg) line env = pure false := by cases e <;> first | rfl | cases h
theorem simp_drop {e : Expr} {line : Nat} {env : Env} (h : simpE e = true) : swapsWith e none line env = pure false := by cases e <;> first | rfl | cases h
theorem ps_asgD {x : Str} {i : Nat} {e : Expr} {e' : Ex} {px pos : Pos} (ok : SOk X C c sc ex k) (hl : locB sc x = true) (hi : ixS c.N x = some i) (hk : i ≠ c.dk) (hs : simpE e = true) (he : PE X e (tD C e')) : PS X (.Assign [.Name x px] e pos) (tS C (.asg i e')) := by
  obtain ⟨l1, l2⟩ := ok.loc x hl
  refine PS.to (ps_set (i := i) (by rw [ok.N]; exact ok.nd) (by rw [ok.N]; exact ixS_get hi) l1 he (simp_swap hs) l2) fun D σ H h => ?_
  refine tS_ev h (f := fun ρ d δ1 => match putS C.Γ C.md i e' d ρ with | some ρ' => .nx ρ' δ1 | none => .stk) (fun _ _ _ => rfl) fun ρ δ M δ1 d v H1 S k1 x1 dc1 V1 q => ?_
  cases e1 : putS C.Γ C.md i e' d ρ with
  | none => rw [e1] at q; exact q.elim
  | some ρ' =>
    rw [e1] at q
    obtain ⟨M', S', r⟩ := putS_ok S k1 x1 dc1 V1 (by rw [ok.dk]; exact hk) e1
    exact q _ _ M' S' r
theorem plain_nosw {e tg : Expr} {env : Env} (h : ∀ a b c, e ≠ .Tuple a b c) : swappedStores [tg] e env = pure none := by
  cases e <;> first | (cases tg <;> rfl) | exact absurd rfl (h _ _ _)
theorem ps_unpD {tg e : Expr} {p : Pat} {e' : Ex} {pos : Pos} (ok : SOk X C c sc ex k) (hp : trP c.N c.md c.dk sc 3 tg = some p) (ht : plainE tg = true) (hs : simpE e = true) (hn : ∀ a b c, e ≠ .Tuple a b c) (he : PE X e (tD C e')) : PS X (.Assign [tg] e pos) (tS C (.unp p e')) := by
  refine PS.to (ps_asg he (sP ok.toCOk 3 tg p hp) (simp_swap hs) (plain_nosw hn) (by rw [plain_asg ht]; rfl)) fun D σ H h => ?_
  refine tS_ev h (f := fun ρ d δ1 => if cln C.md e' || d.flat then (match bindP p d ρ with | some ρ' => .nx ρ' δ1 | none => .stk) else .stk) (fun _ _ _ => rfl) fun ρ δ M δ1 d v H1 S k1 x1 dc1 V1 q => ?_
  split at q
  · rename_i hcf
    cases e1 : bindP p d ρ with
    | none => rw [e1] at q; exact q.elim
    | some ρ' =>
      rw [e1] at q
      have r2 : Rp C.K M H1 d v := by
        rw [Bool.or_eq_true] at hcf
        rcases hcf with hc | hf
        · exact V1.cl hc
        · exact Rp.flat d v hf V1.rc
      exact ⟨ρ, δ1, M, d, ρ', S.step x1 dc1 k1, V1.rc, r2, e1, fun σ' S' _ => q σ' H1 M S' (S.toM x1)⟩
  · exact q.elim
theorem ps_dsetD {a b e : Expr} {i : Nat} {e' : Ex} {p' pos : Pos} (ok : SOk X C c sc ex k) (hd : dgI c sc a b = some i) (hs : simpE e = true) (hn : notTup e = true) (he : PE X e (tD C e')) : PS X (.Assign [.Subscript a b p'] e pos) (tS C (.dset i e')) := by
  obtain ⟨d, p, z, q, rfl, rfl, hi, h1, h2, h3⟩ := dgI_some hd
  obtain ⟨j, hN, hj, hv, pa, hp⟩ := pe_diceN (p := p) ok.toCOk h1 h2 h3
  have hn' : ∀ a b c, e ≠ .Tuple a b c := fun a b c z => by subst z; cases hn
  refine PS.to (ps_asg he (pg_sub hv pe_int set_list (fun _ => rfl)) (show swapsWith e (some (.Subscript (.Name d p) (.Constant (.int (i : Int)) z q) p')) pos.line X.env = pure false from simp_swap hs) (plain_nosw hn') rfl) fun D σ H h => ?_
  refine tS_ev h (f := fun ρ d δ1 => match d with | .int v => .nx ρ (if i = 0 then (v, δ1.2) else (δ1.1, v, δ1.2.2)) | _ => .stk) (fun _ _ _ => rfl) fun ρ δ M δ1 d v H1 S k1 x1 dc1 V1 q => ?_
  cases d with
  | int w =>
    cases (show v = .int w from V1.rc)
    have S1 := S.step x1 dc1 k1
    obtain ⟨g1, g2⟩ := S1.dpl pa hp
    have g3 := S1.dice.at_ pa hp
    refine ⟨.ref pa, by rw [hj]; exact g2, pa, _, (i : Int), i, rfl, rfl, g3, by rcases hi with rfl | rfl <;> rfl, ?_⟩
    have x2 : Ext C.pds H1 (upd H1 pa (.lst ([V.int δ1.1, V.int δ1.2.1].set i (.int w)))) := Ext.write (.inl hp) g3 (fun _ z => nomatch z)
    have dc2 : DiceAt C (if i = 0 then (w, δ1.2) else (δ1.1, w, δ1.2.2)) (upd H1 pa (.lst ([V.int δ1.1, V.int δ1.2.1].set i (.int w)))) := ⟨fun a z => by
      rw [hp] at z; cases z
      rw [upd_same]
      rcases hi with rfl | rfl <;> rfl, fun ta ras z => (by have := (S.tpl ta ras z).2.2.2.1; rw [hp] at this; cases this),
      tabs_ext S1.dice.tab (Ext.write (P := fun b => b = pa) rfl g3 (fun _ z => nomatch z)) fun a z => by cases z; exact ⟨_, g3⟩⟩
    exact q σ _ M (S1.step x2 dc2 k1.lst) ((S.toM x1).trans (S1.toM x2))
  | _ => exact q.elim
theorem ps_appD {x : Str} {i : Nat} {e : Expr} {e' : Ex} {px ap cp pos : Pos} (ok : SOk X C c sc ex k) (hv : visB sc x = true) (ho : oddName x = false) (hl : (ap.endLine == cp.line) = true) (hp : plainE e = true) (hi : ixS c.N x = some i) (he : PE X e (tD C e')) :
    PS X (.Expr (.Call (.Attribute (.Name x px) "append" ap) [e] [] cp) pos) (tS C (.app i e')) := by
  obtain ⟨o1, o2, o3⟩ := odd_of ho
  refine PS.to (ps_expr (pe_bm PySem.F.plainAttrs_list PySem.F.slot_list_append PySem.F.type_list_append mt_append (pe_var (by rw [ok.N]; exact ixS_get hi) (ok.vis x hv) o1 o2) (pa_cons he pa_nil (plain_star hp _ _)) rfl ?_ hl (plain_star hp _ _) rfl) rfl) fun D σ H h => ?_
  · rw [plain_star hp]; rfl
  obtain ⟨ρ, δ, M, n, S, h⟩ := h
  simp only [exS] at h
  split at h
  · rename_i ds hm hρ
    obtain ⟨v0, q1, q2, q3, q4, q5⟩ := S.slot i _ hρ
    obtain ⟨a, ds0, rfl, e0, hM, hc⟩ := q5 hm
    cases e0
    obtain ⟨a1, vs, e1, hr, hl1, hs⟩ := q3
    cases e1
    refine ⟨.ref a, q1, .inl ⟨rfl, vs, .inl (.inl hr)⟩, ρ, δ, M, S, ?_⟩
    cases e0 : ev C.Γ e' ρ δ with
    | stk => rw [e0] at h; exact h
    | exc y δ' => rw [e0] at h; exact BadS.at_ S h
    | ok d δ1 =>
      rw [e0] at h
      simp only [Res.out] at h
      intro y H1 k1 x1 dc1 V1
      split at h
      · rename_i hcl
        simp only [Bool.and_eq_true, Bool.or_eq_true, decide_eq_true_eq] at hcl
        have r2 : Rp C.K M H1 d y := by
          rcases hcl.1 with hc | hf
          · exact V1.cl hc
          · exact Rp.flat d y hf V1.rc
        have S1 := S.step x1 dc1 k1
        have ha1 : H1 a = some (.lst vs) := x1.keep a _ hr (fun z => hc (S.pdM a z)) (fun _ z => nomatch z)
        obtain ⟨S2, r⟩ := S1.more hm hρ q1 ha1 r2 (by rw [szl]; exact hcl.2)
        exact ⟨a, vs, y, rfl, rfl, ha1, by rw [← hs.length, szl]; exact hcl.2, h σ _ M S2 ((S.toM x1).trans r)⟩
      · exact h.elim
  · exact h.elim
theorem ps_retD {e : Expr} {e' : Ex} {pos : Pos} (ok : SOk X C c sc ex k) (hnv : ∀ i, e' ≠ .var i) (he : PE X e (tD C e')) : PS X (.Return (some e) pos) (tS C (.ret e')) := by
  refine PS.to (ps_ret he) fun D σ H h => ?_
  obtain ⟨ρ, δ, M, n, S, h⟩ := h
  simp only [exS] at h
  split at h
  · rename_i hr
    refine ⟨ρ, δ, M, S, ?_⟩
    cases e : ev C.Γ e' ρ δ with
    | stk => rw [e] at h; exact h
    | exc y δ' => rw [e] at h; exact BadS.at_ S h
    | ok d δ1 =>
      rw [e] at h
      intro v H1 k1 x1 dc1 V1
      refine h v H1 k1 (S.ext.trans x1) dc1 V1.rc fun hf => ?_
      unfold retOk at hr
      simp only [hf, Bool.not_true, Bool.false_or, Bool.or_eq_true] at hr
      have h0 : ∀ {p : Addr}, H p = none → C.H0 p = none := fun {p} hp => S.ext.free hp (fun z => by obtain ⟨o, e⟩ := S.dice.some_ p z; rw [e] at hp; cases hp)
      rcases hr with hr | hr
      · intro es ee
        obtain ⟨p, us, e1, e2, e3, e4, e5⟩ := V1.fr hr es ee
        exact ⟨p, us, e1, h0 e2, e3, e4, Rps.mono (fun a z => z.elim (fun z => .inl (S.sub a z)) .inr) _ _ e5⟩
      · cases e' with
        | var i => exact absurd rfl (hnv i)
        | _ => cases hr
  · exact h.elim
theorem ps_retV {x : Str} {i : Nat} {px pos : Pos} (ok : SOk X C c sc ex k) (hN : c.N[i]? = some x) (hv : visB sc x = true) (ho : oddName x = false) : PS X (.Return (some (.Name x px)) pos) (tS C (.ret (.var i))) := by
  obtain ⟨o1, o2, o3⟩ := odd_of ho
  refine PS.to (ps_ret (pe_var (by rw [ok.N]; exact hN) (ok.vis x hv) o1 o2)) fun D σ H h => ?_
  obtain ⟨ρ, δ, M, n, S, h⟩ := h
  simp only [exS] at h
  split at h
  · rename_i hr
    simp only [ev] at h
    cases e : ρ[i]? with
    | none => rw [e] at h; exact h.elim
    | some o =>
      cases o with
      | none => rw [e] at h; exact h.elim
      | some d =>
        rw [e] at h
        obtain ⟨v, q1, q2, q3, q4, q5⟩ := S.slot i d e
        refine ⟨v, q1, h v H S.kd S.ext S.dice q2 fun hf => ?_⟩
        unfold retOk at hr
        simp only [hf, frs, Bool.not_true, Bool.false_or] at hr
        obtain ⟨a, ds0, rfl, rfl, hM, hc⟩ := q5 hr
        intro es ee
        cases ee
        obtain ⟨a2, us, e2, hr2, hl2, hs2⟩ := q3
        cases e2
        refine ⟨a, us, rfl, ?_, hr2, hl2, Rps.mono (fun b z => ?_) _ _ hs2⟩
        · rcases S.new a hM with z | z
          · exact absurd z hc
          · exact z
        · rcases z with z | z
          · exact S.sub b z
          · rw [z]; exact hM
  · exact h.elim
theorem ps_expD {e : Expr} {e' : Ex} {pos : Pos} (ok : SOk X C c sc ex k) (hs : simpE e = true) (he : PE X e (tD C e')) : PS X (.Expr e pos) (tS C (.exp e')) := by
  refine PS.to (ps_expr he (simp_drop hs)) fun D σ H h => ?_
  exact tS_ev h (f := fun ρ _ δ1 => .nx ρ δ1) (fun _ _ _ => rfl) fun ρ δ M δ1 d v H1 S k1 x1 dc1 V1 q => q σ H1 M (S.step x1 dc1 k1) (S.toM x1)
theorem ps_ifD {t : Expr} {a b : List Stmt} {t' : Ex} {a' b' : Sm} {pos : Pos} (ok : SOk X C c sc ex k) (ht : PT X t (tDT C t')) (ha : PSs X a (tS C a')) (hb : PSs X b (tS C b')) : PS X (.If t a b pos) (tS C (.iff t' a' b')) := by
  refine PS.to (ps_if ht ha hb) fun D σ H h => ?_
  obtain ⟨ρ, δ, M, n, S, h⟩ := h
  refine ⟨ρ, δ, M, S, ?_⟩
  simp only [exS] at h
  cases e : ev C.Γ t' ρ δ with
  | stk => rw [e] at h; exact h
  | exc y δ' => rw [e] at h; exact BadS.at_ S h
  | ok d δ1 =>
    rw [e] at h
    simp only [Res.out] at h
    cases d with
    | bl b =>
      intro H1 k1 x1 dc1
      cases b with
      | true => rw [if_pos rfl]; exact ⟨ρ, δ1, M, n, S.step x1 dc1 k1, EndO.rel (S.toM x1) h⟩
      | false => rw [if_neg (by decide)]; exact ⟨ρ, δ1, M, n, S.step x1 dc1 k1, EndO.rel (S.toM x1) h⟩
    | _ => exact h.elim
theorem ps_raiD {x : Str} {m : Str} {j : Nat} {p p2 p3 pos : Pos} (ok : SOk X C c sc ex k) (hx : ex x = true) (hg : glB sc x = true) : PS X (.Raise (some (.Call (.Name x p) [.Constant (.str m) j p2] [] p3)) none pos) (tS C (.rai x)) := by
  obtain ⟨Ca, h1, h2⟩ := ok.exs x hx hg
  refine PS.to (ps_raise ok.calm ok.tk (h2 m j p p2 p3)) fun D σ H h => ?_
  obtain ⟨ρ, δ, M, n, S, h⟩ := h
  exact h (.ref Ca) none H S.ext S.dice ⟨by rw [ok.mg]; exact h1, rfl⟩
theorem tpc_of : ∀ (md : List Bool) (x : Ex), cln md x = true → tpc md x = true
  | md, .var _, _ => by simp [tpc]
  | md, .cst _, _ => by simp [tpc]
  | md, .glb _, _ => by simp [tpc]
  | md, .nil, _ => by simp [tpc]
  | md, .dget _, _ => by simp [tpc]
  | md, .cons a r, h => by
    have h' : cln md a = true ∧ cln md r = true := by simpa [cln] using h
    simp [tpc, tpc_of md a h'.1, tpc_of md r h'.2]
  | md, .op o a, h => by simpa [cln, tpc] using h
  | md, .and a b, h => by simpa [cln, tpc] using h
  | md, .or a b, h => by simpa [cln, tpc] using h
  | md, .not a, _ => by simp [tpc]
  | md, .ife t a b, h => by
    have h' : cln md a = true ∧ cln md b = true := by simpa [cln] using h
    simp [tpc, tpc_of md a h'.1, tpc_of md b h'.2]
  | md, .chn _ _ _ _ _, _ => by simp [tpc]
  | md, .comp _ _ _ _ _, h => by simpa [cln, tpc] using h
  | md, .call _ _ _ _ _, h => by simpa [cln, tpc] using h
  | md, .tget _ _, _ => by simp [tpc]
  | md, .told x, h => by simpa [cln, tpc] using h
theorem ps_forD {tg it : Expr} {b : List Stmt} {p : Pat} {it' : Ex} {b' : Sm} {pos : Pos} (ok : SOk X C c sc ex k) (hpl : plainE it = true) (hi : PI X tg it (tI C it')) (hg : PG X tg (gD C p)) (hb : PSs X b (tS C b')) : PS X (.For tg it b [] pos) (tS C (.fr p it' b')) := by
  refine PS.to (ps_for ok.pas ok.calm hi hg hb (fun x => by cases it <;> first | rfl | cases hpl)) fun D σ H h => ?_
  obtain ⟨ρ, δ, M, n, S, h⟩ := h
  simp only [exS] at h
  split at h
  · rename_i hcl
    refine ⟨ρ, δ, M, S, ?_⟩
    cases e : ev C.Γ it' ρ δ with
    | stk => rw [e] at h; exact h
    | exc y δ' => rw [e] at h; exact BadS.at_ S h
    | ok d δ1 =>
      rw [e] at h
      simp only [Res.out] at h
      cases e1 : d.items with
      | none => rw [e1] at h; exact h.elim
      | some ds =>
        rw [e1] at h
        refine ⟨ds, e1, fun J H1 bs us src k1 x1 dc1 hw hbc hbm hsrc => ?_⟩
        have S1 := S.step x1 dc1 k1
        have hbm := hbm (tpc_of _ _ hcl)
        have h := EndO.rel (S.toM x1) h
        refine ⟨fun i m σi Hi => m + i = ds.length ∧ ∃ ρi δi Mi, Stt C Mi ρi δi σi Hi ∧ Rel M H1 Mi Hi ∧ EndO C M H1 D (forL p (exS C.Γ C.md C.fr n b') (ds.drop i) ρi δi), ⟨ds.length, rfl, ρ, δ1, M, S1, Rel.refl _ _, by simpa using h⟩, fun i m σi Hi hW => ?_⟩
        obtain ⟨em, ρi, δi, Mi, Si, ri, hi⟩ := hW
        have so : SrcOk C.K src H1 Hi := src_ok ri.ext (fun a z => ⟨(hsrc a z).1, (hsrc a z).2.2 hcl⟩) S1.rd
        by_cases hil : i < ds.length
        · refine .inr ⟨hw.go i Hi so Si.kd hil, fun σ' H' => ∃ ρ' δ' M', Stt C M' ρ' δ' σ' H' ∧ Rel M H1 M' H' ∧ EndO C M H1 D (forL p (exS C.Γ C.md C.fr n b') (ds.drop (i + 1)) ρ' δ'), fun σ' H' h' => ⟨m - 1, by omega, by omega, h'⟩, fun v H2 hy => ?_⟩
          obtain ⟨hy, kd2⟩ := hy
          have ed : ds[i]? = some ds[i] := List.getElem?_eq_getElem hil
          obtain ⟨x2, hv⟩ := hw.yld i Hi v H2 ds[i] so Si.kd ed hy
          rw [List.drop_eq_getElem_cons hil] at hi
          simp only [forL] at hi
          have v2 : Rp C.K Mi H2 ds[i] v := hv Mi Si.mok (Rps.rel ri S1.rd _ _ hbm)
          have S2 := Si.step x2.no (Si.dice.keep x2) kd2
          cases e6 : bindP p ds[i] ρi with
          | none => rw [e6] at hi; exact hi.elim
          | some ρ1 =>
            rw [e6] at hi
            simp only at hi
            refine ⟨ρi, δi, Mi, ds[i], ρ1, S2, Rp.mono Si.sub _ _ v2, v2, e6, fun σ' S' _ => ⟨ρ1, δi, Mi, n, S', ?_⟩⟩
            have r2 : Rel M H1 Mi H2 := ri.trans ⟨x2.no, fun _ z => .inl z⟩
            cases e7 : exS C.Γ C.md C.fr n b' ρ1 δi with
            | nx ρ2 δ2 => rw [e7] at hi; exact fun σ'' H'' M'' S'' r'' => ⟨ρ2, δ2, M'', S'', r2.trans r'', hi⟩
            | ct ρ2 δ2 => rw [e7] at hi; exact fun σ'' H'' M'' S'' r'' => ⟨ρ2, δ2, M'', S'', r2.trans r'', hi⟩
            | rt d δ2 => rw [e7] at hi; exact hi
            | ex y δ2 => rw [e7] at hi; exact hi
            | stk => rw [e7] at hi; exact hi
        · have ei : i = ds.length := by omega
          rw [List.drop_eq_nil_of_le (by omega)] at hi
          exact .inl ⟨by rw [ei]; exact hw.stop Hi so Si.kd, hi σi Hi Mi Si ri⟩
  · exact h.elim
theorem ps_whlD {t : Expr} {b : List Stmt} {t' : Ex} {b' : Sm} {pos : Pos} (ok : SOk X C c sc ex k) (ht : PT X t (tDT C t')) (hb : PSs X b (tS C b')) : PS X (.While t b [] pos) (tS C (.whl t' b')) := by
  refine PS.to (ps_while ok.pas ht hb) fun D σ H h => ?_
  obtain ⟨ρ, δ, M, n, S, h⟩ := h
  simp only [exS] at h
  refine ⟨fun m σi Hi => ∃ ρi δi Mi, Stt C Mi ρi δi σi Hi ∧ Rel M H Mi Hi ∧ EndO C M H D (whlN (ev C.Γ t') (exS C.Γ C.md C.fr n b') m ρi δi), ⟨n, ρ, δ, M, S, Rel.refl _ _, h⟩, fun m σi Hi hW => ?_⟩
  obtain ⟨ρi, δi, Mi, Si, ri, hi⟩ := hW
  cases m with
  | zero => exact hi.elim
  | succ m =>
    simp only [whlN] at hi
    refine ⟨ρi, δi, Mi, Si, ?_⟩
    cases e : ev C.Γ t' ρi δi with
    | stk => rw [e] at hi; exact hi
    | exc y δ' => rw [e] at hi; exact BadS.at_ Si hi
    | ok d δ1 =>
      rw [e] at hi
      simp only [Res.out] at hi
      cases d with
      | bl b =>
        intro H1 k1 x1 dc1
        have S1 := Si.step x1 dc1 k1
        have r1 := ri.trans (Si.toM x1)
        cases b with
        | true =>
          rw [if_pos rfl]
          refine ⟨fun σ' H' => ∃ ρ' δ' M', Stt C M' ρ' δ' σ' H' ∧ Rel M H M' H' ∧ EndO C M H D (whlN (ev C.Γ t') (exS C.Γ C.md C.fr n b') m ρ' δ'), fun σ' H' h' => ⟨m, Nat.lt_succ_self m, h'⟩, ρi, δ1, Mi, n, S1, ?_⟩
          simp only at hi
          cases e7 : exS C.Γ C.md C.fr n b' ρi δ1 with
          | nx ρ2 δ2 => rw [e7] at hi; exact fun σ'' H'' M'' S'' r'' => ⟨ρ2, δ2, M'', S'', r1.trans r'', hi⟩
          | ct ρ2 δ2 => rw [e7] at hi; exact fun σ'' H'' M'' S'' r'' => ⟨ρ2, δ2, M'', S'', r1.trans r'', hi⟩
          | rt d δ2 => rw [e7] at hi; exact hi
          | ex y δ2 => rw [e7] at hi; exact hi
          | stk => rw [e7] at hi; exact hi
        | false =>
          rw [if_neg (by decide)]
          exact hi σi H1 Mi S1 r1
      | _ => exact hi.elim
end
end DC
set_option Elab.async false
set_option linter.all false
set_option maxRecDepth 100000
set_option maxHeartbeats 2000000
namespace DC
open PySem PySem.Spec L2
section
variable {C : Cz} {M M' : MS} {ρ : En} {δ δ' : Dice} {σ : St} {H H' : Hp} {D : Ends}
theorem Stt.chg {i : Nat} {a : Addr} {ds : List DC.D} {vs : List V} {ds' : List DC.D} {vs' : List V} (S : Stt C M ρ δ σ H) (hm : C.md.getD i false = true) (hρ : ρ[i]? = some (some (.lst ds))) (hσ : σ[i]? = some (some (.ref a))) (ha : H a = some (.lst vs)) (hd : Rps C.K M H ds' vs') (hl : ds'.length ≤ sizeLine) :
    Stt C M (ρ.set i (some (.lst ds'))) δ σ (upd H a (.lst vs')) ∧ Rel M H M (upd H a (.lst vs')) := by
  obtain ⟨v0, q1, q2, q3, q4, q5⟩ := S.slot i _ hρ
  rw [hσ] at q1; cases q1
  obtain ⟨a0, ds0, e0, e1, hM, hc⟩ := q5 hm
  cases e0; cases e1
  obtain ⟨a1, vs1, e1, hr, hl1, hs⟩ := q3
  cases e1
  rw [ha] at hr; cases hr
  have x : Ext (fun b => b = a) H (upd H a (.lst vs')) := Ext.write (P := fun b => b = a) rfl ha (fun _ z => nomatch z)
  have hP : ∀ b, b = a → M b := fun b z => by rw [z]; exact hM
  have hT : ∀ b ws, Rd H b (.tup ws) → ¬ (b = a) := fun b ws r z => S.mok.tup r (hP b z)
  have up : ∀ {d : DC.D} {v : V}, Rp C.K M H d v → Rp C.K M (upd H a (.lst vs')) d v := fun h => Rp.ext x hP hT _ _ h
  have ups : ∀ {d : List DC.D} {v : List V}, Rps C.K M H d v → Rps C.K M (upd H a (.lst vs')) d v := fun h => Rps.ext x hP hT _ _ h
  have hpd : ¬ C.pds a := fun z => hc (S.pdM a z)
  have h0 : C.H0 a = none := by
    rcases S.new a hM with z | z
    · exact absurd z hc
    · exact z
  refine ⟨?_, ⟨x.mono hP, fun _ z => .inl z⟩⟩
  exact {
    sub := S.sub
    mok := fun b z => by
      by_cases hb : b = a
      · rw [hb]; exact .inl ⟨_, upd_same⟩
      · rw [upd_ne hb]; exact S.mok b z
    new := S.new
    ext := S.ext.updN h0
    dice := S.dice.write ha hpd
    dpl := S.dpl
    tpl := S.tpl
    Tpl := S.Tpl
    slot := fun j e hj => by
      by_cases hij : i = j
      · subst hij
        have hl' : i < ρ.length := by
          have := (List.getElem?_eq_some_iff.mp hj).1
          simpa using this
        rw [List.getElem?_set_self hl'] at hj
        cases hj
        have hs' : Rps C.K M (upd H a (.lst vs')) ds' vs' := ups hd
        have hl2 : ds'.length ≤ sizeLine := hl
        exact ⟨.ref a, hσ, ⟨a, _, rfl, upd_same, hc, hl2, Rps.mono S.sub _ _ hs'⟩, ⟨a, _, rfl, upd_same, hl2, hs'⟩, (fun z => by rw [hm] at z; cases z), fun _ => ⟨a, _, rfl, rfl, hM, hc⟩⟩
      · rw [List.getElem?_set_ne hij] at hj
        obtain ⟨v, w1, w2, w3, w4, w5⟩ := S.slot j e hj
        cases hmj : C.md.getD j false with
        | false =>
          have r := up (w4 hmj)
          exact ⟨v, w1, Rp.mono S.sub _ _ r, r.top, fun _ => r, fun z => nomatch z⟩
        | true =>
          obtain ⟨b, es, rfl, rfl, hMb, hcb⟩ := w5 hmj
          have hba : b ≠ a := fun z => by
            subst z
            exact S.dist i j _ _ _ hm hmj hij hρ hj hσ w1
          obtain ⟨b', ws, eb, hr, hlb, hsb⟩ := w3
          cases eb
          have hr' : (upd H a (.lst vs')) b = some (.lst ws) := by rw [upd_ne hba]; exact hr
          exact ⟨.ref b, w1, ⟨b, ws, rfl, hr', hcb, hlb, Rps.mono S.sub _ _ (ups hsb)⟩, ⟨b, ws, rfl, hr', hlb, ups hsb⟩, (fun z => nomatch z), fun _ => ⟨b, es, rfl, rfl, hMb, hcb⟩⟩
    dist := fun j l d' e' v' hj hl hjl h3 h4 h5 h6 => by
      have get : ∀ {j : Nat}, (ρ.set i (some (.lst ds')))[j]? = some (some d') → ∃ e, ρ[j]? = some (some e) := fun {j} h => by
        by_cases hij : i = j
        · subst hij; exact ⟨_, hρ⟩
        · rw [List.getElem?_set_ne hij] at h; exact ⟨_, h⟩
      have get' : ∀ {j : Nat}, (ρ.set i (some (.lst ds')))[j]? = some (some e') → ∃ e, ρ[j]? = some (some e) := fun {j} h => by
        by_cases hij : i = j
        · subst hij; exact ⟨_, hρ⟩
        · rw [List.getElem?_set_ne hij] at h; exact ⟨_, h⟩
      obtain ⟨e1, g1⟩ := get h3
      obtain ⟨e2, g2⟩ := get' h4
      exact S.dist j l e1 e2 v' hj hl hjl g1 g2 h5 h6
    len := by simpa using S.len
    kd := S.kd.lst }
end
section
variable {X : Cx} {C : Cz} {c : TrC} {sc : Scope} {ex : Str → Bool} {k : Nat}
theorem ps_badD {st : Stmt} : PS X st (tS C .bad) := ⟨fun pins s σ H D I q => by
  obtain ⟨ρ, δ, M, n, S, h⟩ := q
  exact h.elim⟩
theorem lsI_some {a : Expr} {i : Nat} (h : lsI c sc a = some i) : ∃ x p, a = .Name x p ∧ visB sc x = true ∧ oddName x = false ∧ ixS c.N x = some i ∧ i ≠ c.dk := by
  unfold lsI at h
  split at h
  · rename_i x p
    split at h
    · rename_i hc
      have hc' : visB sc x = true ∧ oddName x = false := by simpa using hc
      cases e : ixS c.N x with
      | none => rw [e] at h; cases h
      | some j =>
        rw [e] at h
        simp only [Option.bind_some] at h
        split at h
        · cases h
        · rename_i hj
          cases h
          exact ⟨x, p, rfl, hc'.1, hc'.2, e, hj⟩
    · cases h
  · cases h
theorem ps_lsetD {a b e : Expr} {i : Nat} {b' e' : Ex} {p' pos : Pos} (ok : SOk X C c sc ex k) (hd : lsI c sc a = some i) (hpb : plainE b = true) (hq : quiet b' = true) (hs : simpE e = true) (hn : notTup e = true) (hb : PE X b (tD C b')) (he : PE X e (tD C e')) : PS X (.Assign [.Subscript a b p'] e pos) (tS C (.lset i b' e')) := by
  obtain ⟨x, p, rfl, h1, h2, h3, h4⟩ := lsI_some hd
  obtain ⟨o1, o2, o3⟩ := odd_of h2
  have hn' : ∀ a b c, e ≠ .Tuple a b c := fun a b c z => by subst z; cases hn
  refine PS.to (ps_asg he (pg_sub (pe_var (i := i) (by rw [ok.N]; exact ixS_get h3) (ok.vis x h1) o1 o2) hb set_list (fun _ => by cases b <;> first | rfl | cases hpb)) (show swapsWith e (some (.Subscript (.Name x p) b p')) pos.line X.env = pure false from simp_swap hs) (plain_nosw hn') rfl) fun D σ H h => ?_
  obtain ⟨ρ, δ, M, n, S, h⟩ := h
  refine ⟨ρ, δ, M, S, ?_⟩
  simp only [exS] at h
  cases e0 : ev C.Γ e' ρ δ with
  | stk => rw [e0] at h; exact h
  | exc y δ' => rw [e0] at h; exact BadS.at_ S h
  | ok d δ1 =>
    rw [e0] at h
    simp only [Res.out] at h
    intro y H1 k1 x1 dc1 V1
    have S1 := S.step x1 dc1 k1
    cases e1 : ev C.Γ b' ρ δ1 with
    | stk => rw [e1] at h; exact h.elim
    | exc y δ' => exact absurd e1 (quiet_ok b' ρ δ1 hq _ _)
    | ok kk δ2 =>
      rw [e1] at h
      simp only at h
      split at h
      · rename_i ds nn hm hρ
        obtain ⟨v0, q1, q2, q3, q4, q5⟩ := S1.slot i _ hρ
        obtain ⟨pa, ds0, rfl, ed, hM, hc⟩ := q5 hm
        cases ed
        obtain ⟨a1, vs, ea, hr, hl1, hs1⟩ := q3
        cases ea
        refine ⟨.ref pa, q1, ρ, δ1, M, S1, ?_⟩
        rw [e1]
        intro kv H2 k2 x2 dc2 V2
        cases (show kv = .int nn from V2.rc)
        have S2 := S1.step x2 dc2 k2
        have hr2 : H2 pa = some (.lst vs) := x2.keep pa _ hr (fun z => hc (S1.pdM pa z)) (fun _ z => nomatch z)
        split at h
        · rename_i mm hix
          split at h
          · rename_i hcl
            simp only [Bool.or_eq_true] at hcl
            have r2 : Rp C.K M H1 d y := by
              rcases hcl with hc | hf
              · exact V1.cl hc
              · exact Rp.flat d y hf V1.rc
            refine ⟨pa, vs, nn, mm, rfl, rfl, hr2, by rw [← hs1.length]; exact hix, ?_⟩
            obtain ⟨S3, r⟩ := S2.chg (ds' := ds.set mm d) (vs' := vs.set mm y) hm hρ q1 hr2 (Rps.set mm (S1.rps x2 hs1) (S1.rp x2 r2)) (by rw [List.length_set]; exact hl1)
            exact h σ _ M S3 (((S.toM x1).trans (S1.toM x2)).trans r)
          · exact h.elim
        · exact h.elim
      · exact h.elim
theorem ps_tsetD {a a2 b e : Expr} {a' b' e' : Ex} {p' pos : Pos} (ok : SOk X C c sc ex k) (ht : tgI c sc a = some a2) (hpb : plainE b = true) (hqa : quiet a' = true) (hqb : quiet b' = true) (hs : simpE e = true) (hn : notTup e = true) (ha : PE X a2 (tD C a')) (hb : PE X b (tD C b')) (he : PE X e (tD C e')) : PS X (.Assign [.Subscript a b p'] e pos) (tS C (.tset a' b' e')) := by
  obtain ⟨d, p, q, rfl, t0, t1, t2, t3, t4⟩ := tgI_some ht
  obtain ⟨o1, o2, o3⟩ := odd_of t3
  have hn' : ∀ a b c, e ≠ .Tuple a b c := fun a b c z => by subst z; cases hn
  have hN : X.N[c.dk]? = some d := by rw [ok.N]; exact ixS_get t1
  obtain ⟨ta, ras, htb⟩ := ok.tdk t0 (by rw [← ok.N]; exact (List.getElem?_eq_some_iff.mp hN).1)
  refine PS.to (ps_asg he (pg_sub (pe_ix ix_seq (pe_var hN (ok.vis d t2) o1 o2) ha (plain_ix t4)) hb set_list (fun _ => by cases b <;> first | rfl | cases hpb)) (show swapsWith e (some (.Subscript (.Subscript (.Name d p) a2 q) b p')) pos.line X.env = pure false from simp_swap hs) (plain_nosw hn') rfl) fun D σ H h => ?_
  obtain ⟨ρ, δ, M, n, S, h⟩ := h
  refine ⟨ρ, δ, M, S, ?_⟩
  simp only [exS] at h
  cases e0 : ev C.Γ e' ρ δ with
  | stk => rw [e0] at h; exact h
  | exc y δ' => rw [e0] at h; exact BadS.at_ S h
  | ok dv δ1 =>
    rw [e0] at h
    simp only [Res.out] at h
    intro y H1 k1 x1 dc1 V1
    have S1 := S.step x1 dc1 k1
    refine ⟨.ref ta, by rw [← ok.dk]; exact (S1.tpl ta ras htb).1, ρ, δ1, M, S1, ?_⟩
    cases e1 : ev C.Γ a' ρ δ1 with
    | stk => rw [e1] at h; exact h.elim
    | exc y δ' => exact absurd e1 (quiet_ok a' ρ δ1 hqa _ _)
    | ok iv δ2 =>
      rw [e1] at h
      simp only at h
      intro vi H2 k2 x2 dc2 V2
      have S2 := S1.step x2 dc2 k2
      cases e2 : ev C.Γ b' ρ δ2 with
      | stk => rw [e2] at h; exact h.elim
      | exc y δ' => exact absurd e2 (quiet_ok b' ρ δ2 hqb _ _)
      | ok jv δ3 =>
        rw [e2] at h
        simp only at h
        split at h
        · rename_i v i j
          split at h
          · rename_i hl0
            cases e3 : tabS δ3.2.2 i j v with
            | none => rw [e3] at h; exact h.elim
            | some t =>
              rw [e3] at h
              unfold tabS at e3
              split at e3
              · rename_i ai hai
                split at e3
                · rename_i r hr
                  split at e3
                  · rename_i bj hbj
                    cases e3
                    cases (show y = .int v from V1.rc)
                    cases (show vi = .int i from V2.rc)
                    obtain ⟨w1, w2, w3, w4⟩ := dc2.row ta ras htb
                    have hl : δ3.2.2.length = ras.length := hl0.trans w2.symm
                    obtain ⟨jj, ra, g1, g2, g3, g4⟩ := atI_as (show atI δ3.2.2 i = some r by unfold atI; rw [hai]; exact hr) hl
                    rw [hai] at g1; cases g1
                    refine .inl ⟨ta, ras.map V.ref, i, .ref ra, rfl, rfl, .inl (.inl w1), atI_map _ g4, ρ, δ2, M, S2, ?_⟩
                    rw [e2]
                    intro vj H3 k3 x3 dc3 V3
                    cases (show vj = .int j from V3.rc)
                    have S3 := S2.step x3 dc3 k3
                    obtain ⟨u1, u2, u3, u4⟩ := dc3.row ta ras htb
                    have hra := (u4 ai ra r g3 g2).1
                    refine ⟨ra, r.map V.int, j, bj, rfl, rfl, hra, by rw [List.length_map]; exact hbj, ?_⟩
                    obtain ⟨z1, z2, z3, z4, z5, z6⟩ := S3.tpl ta ras htb
                    have kd4 : KD C.K (upd H3 ra (.lst ((r.map V.int).set bj (.int v)))) := k3.lst
                    have hpd : C.pds ra := .inr (.inl ⟨ta, ras, htb, .inr (List.mem_of_getElem? g3)⟩)
                    have x4 : Ext C.pds H3 (upd H3 ra (.lst ((r.map V.int).set bj (.int v)))) := Ext.write hpd hra (fun _ z => nomatch z)
                    have hai' : ai < δ3.2.2.length := (List.getElem?_eq_some_iff.mp g2).1
                    have dc4 : DiceAt C (δ3.1, δ3.2.1, δ3.2.2.set ai (r.set bj v)) (upd H3 ra (.lst ((r.map V.int).set bj (.int v)))) := {
                      at_ := fun b z => by rw [z4] at z; cases z
                      row := fun ta' ras' hz => by
                        rw [htb] at hz; cases hz
                        refine ⟨by rw [upd_ne (fun z => z2 (by rw [z]; exact List.mem_of_getElem? g3))]; exact u1, by show ras.length = (δ3.2.2.set ai (r.set bj v)).length; rw [List.length_set]; exact u2, u3, fun j' b r' f1 f2 => ?_⟩
                        have f2 : (δ3.2.2.set ai (r.set bj v))[j']? = some r' := f2
                        by_cases hj : ai = j'
                        · subst hj
                          rw [List.getElem?_set_self hai'] at f2
                          cases f2
                          rw [g3] at f1; cases f1
                          rw [upd_same]
                          exact ⟨by rw [List.map_set], by rw [List.length_set]; exact (u4 ai ra r g3 g2).2⟩
                        · rw [List.getElem?_set_ne hj] at f2
                          have hb : b ≠ ra := fun z => by
                            subst z
                            have l1 := (List.getElem?_eq_some_iff.mp f1).1
                            have l2 := (List.getElem?_eq_some_iff.mp g3).1
                            have eq : ras[j'] = ras[ai] := by rw [(List.getElem?_eq_some_iff.mp f1).2, (List.getElem?_eq_some_iff.mp g3).2]
                            exact hj ((List.getElem_inj (h₀ := l1) (h₁ := l2) z3).mp eq).symm
                          rw [upd_ne hb]
                          exact u4 j' b r' f1 f2
                      tab := by rw [z5]; exact fun p hp => by cases hp }
                    exact h σ _ M (S3.step x4 dc4 kd4) ((((S.toM x1).trans (S1.toM x2)).trans (S2.toM x3)).trans (S3.toM x4))
                  · cases e3
                · cases e3
              · cases e3
          · exact h.elim
        · exact h.elim
end
end DC
set_option Elab.async false
set_option linter.all false
set_option maxRecDepth 100000
set_option maxHeartbeats 2000000
namespace DC
open PySem PySem.Spec L2
section
variable {X : Cx} {C : Cz} {c : TrC} {sc : Scope} {ex : Str → Bool} {k : Nat}
theorem PS.kdn {st : Stmt} {t : TS} (h : PS X st t) : PS X st (fun D σ H => t { D with nx := fun σ' H' => KD X.K H' → D.nx σ' H' } σ H) :=
  ⟨fun pins s σ H D I q => thn (h.run pins s σ H _ I q) fun f s' z => by
    cases f with
    | next =>
      obtain ⟨σ', H', I', q'⟩ := z
      exact ⟨σ', H', I', q' (KD.of I')⟩
    | brk => exact z
    | cont => exact z
    | ret u => exact z⟩
theorem comp_parts {elt tg iter : Expr} {ifs : List Expr} {scope : Scope} {pos : Pos} {n : Nat} {x : Ex} (h : tr c (n + 1) sc (.ListComp elt [⟨tg, iter, ifs, 0⟩] scope pos) = some x) :
    ∃ p it cd el, x = .comp ((ownOf c.N scope).map (·.2)) p it cd el ∧ blkC c.N sc scope (ownOf c.N scope) = true ∧ c.dk ∉ (ownOf c.N scope).map (·.2) ∧ plainE iter = true ∧ tpc c.md it = true ∧ (∀ i ∈ p.names, i ∈ (ownOf c.N scope).map (·.2)) ∧
      ∀ (X : Cx) (C : Cz), COk X C c sc k → PI X tg iter (tI C it) ∧ (∀ D s H C0 cl fp, PG (X.blk s H scope (compEnvC scope cl C0 X.env) fp) tg (gD (C.blk D) p)) ∧ (∀ D s H C0 cl fp, PTs (X.blk s H scope (compEnvC scope cl C0 X.env) fp) ifs (tDT (C.blk D) cd)) ∧
        (∀ D s H C0 cl fp, PE (X.blk s H scope (compEnvC scope cl C0 X.env) fp) elt (tD (C.blk D) el)) := by
  simp only [tr] at h
  split at h
  · rename_i p it cd el h1 h2 h3 h4 h5 h6
    split at h
    · rename_i ht
      cases h
      simp only [Bool.and_eq_true, Bool.not_eq_true'] at h1
      refine ⟨p, it, cd, el, rfl, h1.1, ?_, h6, ht, names_own 3 _ _ h2, fun X C ok => ⟨s_iter ok (fun e x h => (snd n sc e x h X C ok).1) h3, fun D s H C0 cl fp => sP (ok.blk D s H scope C0 cl fp) 3 _ _ h2, fun D s H C0 cl fp => ?_, fun D s H C0 cl fp => (snd n scope _ _ h5 _ _ (ok.blk D s H scope C0 cl fp)).1⟩⟩
      · intro z
        have := List.contains_iff_mem.mpr z
        rw [h1.2] at this
        cases this
      · unfold trIfs at h4
        split at h4
        · cases h4
          refine ⟨fun pins s' σ H' Q I q => ?_⟩
          obtain ⟨ρ, δ, M, S, q⟩ := q
          exact pts_nil.run pins s' σ H' Q I (q H' S.kd (Ext.refl _ _) S.dice)
        · exact pts_one (snd n scope _ _ h4 _ _ (ok.blk D s H scope C0 cl fp)).2
        · cases h4
    · cases h
  · cases h
theorem ps_asgL {x : Str} {i : Nat} {elt tg iter : Expr} {ifs : List Expr} {scope : Scope} {cpos px pos : Pos} {n : Nat} {e' : Ex} (ok : SOk X C c sc ex k) (hl : locB sc x = true) (hi : ixS c.N x = some i) (hk : i ≠ c.dk)
    (h : tr c (n + 1) sc (.ListComp elt [⟨tg, iter, ifs, 0⟩] scope cpos) = some e') : PS X (.Assign [.Name x px] (.ListComp elt [⟨tg, iter, ifs, 0⟩] scope cpos) pos) (tS C (.asg i e')) := by
  obtain ⟨p, it, cd, el, rfl, b1, b2, b3, b4, b5, b6⟩ := comp_parts (k := k) h
  obtain ⟨g1, g2, g3, g4⟩ := b6 X C ok.toCOk
  have hs : ∀ x, foldedSetIterable iter X.env x = pure x := fun x => by cases iter <;> first | rfl | cases b3
  have hbk : X.env.blockKind = .function := by
    unfold Env.blockKind
    rw [ok.scp, ok.knd]
    rfl
  have hsw : swapsWith (.ListComp elt [⟨tg, iter, ifs, 0⟩] scope cpos) (some (.Name x px)) pos.line X.env = pure (isLoc sc x && px.line == cpos.line && !(scope.names.any fun (n, k) => n == x && (k == .local || k == .cell))) := by
    have hkd : (X.env.kindOf x == some .local) = isLoc sc x := by
      unfold Env.kindOf isLoc
      rw [ok.scp]
      cases sc.names.lookup x with
      | none => rfl
      | some kd => cases kd <;> rfl
    show (pure (X.env.blockKind == .function && X.env.kindOf x == some .local && px.line == cpos.line && !(scope.names.any fun (n, k) => n == x && (k == .local || k == .cell))) : Sem Bool) = _
    rw [hbk, hkd]
    rfl
  have fin : ∀ {D : Ends} {σ : St} {H : Hp}, tS C (.asg i (.comp ((ownOf c.N scope).map (·.2)) p it cd el)) D σ H → tD C (.comp ((ownOf c.N scope).map (·.2)) p it cd el) σ H fun v H1 => D.nx (σ.set i (some v)) H1 := fun {D σ H} h => by
    refine tS_ev h (f := fun ρ d δ1 => match putS C.Γ C.md i (.comp ((ownOf c.N scope).map (·.2)) p it cd el) d ρ with | some ρ' => .nx ρ' δ1 | none => .stk) (fun _ _ _ => rfl) fun ρ δ M δ1 d v H1 S k1 x1 dc1 V1 q => ?_
    cases e1 : putS C.Γ C.md i (.comp ((ownOf c.N scope).map (·.2)) p it cd el) d ρ with
    | none => rw [e1] at q; exact q.elim
    | some ρ' =>
      rw [e1] at q
      obtain ⟨M', S', r⟩ := putS_ok S k1 x1 dc1 V1 (by rw [ok.dk]; exact hk) e1
      exact q _ _ M' S' r
  cases hb : (isLoc sc x && px.line == cpos.line && !(scope.names.any fun (n, k) => n == x && (k == .local || k == .cell))) with
  | true =>
    rw [hb] at hsw
    have hlx : X.env.scope.names.lookup x = some .local := by
      simp only [Bool.and_eq_true] at hb
      have := hb.1.1
      rw [ok.scp]
      unfold isLoc at this
      cases e : sc.names.lookup x with
      | none => rw [e] at this; cases this
      | some kd => rw [e] at this; cases kd <;> first | rfl | cases this
    refine PS.to (PS.kdn (ps_setLc (i := i) (g := gB C p) (tt := tB' C cd) (te := eB C el) ok.calm (by rw [ok.N]; exact ok.nd) (by rw [ok.N]; exact ixS_get hi) hlx hsw g1 (blk_ok ok.toCOk b1)
      (fun s H C0 cl fp => ⟨fun pins s' σ H' v u Q I r q => by obtain ⟨D, q⟩ := q; exact (g2 D s H C0 cl fp).run pins s' σ H' v u Q I r q⟩)
      (fun s H C0 cl fp => ⟨fun pins s' σ H' Q I q => by obtain ⟨D, q⟩ := q; exact (g3 D s H C0 cl fp).run pins s' σ H' Q I q⟩)
      (fun s H C0 cl fp => ⟨fun pins s' σ H' Q I q => by obtain ⟨D, q⟩ := q; exact (g4 D s H C0 cl fp).run pins s' σ H' Q I q⟩) hs)) fun D σ H h => lc_red ok.toCOk b2 b4 b5 (fin h)
  | false =>
    rw [hb] at hsw
    obtain ⟨l1, l2⟩ := ok.loc x hl
    exact PS.to (ps_set (i := i) (by rw [ok.N]; exact ok.nd) (by rw [ok.N]; exact ixS_get hi) l1 (snd (n + 1) sc _ _ h X C ok.toCOk).1 hsw l2) fun D σ H h => fin h
end
end DC
set_option Elab.async false
set_option linter.all false
set_option maxRecDepth 100000
set_option maxHeartbeats 2000000
namespace DC
open PySem PySem.Spec L2
structure Gr (C : Cz) (M : MS) (H : Hp) (M' : MS) (H' : Hp) : Prop where
  ext : Ext C.pds H H'
  sub : ∀ a, M a → M' a
  new : ∀ a, M' a → M a ∨ H a = none
def Apart (C : Cz) (v : V) : List Nat → Ex → List D → List V → Prop
  | i :: is, .cons x xs, d :: ds, u :: vs => (C.md.getD i false = true → frs C.Γ C.md x = true → (∃ es, d = .lst es) → u ≠ v) ∧ Apart C v is xs ds vs
  | _, _, _, _ => True
def Pend (C : Cz) (M' : MS) (H H' : Hp) : List Nat → Ex → List D → List V → Prop
  | i :: is, .cons x xs, d :: ds, v :: vs => Rp C.K C.Mc H' d v ∧ (C.md.getD i false = false → (cln C.md x || d.flat) = true → Rp C.K M' H' d v) ∧
      (C.md.getD i false = true → frs C.Γ C.md x = true → ∀ es, d = .lst es → ∃ p us, v = .ref p ∧ H p = none ∧ M' p ∧ ¬ C.Mc p ∧ H' p = some (.lst us) ∧ es.length ≤ sizeLine ∧ Rps C.K M' H' es us ∧ Apart C v is xs ds vs) ∧ Pend C M' H H' is xs ds vs
  | [], .nil, [], [] => True
  | _, _, _, _ => False
def tPr (C : Cz) (is : List Nat) (x : Ex) : TA := fun σ H Q => ∃ ρ δ M, Stt C M ρ δ σ H ∧ match ev C.Γ x ρ δ with
  | .ok (.tup ds) δ' => ∀ vs H' M', Stt C M' ρ δ' σ H' → Gr C M H M' H' → Pend C M' H H' is x ds vs → Q vs H'
  | .exc y δ' => Bad C y δ' H
  | _ => False
section
variable {X : Cx} {C : Cz} {c : TrC} {sc : Scope} {ex : Str → Bool} {k : Nat}
theorem Gr.rel {M M' : MS} {H H' : Hp} (g : Gr C M H M' H') (hP : ∀ a, C.pds a → M a) : Rel M H M' H' := ⟨g.ext.mono hP, g.new⟩
theorem Pend.back {M' : MS} {H H1 H' : Hp} (x : Ext C.pds H H1) (hd : ∀ a, C.pds a → H1 a ≠ none) : ∀ {is : List Nat} {e : Ex} {ds : List D} {vs : List V}, Pend C M' H1 H' is e ds vs → Pend C M' H H' is e ds vs := by
  intro is
  induction is with
  | nil => intro e ds vs h; cases e <;> cases ds <;> cases vs <;> exact h
  | cons i is ih =>
    intro e ds vs h
    cases e with
    | cons a r =>
      cases ds with
      | nil => exact h
      | cons d ds =>
        cases vs with
        | nil => exact h
        | cons v vs =>
          obtain ⟨h1, h2, h3, h4⟩ := h
          refine ⟨h1, h2, fun m f es e => ?_, ih h4⟩
          obtain ⟨p, us, e1, e2, e3⟩ := h3 m f es e
          exact ⟨p, us, e1, x.free e2 (fun z => hd p z e2), e3⟩
    | _ => exact h
theorem Pend.apart {M' : MS} {H H' : Hp} {p : Addr} (hp : H p ≠ none) : ∀ {is : List Nat} {e : Ex} {ds : List D} {vs : List V}, Pend C M' H H' is e ds vs → Apart C (.ref p) is e ds vs := by
  intro is
  induction is with
  | nil => intro e ds vs h; trivial
  | cons i is ih =>
    intro e ds vs h
    cases e with
    | cons a r =>
      cases ds with
      | nil => trivial
      | cons d ds =>
        cases vs with
        | nil => trivial
        | cons v vs =>
          obtain ⟨h1, h2, h3, h4⟩ := h
          refine ⟨fun m f z e => ?_, ih h4⟩
          obtain ⟨es, ee⟩ := z
          obtain ⟨p', us, e1, e2, _⟩ := h3 m f es ee
          rw [e] at e1
          cases e1
          exact hp e2
    | _ => trivial
theorem tPr_cons {i : Nat} {is : List Nat} {a r : Ex} {σ : St} {H : Hp} {Q : List V → Hp → Prop} (h : tPr C (i :: is) (.cons a r) σ H Q) (hr : r.isL = true) : tD C a σ H fun v H1 => tPr C is r σ H1 fun vs H2 => Q (v :: vs) H2 := by
  obtain ⟨ρ, δ, M, S, h⟩ := h
  refine ⟨ρ, δ, M, S, ?_⟩
  simp only [ev] at h
  cases e : ev C.Γ a ρ δ with
  | stk => rw [e] at h; exact h
  | exc y δ' => rw [e] at h; exact h
  | ok d δ1 =>
    rw [e] at h
    simp only [Res.bind] at h
    intro v H1 k1 x1 dc1 V1
    have S1 := S.step x1 dc1 k1
    have key : ∃ M1, Stt C M1 ρ δ1 σ H1 ∧ Gr C M H M1 H1 ∧ (C.md.getD i false = true → frs C.Γ C.md a = true → ∀ es, d = .lst es → ∃ p us, v = .ref p ∧ H p = none ∧ M1 p ∧ ¬ C.Mc p ∧ H1 p = some (.lst us) ∧ es.length ≤ sizeLine ∧ Rps C.K M1 H1 es us) ∧
        (C.md.getD i false = false → (cln C.md a || d.flat) = true → Rp C.K M1 H1 d v) := by
      by_cases hm : C.md.getD i false = true ∧ frs C.Γ C.md a = true ∧ ∃ es, d = .lst es
      · obtain ⟨hm, hf, es, rfl⟩ := hm
        obtain ⟨p, us, rfl, e2, e3, e4, e5⟩ := V1.fr hf es rfl
        obtain ⟨p', us', ep, hr, hn, _⟩ := V1.rc
        cases ep
        refine ⟨orAt M p, S.grow e2 x1 dc1 k1 e3, ⟨x1, fun a z => .inl z, fun a z => z.elim .inl fun z => by rw [z]; exact .inr e2⟩, fun _ _ es' ee => ?_, fun z => by rw [hm] at z; cases z⟩
        cases ee
        exact ⟨p, us, rfl, e2, .inr rfl, hn, e3, e4, e5⟩
      · refine ⟨M, S1, ⟨x1, fun _ z => z, fun _ z => .inl z⟩, fun m f es ee => (hm ⟨m, f, es, ee⟩).elim, fun _ hcf => ?_⟩
        rw [Bool.or_eq_true] at hcf
        rcases hcf with hc | hf
        · exact V1.cl hc
        · exact Rp.flat d v hf V1.rc
    obtain ⟨M1, S1', g1, q1, q2⟩ := key
    refine ⟨ρ, δ1, M1, S1', ?_⟩
    cases e2 : ev C.Γ r ρ δ1 with
    | stk => rw [e2] at h; exact h
    | exc y δ' => rw [e2] at h; exact h.step x1
    | ok d2 δ2 =>
      rw [e2] at h
      obtain ⟨ds, rfl, _⟩ := ev_list hr e2
      simp only at h
      intro vs H2 M2 S2 g2 pd
      have rel := g2.rel (fun a z => S1'.sub a (S1'.pdM a z))
      refine h (v :: vs) H2 M2 S2 ⟨g1.ext.trans g2.ext, fun a z => g2.sub a (g1.sub a z), fun a z => ?_⟩ ⟨S1'.rpc g2.ext V1.rc, fun m hcf => Rp.rel rel S1'.rd _ _ (q2 m hcf), fun m f es ee => ?_, Pend.back x1 dc1.ne pd⟩
      · rcases g2.new a z with w | w
        · exact g1.new a w
        · by_cases hp : C.pds a
          · obtain ⟨o, e⟩ := dc1.some_ a hp; rw [e] at w; cases w
          · exact .inr (x1.free w hp)
      · obtain ⟨p, us, rfl, e3, e4, e5, e6, e7, e8⟩ := q1 m f es ee
        refine ⟨p, us, rfl, e3, g2.sub p e4, e5, g2.ext.keep p _ e6 (fun z => e5 (S1'.pdM p z)) (fun _ z => nomatch z), e7, Rps.rel rel S1'.rd _ _ e8, pd.apart (fun z => by rw [e6] at z; cases z)⟩
theorem sPr {f : Expr → Option Ex} (ih : ∀ e x, f e = some x → PE X e (tD C x)) : ∀ (es : List Expr) (l : Ex) (is : List Nat), trA f es = some l → is.length = es.length → PA X es (tPr C is l)
  | [], l, is, h, hl => by
    cases h
    have : is = [] := List.length_eq_zero_iff.mp hl
    subst this
    refine PA.to pa_nil fun σ H Q q => ?_
    obtain ⟨ρ, δ, M, S, q⟩ := q
    exact q [] H M S ⟨Ext.refl _ _, fun _ z => z, fun _ z => .inl z⟩ trivial
  | e :: es, l, is, h, hl => by
    match is, hl with
    | i :: is, hl =>
      unfold trA at h
      split at h
      · rename_i hp
        cases e1 : f e <;> cases e2 : trA f es <;> simp only [e1, e2] at h <;> try cases h
        exact PA.to (pa_cons (ih e _ e1) (sPr ih es _ is e2 (by simpa using hl)) (plain_star hp _ _)) fun _ _ _ q => tPr_cons q (trA_ln e2).1
      · cases h
def setL (σ : St) : List Nat → List V → St
  | i :: is, v :: vs => setL (σ.set i (some v)) is vs
  | _, _ => σ
theorem putP_ok {H H' : Hp} {M : MS} {δ : Dice} : ∀ {is : List Nat} {x : Ex} {ds : List D} {vs : List V} {ρ ρ' : En} {σ : St}, Stt C M ρ δ σ H' → Pend C M H H' is x ds vs → is.Nodup → (∀ i ∈ is, i ≠ C.kd) →
    (∀ (j : Nat) d u, C.md.getD j false = true → ρ[j]? = some (some d) → σ[j]? = some (some u) → Apart C u is x ds vs) → putP C.Γ C.md is x ds ρ = some ρ' → Stt C M ρ' δ (setL σ is vs) H' := by
  intro is
  induction is with
  | nil =>
    intro x ds vs ρ ρ' σ S p _ _ _ h
    cases x with
    | nil =>
      cases ds with
      | nil =>
        cases h
        cases vs with
        | nil => exact S
        | cons v vs => exact p.elim
      | cons d ds => cases h
    | _ => cases h
  | cons i is ih =>
    intro x ds vs ρ ρ' σ S p nd hk ap h
    cases x with
    | cons x xs =>
      cases ds with
      | nil => cases h
      | cons d ds =>
        cases vs with
        | nil => exact p.elim
        | cons v vs =>
          obtain ⟨p1, p2, p3, p4⟩ := p
          simp only [putP] at h
          cases e : putS C.Γ C.md i x d ρ with
          | none => rw [e] at h; cases h
          | some ρ1 =>
            rw [e] at h
            simp only at h
            have nd' := List.nodup_cons.mp nd
            have step : Stt C M ρ1 δ (σ.set i (some v)) H' ∧ ∀ (j : Nat) d' u, C.md.getD j false = true → ρ1[j]? = some (some d') → (σ.set i (some v))[j]? = some (some u) → Apart C u is xs ds vs := by
              unfold putS at e
              split at e
              · rename_i hm
                split at e
                · rename_i es hf
                  cases e
                  obtain ⟨pa, us, rfl, e2, e3, e4, e5, e6, e7, e8⟩ := p3 hm hf es rfl
                  refine ⟨S.setM hm (hk i List.mem_cons_self) e5 e3 e4 e6 e7 (fun j d' hj hmj hρ hσ => ?_), fun j d' u hmj hρ hσ => ?_⟩
                  · have := ap j d' _ hmj hρ hσ
                    exact this.1 hm hf ⟨_, rfl⟩ rfl
                  · by_cases hij : i = j
                    · subst hij
                      have hlt : i < σ.length := by
                        have := (List.getElem?_eq_some_iff.mp hσ).1
                        simpa using this
                      rw [List.getElem?_set_self hlt] at hσ
                      cases hσ
                      exact e8
                    · rw [List.getElem?_set_ne hij] at hρ hσ
                      exact (ap j d' u hmj hρ hσ).2
                · cases e
              · rename_i hm
                have hm : C.md.getD i false = false := by simpa using hm
                split at e
                · rename_i hcf
                  cases e
                  refine ⟨S.setI hm (hk i List.mem_cons_self) p1 (p2 hm hcf), fun j d' u hmj hρ hσ => ?_⟩
                  have hij : i ≠ j := fun z => by rw [z, hmj] at hm; cases hm
                  rw [List.getElem?_set_ne hij] at hρ hσ
                  exact (ap j d' u hmj hρ hσ).2
                · cases e
            exact ih (x := xs) (ds := ds) (vs := vs) step.1 p4 nd'.2 (fun j hj => hk j (List.mem_cons_of_mem _ hj)) step.2 h
    | _ => cases h
theorem par_fin {is : List Nat} {l : Ex} {D : Ends} {σ : St} {H : Hp} (hnd : is.Nodup) (hk : ∀ i ∈ is, i ≠ C.kd) (hl : l.isL = true) (h : tS C (.par is l) D σ H) : tPr C is l σ H fun vs H1 => KD C.K H1 ∧ vs.length = is.length ∧ (∀ H2, Ext (fun _ => False) H1 H2 → KD C.K H2 → D.nx (setL σ is vs) H2) := by
  obtain ⟨ρ, δ, M, n, S, h⟩ := h
  refine ⟨ρ, δ, M, S, ?_⟩
  simp only [exS] at h
  cases e : ev C.Γ l ρ δ with
  | stk => rw [e] at h; exact h
  | exc y δ' => rw [e] at h; exact BadS.at_ S h
  | ok d δ1 =>
    rw [e] at h
    obtain ⟨ds, rfl, _⟩ := ev_list hl e
    simp only [Res.out] at h
    intro vs H1 M1 S1 g pd
    cases e1 : putP C.Γ C.md is l ds ρ with
    | none => rw [e1] at h; exact h.elim
    | some ρ' =>
      rw [e1] at h
      have S2 : Stt C M1 ρ' δ1 (setL σ is vs) H1 := putP_ok S1 pd hnd hk (fun j d u hmj hρ hσ => ?_) e1
      · have hlen : vs.length = is.length := by
          have : ∀ {is : List Nat} {l : Ex} {ds : List DC.D} {vs : List V}, Pend C M1 H H1 is l ds vs → vs.length = is.length := by
            intro is
            induction is with
            | nil => intro l ds vs p; cases l <;> cases ds <;> cases vs <;> first | rfl | exact p.elim
            | cons i is ihs =>
              intro l ds vs p
              cases l <;> cases ds <;> cases vs <;> first | exact p.elim | (simp only [List.length_cons]; rw [ihs p.2.2.2])
          exact this pd
        refine ⟨S1.kd, hlen, fun H2 x2 kd2 => h _ H2 M1 (S2.step x2.no (S2.dice.keep x2) kd2) ((g.rel (fun a z => S.sub a (S.pdM a z))).trans ⟨x2.no, fun _ z => .inl z⟩)⟩
      · obtain ⟨v, q1, q2, q3, q4, q5⟩ := S.slot j d hρ
        rw [hσ] at q1
        cases q1
        obtain ⟨a, ds0, rfl, rfl, _⟩ := q5 hmj
        obtain ⟨a', vs', ea, hr, _⟩ := q2
        cases ea
        exact pd.apart (fun z => by rw [hr] at z; cases z)
end
end DC
set_option Elab.async false
set_option linter.all false
set_option maxRecDepth 100000
set_option maxHeartbeats 2000000
namespace DC
open PySem PySem.Spec L2
section
variable {X : Cx} {C : Cz} {c : TrC} {sc : Scope} {ex : Str → Bool} {k : Nat}
theorem isLoc_eq {env : Env} (h : env.scope = sc) (x : Str) : (env.kindOf x == some .local) = isLoc sc x := by
  unfold Env.kindOf isLoc
  rw [h]
  cases sc.names.lookup x with
  | none => rfl
  | some kd => cases kd <;> rfl
theorem sw_eq {env : Env} {ts vs : List Expr} {j j' : Nat} {tp vp : Pos} {b : Bool} (hs : env.scope = sc) (hk : env.blockKind = .function) (hv : ∀ e ∈ vs, plainE e = true) (h : swB sc ts vs = some b) :
    swappedStores [.Tuple ts j tp] (.Tuple vs j' vp) env = pure (if b then some (swN sc ts) else none) := by
  have hn : (ts.filterMap fun
      | .Name id pos => if env.kindOf id == some .local && pos.line == (ts.head?.map (·.pos.line)).getD 0 then some id else none
      | _ => none) = swN sc ts := by
    unfold swN
    congr 1
    funext e
    cases e <;> try rfl
    simp only [isLoc_eq hs]
  unfold swB at h
  unfold swappedStores
  simp only [pure_bind]
  rw [hk]
  split at h
  · rename_i h1
    cases h
    have : (!(ts.length == 2 || ts.length == 3) || vs.length != ts.length || ScopeKind.function != .function) = true := by
      rw [h1]; rfl
    rw [if_pos this]
    rfl
  · rename_i h1
    have : ¬ (!(ts.length == 2 || ts.length == 3) || vs.length != ts.length || ScopeKind.function != .function) = true := by
      intro z
      apply h1
      simpa using z
    rw [if_neg this]
    rw [if_neg ?hst]
    case hst =>
      intro z
      rw [List.any_eq_true] at z
      obtain ⟨e, he, hz⟩ := z
      have := hv e he
      cases e <;> first | (cases hz; done) | cases this
    generalize hN : List.filterMap _ ts = Ns
    have hNs : Ns = swN sc ts := by rw [← hN]; exact hn
    subst hNs
    split at h
    · rename_i h2
      cases h
      rw [if_pos h2]
      rfl
    · rename_i h2
      rw [if_neg h2]
      split at h
      · rename_i h3
        cases h
        rw [if_pos h3]
        rfl
      · rename_i h3
        rw [if_neg h3]
        split at h
        · cases h
        · rename_i h4
          cases h
          rw [if_neg h4]
          rfl
theorem nm_plain {N : List Str} {dk : Nat} {sc : Scope} : ∀ {ts : List Expr} {is : List Nat}, nmIx N dk sc ts = some is → is.length = ts.length ∧ (∀ i ∈ is, i ≠ dk) ∧ ∀ env, (assignEach ts env).length = ts.length ∧ (assignEach ts env).findIdx? (·.1) = none
  | [], is, h => by cases h; exact ⟨rfl, (fun _ z => nomatch z), fun _ => ⟨rfl, rfl⟩⟩
  | .Name x p :: ts, is, h => by
    simp only [nmIx] at h
    split at h
    · split at h
      · rename_i i r h1 h2
        split at h
        · cases h
        · rename_i hk
          cases h
          obtain ⟨a, b, d⟩ := nm_plain h2
          refine ⟨by simp [a], fun j hj => ?_, fun env => ?_⟩
          · rcases List.mem_cons.mp hj with rfl | hj
            · exact hk
            · exact b j hj
          · obtain ⟨d1, d2⟩ := d env
            rw [plain_asg rfl]
            refine ⟨by simp [d1], ?_⟩
            rw [List.findIdx?_cons, d2]
            rfl
      · cases h
    · cases h
def gNs : List Nat → TGs
  | [], vs, σ, H, Q => vs = [] ∧ Q σ H
  | i :: is, vs, σ, H, Q => ∃ v r, vs = v :: r ∧ gNs is r (σ.set i (some v)) H Q
theorem sNs (ok : COk X C c sc k) : ∀ {ts : List Expr} {is : List Nat}, nmIx c.N c.dk sc ts = some is → PGs X ts (gNs is)
  | [], is, h => by cases h; exact pgs_nil
  | .Name x p :: ts, is, h => by
    simp only [nmIx] at h
    split at h
    · rename_i hl
      have hl' : locB sc x = true ∧ oddName x = false := by simpa using hl
      split at h
      · rename_i i r h1 h2
        split at h
        · cases h
        · cases h
          obtain ⟨l1, l2⟩ := ok.loc x hl'.1
          exact PGs.to (pgs_cons (pg_name (i := i) (by rw [ok.N]; exact ok.nd) (by rw [ok.N]; exact ixS_get h1) l1 l2) (sNs ok h2)) fun vs σ H Q ⟨v, r, e, q⟩ => ⟨v, r, e, q⟩
      · cases h
    · cases h
theorem gNs_of : ∀ {is : List Nat} {vs : List V} {σ : St} {H : Hp} {Q : St → Hp → Prop}, vs.length = is.length → Q (setL σ is vs) H → gNs is vs σ H Q
  | [], [], σ, H, Q, _, q => ⟨rfl, q⟩
  | i :: is, v :: vs, σ, H, Q, e, q => ⟨v, vs, rfl, gNs_of (by simpa using e) q⟩
theorem trA_plain {f : Expr → Option Ex} : ∀ {es : List Expr} {l : Ex}, trA f es = some l → ∀ e ∈ es, plainE e = true
  | [], _, _, _, h => nomatch h
  | e :: es, l, h, e', he => by
    unfold trA at h
    split at h
    · rename_i hp
      cases e1 : f e <;> cases e2 : trA f es <;> simp only [e1, e2] at h <;> try cases h
      rcases List.mem_cons.mp he with rfl | he
      · exact hp
      · exact trA_plain e2 e' he
    · cases h
theorem bk_of (ok : SOk X C c sc ex k) : X.env.blockKind = .function := by
  unfold Env.blockKind
  rw [ok.scp, ok.knd]
  rfl
theorem isLoc_of {x : Str} (h : isLoc sc x = true) : sc.names.lookup x = some .local := by
  unfold isLoc at h
  cases e : sc.names.lookup x with
  | none => rw [e] at h; cases h
  | some kd => rw [e] at h; cases kd <;> first | rfl | cases h
theorem ps_parD {ts vs : List Expr} {is : List Nat} {l : Ex} {j j' : Nat} {tp vp pos : Pos} {f : Expr → Option Ex} {b : Bool} (ok : SOk X C c sc ex k) (ih : ∀ e x, f e = some x → PE X e (tD C x)) (hn : nmIx c.N c.dk sc ts = some is) (hv : trA f vs = some l) (hb : swB sc ts vs = some b) (hl : is.length = vs.length) (hnd : is.Nodup) (hfew : is.length ≤ 100) :
    PS X (.Assign [.Tuple ts j tp] (.Tuple vs j' vp) pos) (tS C (.par is l)) := by
  obtain ⟨n1, n2, n3⟩ := nm_plain hn
  have hA := sPr ih vs l is hv hl
  have hLL := (trA_ln hv).1
  have hsw := sw_eq (j := j) (j' := j') (tp := tp) (vp := vp) ok.scp (bk_of ok) (trA_plain hv) hb
  have hk : ∀ i ∈ is, i ≠ C.kd := fun i hi => by rw [ok.dk]; exact n2 i hi
  cases b with
  | false =>
    refine PS.to (PS.kdn (ps_asg (pe_tup hA) (pg_tup (n := ts.length) ok.calm (sNs ok.toCOk hn) (n3 X.env).1 (n3 X.env).2) rfl hsw rfl)) fun D σ H h => ?_
    have h2 := par_fin hnd hk hLL h
    obtain ⟨ρ, δ, M, S, h2⟩ := h2
    refine ⟨ρ, δ, M, S, ?_⟩
    cases e : ev C.Γ l ρ δ with
    | stk => rw [e] at h2; exact h2
    | exc y δ' => rw [e] at h2; exact h2
    | ok d δ1 =>
      rw [e] at h2
      obtain ⟨ds, rfl, nl⟩ := ev_list hLL e
      simp only at h2 ⊢
      intro vs' H1 M1 S1 g pd
      obtain ⟨k1, l1, fin⟩ := h2 vs' H1 M1 S1 g pd
      refine ⟨?_, fun p hp => ⟨p, vs', rfl, .inl (.inl upd_same), by rw [l1, n1], gNs_of l1 fun kd => fin _ (Ext.upd hp) (by rw [ok.K]; exact kd)⟩⟩
      rw [l1, szl]; omega
  | true =>
    have hb2 : (ts.length = 2 ∨ ts.length = 3) ∧ vs.length = ts.length ∧ (swN sc ts).length = ts.length := by
      unfold swB at hb
      split at hb
      · cases hb
      · rename_i h1
        split at hb
        · cases hb
        · rename_i h2
          have h1' : (ts.length = 2 ∨ ts.length = 3) ∧ vs.length = ts.length := by
            have h1'' : (¬ ts.length = 2 → ts.length = 3) ∧ vs.length = ts.length := by simpa using h1
            refine ⟨?_, h1''.2⟩
            by_cases hz : ts.length = 2
            · exact .inl hz
            · exact .inr (h1''.1 hz)
          have h2' : (swN sc ts).length = ts.length := by
            have : ((swN sc ts).length = ts.length) ∧ (swN sc ts).eraseDups.length = (swN sc ts).length := by simpa using h2
            exact this.1
          exact ⟨h1'.1, h1'.2, h2'⟩
    rw [if_pos rfl] at hsw
    have get : ∀ {x : Str} {p : Pos} {i : Nat} {ts : List Expr} {is : List Nat}, nmIx c.N c.dk sc (.Name x p :: ts) = some (i :: is) → ixS c.N x = some i ∧ nmIx c.N c.dk sc ts = some is := fun {x p i ts is} h => by
      simp only [nmIx] at h
      split at h
      · split at h
        · rename_i i' r h1 h2
          split at h
          · cases h
          · cases h; exact ⟨h1, h2⟩
        · cases h
      · cases h
    have isn : ∀ {t : Expr} {ts : List Expr} {is : List Nat}, nmIx c.N c.dk sc (t :: ts) = some is → ∃ x p i r, t = .Name x p ∧ is = i :: r := fun {t ts is} h => by
      cases t <;> simp only [nmIx] at h <;> try cases h
      split at h
      · split at h
        · split at h
          · cases h
          · cases h; exact ⟨_, _, _, _, rfl, rfl⟩
        · cases h
      · cases h
    have hN : X.N.Nodup := by rw [ok.N]; exact ok.nd
    have gx : ∀ {x : Str} {i : Nat}, ixS c.N x = some i → X.N[i]? = some x := fun h => by rw [ok.N]; exact ixS_get h
    have lk : ∀ {x : Str}, isLoc sc x = true → X.env.scope.names.lookup x = some .local := fun h => by rw [ok.scp]; exact isLoc_of h
    obtain ⟨h23, hvl, hswn⟩ := hb2
    have fin : ∀ {D : Ends} {σ : St} {H : Hp}, tS C (.par is l) D σ H → ∀ {Q : List V → Hp → Prop}, (∀ vs H1, vs.length = is.length → (KD C.K H1 → D.nx (setL σ is vs) H1) → Q vs H1) → tPr C is l σ H Q := fun {D σ H} h {Q} w => by
      have h2 := par_fin hnd hk hLL h
      obtain ⟨ρ, δ, M, S, h2⟩ := h2
      refine ⟨ρ, δ, M, S, ?_⟩
      cases e : ev C.Γ l ρ δ with
      | stk => rw [e] at h2; exact h2
      | exc y δ' => rw [e] at h2; exact h2
      | ok d δ1 =>
        rw [e] at h2
        obtain ⟨ds, rfl, nl⟩ := ev_list hLL e
        simp only at h2 ⊢
        intro vs' H1 M1 S1 g pd
        obtain ⟨k1, l1, fin⟩ := h2 vs' H1 M1 S1 g pd
        exact w vs' H1 l1 fun kd => fin H1 (Ext.refl _ _) kd
    match ts, vs, h23, hvl, hn, hv, hswn, hsw, hA with
    | [t1, t2], [a, b'], _, _, hn, hv, hswn, hsw, hA =>
      obtain ⟨x, px, i, r, rfl, rfl⟩ := isn hn
      obtain ⟨g1, hn2⟩ := get hn
      obtain ⟨y, py, i2, r2, rfl, rfl⟩ := isn hn2
      obtain ⟨g2, hn3⟩ := get hn2
      cases hn3
      have hloc : isLoc sc x = true ∧ isLoc sc y = true ∧ swN sc [.Name x px, .Name y py] = [x, y] := by
        simp only [swN, List.filterMap_cons, List.filterMap_nil] at hswn ⊢
        cases e1 : (isLoc sc x && px.line == (([Expr.Name x px, Expr.Name y py].head?.map (·.pos.line)).getD 0)) <;> cases e2 : (isLoc sc y && py.line == (([Expr.Name x px, Expr.Name y py].head?.map (·.pos.line)).getD 0)) <;> simp only [e1, e2] at hswn ⊢ <;> simp at hswn
        simp only [Bool.and_eq_true] at e1 e2
        exact ⟨e1.1, e2.1, by simp⟩
      rw [hloc.2.2] at hsw
      have hij : i ≠ i2 := by
        have := List.nodup_cons.mp hnd
        simpa using this.1
      refine PS.to (PS.kdn (ps_par (i := i) (j := i2) ok.calm hN (gx g1) (gx g2) hij (lk hloc.1) (lk hloc.2.1) hA hsw rfl)) fun D σ H h => fin h fun vs' H1 lv q => ?_
      match vs', lv with
      | [u, w], _ => exact ⟨u, w, rfl, by rw [← ok.K]; exact q⟩
    | [t1, t2, t3], [a, b', d'], _, _, hn, hv, hswn, hsw, hA =>
      obtain ⟨x, px, i, r, rfl, rfl⟩ := isn hn
      obtain ⟨g1, hn2⟩ := get hn
      obtain ⟨y, py, i2, r2, rfl, rfl⟩ := isn hn2
      obtain ⟨g2, hn3⟩ := get hn2
      obtain ⟨z, pz, i3, r3, rfl, rfl⟩ := isn hn3
      obtain ⟨g3, hn4⟩ := get hn3
      cases hn4
      have hloc : isLoc sc x = true ∧ isLoc sc y = true ∧ isLoc sc z = true ∧ swN sc [.Name x px, .Name y py, .Name z pz] = [x, y, z] := by
        simp only [swN, List.filterMap_cons, List.filterMap_nil] at hswn ⊢
        cases e1 : (isLoc sc x && px.line == (([Expr.Name x px, Expr.Name y py, Expr.Name z pz].head?.map (·.pos.line)).getD 0)) <;> cases e2 : (isLoc sc y && py.line == (([Expr.Name x px, Expr.Name y py, Expr.Name z pz].head?.map (·.pos.line)).getD 0)) <;> cases e3 : (isLoc sc z && pz.line == (([Expr.Name x px, Expr.Name y py, Expr.Name z pz].head?.map (·.pos.line)).getD 0)) <;> simp only [e1, e2, e3] at hswn ⊢ <;> simp at hswn
        simp only [Bool.and_eq_true] at e1 e2 e3
        exact ⟨e1.1, e2.1, e3.1, by simp⟩
      rw [hloc.2.2.2] at hsw
      have n12 := List.nodup_cons.mp hnd
      have n23 := List.nodup_cons.mp n12.2
      have h12 : i ≠ i2 ∧ i ≠ i3 := by simpa using n12.1
      have h23' : i2 ≠ i3 := by simpa using n23.1
      refine PS.to (PS.kdn (ps_par3 (i := i) (j := i2) (l := i3) ok.calm hN (gx g1) (gx g2) (gx g3) h12.1 h12.2 h23' (lk hloc.1) (lk hloc.2.1) (lk hloc.2.2.1) hA hsw rfl)) fun D σ H h => fin h fun vs' H1 lv q => ?_
      match vs', lv with
      | [u, w, t], _ => exact ⟨u, w, t, rfl, by rw [← ok.K]; exact q⟩
end
end DC
set_option Elab.async false
set_option linter.all false
set_option maxRecDepth 100000
set_option maxHeartbeats 4000000
namespace DC
open PySem PySem.Spec L2
section
variable {X : Cx} {C : Cz} {c : TrC} {sc : Scope} {ex : Str → Bool} {k : Nat}
theorem pss_consD {st : Stmt} {r : List Stmt} {a b : Sm} (h1 : PS X st (tS C a)) (h2 : PSs X r (tS C b)) : PSs X (st :: r) (tS C (.seq a b)) := by
  refine PSs.to (pss_cons h1 h2) fun D σ H h => ?_
  obtain ⟨ρ, δ, M, n, S, h⟩ := h
  refine ⟨ρ, δ, M, n, S, ?_⟩
  simp only [exS] at h
  cases e : exS C.Γ C.md C.fr n a ρ δ with
  | nx ρ' δ' => rw [e] at h; exact fun σ' H' M' S' r' => ⟨ρ', δ', M', n, S', EndO.rel r' h⟩
  | ct ρ' δ' => rw [e] at h; exact h
  | rt d δ' => rw [e] at h; exact h
  | ex y δ' => rw [e] at h; exact h
  | stk => rw [e] at h; exact h
theorem pss_nilD : PSs X [] (tS C .skip) := PSs.to pss_nil fun D σ H h => by
  obtain ⟨ρ, δ, M, n, S, h⟩ := h
  exact h σ H M S (Rel.refl _ _)
theorem sSs {f : Stmt → Option Sm} (ih : ∀ s a, f s = some a → PS X s (tS C a)) : ∀ (ss : List Stmt) (a : Sm), trS.trSs f ss = some a → PSs X ss (tS C a)
  | [], a, h => by cases h; exact pss_nilD
  | s :: r, a, h => by
    simp only [trS.trSs] at h
    split at h
    · rename_i a' b' h1 h2
      cases h
      exact pss_consD (ih s a' h1) (sSs ih r b' h2)
    · rename_i b' h1 h2
      cases h
      exact pss_consD ps_badD (sSs ih r b' h2)
    · cases h
theorem sndS (ok : SOk X C c sc ex k) : ∀ (n : Nat) (st : Stmt) (s : Sm), trS c sc ex n st = some s → PS X st (tS C s)
  | 0, st, s, h => by simp [trS] at h
  | n + 1, st, s, h => by
    have ihP : ∀ m e x, tr c m sc e = some x → PE X e (tD C x) := fun m e x h => (snd m sc e x h X C ok.toCOk).1
    have ihT : ∀ m e x, tr c m sc e = some x → PT X e (tDT C x) := fun m e x h => (snd m sc e x h X C ok.toCOk).2
    unfold trS at h
    split at h
    case h_1 => cases h
    case h_2 =>
      cases h
      exact PS.to ps_pass fun D σ H h => by
        obtain ⟨ρ, δ, M, n, S, h⟩ := h
        exact h σ H M S (Rel.refl _ _)
    case h_3 =>
      cases h
      exact PS.to ps_continue fun D σ H h => by
        obtain ⟨ρ, δ, M, n, S, h⟩ := h
        exact h σ H M S (Rel.refl _ _)
    case h_4 =>
      cases h
      exact PS.to ps_retN fun D σ H h => by
        obtain ⟨ρ, δ, M, n, S, h⟩ := h
        simp only [exS] at h
        split at h
        · exact h.elim
        · exact h .non H S.kd S.ext S.dice rfl (fun _ es e => nomatch e)
    case h_5 =>
      rename_i x px pos heq
      split at h
      · cases h
      · rename_i ho
        have ho : oddName x = false := by simpa using ho
        split at h
        · rename_i hv
          cases e1 : ixS c.N x with
          | none => rw [e1] at h; cases h
          | some i =>
            rw [e1] at h
            simp only [Option.bind_some] at h
            split at h
            · cases h
            · cases h
              exact ps_retV ok (ixS_get e1) hv ho
        · split at h
          · rename_i hg
            cases h
            exact ps_retD ok (fun i z => nomatch z) (pe_glbD ok.toCOk hg ho)
          · cases h
    case h_6 =>
      rename_i e pos hnn heq
      cases e1 : tr c 30 sc e with
      | none => rw [e1] at h; cases h
      | some e' =>
        rw [e1] at h
        simp only [Option.bind_some] at h
        split at h
        · cases h
        · rename_i hv
          cases h
          exact ps_retD ok (fun i z => by subst z; exact hv rfl) (ihP _ _ _ e1)
    case h_7 =>
      rename_i x px m ap e cp pos heq
      split at h
      · rename_i hm
        subst hm
        split at h
        · rename_i i e' h1 h2 h3
          split at h
          · cases h
          · cases h
            have h1' : ((visB sc x = true ∧ oddName x = false) ∧ (ap.endLine == cp.line) = true) ∧ plainE e = true := by simpa using h1
            exact ps_appD ok h1'.1.1.1 h1'.1.1.2 h1'.1.2 h1'.2 h2 (ihP _ _ _ h3)
        · cases h
      · cases h
    case h_8 =>
      rename_i heq
      obtain ⟨e', e1, rfl⟩ := map_opt h
      exact ps_expD ok rfl (ihP _ _ _ e1)
    case h_9 =>
      rename_i x px elt tg iter ifs scope cpos spos heq
      split at h
      · rename_i hl
        have hl' : locB sc x = true ∧ oddName x = false := by simpa using hl
        split at h
        · rename_i i e' h1 h2
          split at h
          · cases h
          · rename_i hk
            cases h
            exact ps_asgL ok hl'.1 h1 hk h2
        · cases h
      · cases h
    case h_10 =>
      rename_i x px e pos hnl heq
      split at h
      · rename_i hl
        have hl' : (locB sc x = true ∧ oddName x = false) ∧ simpE e = true := by simpa using hl
        split at h
        · rename_i i e' h1 h2
          split at h
          · cases h
          · rename_i hk
            cases h
            exact ps_asgD ok hl'.1.1 h1 hk hl'.2 (ihP _ _ _ h2)
        · cases h
      · cases h
    case h_11 =>
      rename_i ts j tp vs j' vp pos heq
      split at h
      · rename_i is l b h1 h2 h3
        split at h
        · rename_i hc
          cases h
          have hc' : (is.length = vs.length ∧ is.Nodup) ∧ is.length ≤ 100 := by simpa using hc
          exact ps_parD ok (ihP 30) h1 h2 h3 hc'.1.1 hc'.1.2 hc'.2
        · cases h
      · cases h
    case h_12 =>
      rename_i ts j tp e pos hnt heq
      split at h
      · rename_i p e' h1 h2 h3
        cases h
        have h1' : plainE e = true ∧ simpE e = true := by simpa using h1
        exact ps_unpD ok h2 rfl h1'.2 (fun a b c z => hnt a b c z) (ihP _ _ _ h3)
      · cases h
    case h_13 =>
      split at h
      · rename_i i e' h1 h2 h3
        cases h
        have h2' := h2
        rw [Bool.and_eq_true] at h2'
        exact ps_dsetD ok h1 h2'.1 h2'.2 (ihP _ _ _ h3)
      · rename_i e' h1 h2 h3
        have h2' := h2
        rw [Bool.and_eq_true] at h2'
        split at h
        · rename_i a2 ht
          split at h
          · rename_i a' b' g1 g2 g3
            split at h
            · rename_i hq
              cases h
              have hq' : quiet a' = true ∧ quiet b' = true := by simpa using hq
              exact ps_tsetD ok ht g3 hq'.1 hq'.2 h2'.1 h2'.2 (ihP _ _ _ g1) (ihP _ _ _ g2) (ihP _ _ _ h3)
            · cases h
          · cases h
        · rename_i ht
          split at h
          · rename_i i b' g1 g2 g3
            split at h
            · rename_i hq
              cases h
              exact ps_lsetD ok g1 g3 hq h2'.1 h2'.2 (ihP _ _ _ g2) (ihP _ _ _ h3)
            · cases h
          · cases h
      · cases h
    case h_14 =>
      rename_i heq
      cases heq
      split at h
      · rename_i t' a' b' h1 h2 h3
        cases h
        exact ps_ifD ok (ihT _ _ _ h1) (sSs (sndS ok n) _ _ h2) (sSs (sndS ok n) _ _ h3)
      · cases h
    case h_15 =>
      rename_i heq
      cases heq
      split at h
      · rename_i p it' b' h1 h2 h3 h4
        cases h
        exact ps_forD ok h1 (s_iter ok.toCOk (ihP 30) h3) (sP ok.toCOk 3 _ _ h2) (sSs (sndS ok n) _ _ h4)
      · cases h
    case h_16 =>
      rename_i heq
      cases heq
      split at h
      · rename_i t' b' h1 h2
        cases h
        exact ps_whlD ok (ihT _ _ _ h1) (sSs (sndS ok n) _ _ h2)
      · cases h
    case h_17 =>
      rename_i x p1 s' k' p2 p3 p4 heq
      split at h
      · rename_i hc
        cases h
        have hc' : (ex x = true ∧ glB sc x = true) ∧ oddName x = false := by simpa using hc
        exact ps_raiD ok hc'.1.1 hc'.1.2
      · cases h
    case h_18 => cases h
end
end DC
set_option Elab.async false
set_option linter.all false
set_option maxRecDepth 100000
set_option maxHeartbeats 4000000
namespace DC
open PySem PySem.Spec L2
structure GloOk (P : Program) (w : World) (K : PySem.W.Frag) (mg : Str → Option Value) (base : Heap) (Γ : Glo) (c : TrC) (k : Nat) : Prop where
  fns : ∀ f fs, Γ.fn f = some fs → FnD P w K mg base k f fs ∧ fs.pats.map (fun p => (p.1, p.2.1)) = c.sg f ∧ fs.dice = c.dc f
  cst : ∀ x d, Γ.cs x = some d → ∃ u v, mg x = some u ∧ RelV v u ∧ ∀ M H, Rp K M H d v
  blt : ∀ x ∈ bltN, mg x = none
theorem sets0 {i : Nat} {n : Nat} {o : Option D} (h : (List.replicate n (none : Option D))[i]? = some o) : o = none := by
  rw [List.getElem?_replicate] at h
  split at h
  · cases h; rfl
  · cases h
section
variable {P : Program} {w : World} {K : PySem.W.Frag} {mg : Str → Option Value} {base : Heap} {x qual : Str} {params : Arguments} {body : List Stmt} {scope : Scope} {dvs : List V} {kws : List (Str × V)} {f : Addr} {fd : FuncData}
theorem sok_of {c : TrC} {ex : Str → Bool} {ps : List Str} {k : Nat} {Γ : Glo} (S : FnScope c.N ps scope) (G : GloOk P w K mg base Γ c k)
    (hx : ∀ y, ex y = true → ∀ X : Cx, X.K = K → X.mg = mg → Gl X y → ∃ Ca, mg y = some (.ref Ca) ∧ ∀ m j p p2 pos, PMk X (.Call (.Name y p) [.Constant (.str m) j p2] [] pos) (fun _ H Q => Q (.ref Ca) none H))
    {cdv : Value} {A : Around} {outer : List Env} {s0 : Shared} {H : Hp} {E : XK} (hr : Room k (cxOf (L2.CX P w) P w K mg base c.N qual scope f cdv A outer s0 H E).A) (C : Cz) (hK : C.K = K) (hm : C.mg = mg) (hΓ : C.Γ = Γ) (hmd : C.md = c.md) (hkd : C.kd = c.dk) (hE : C.E = E) (hp : c.tbl = false → c.dk < c.N.length → ∃ a, C.pd = some a) (htb : c.tbl = true → c.dk < c.N.length → ∃ ta ras, C.tb = some (ta, ras)) :
    SOk (cxOf (L2.CX P w) P w K mg base c.N qual scope f cdv A outer s0 H E) C c scope ex k := by
  subst hK hm hΓ hE
  exact {
    K := rfl
    mg := rfl
    N := rfl
    md := hmd
    nd := S.nd
    calm := rfl
    room := hr
    dk := hkd
    vis := fun y h => by
      show Vis scope y
      unfold visB at h
      unfold Vis
      cases e : scope.names.lookup y with
      | none => rw [e] at h; cases h
      | some kk =>
        rw [e] at h
        cases kk <;> first | (cases h; done) | exact .inl rfl | exact .inr (.inl rfl) | exact .inr (.inr rfl)
    gl := fun y h => by
      show scope.names.lookup y = some .globalImplicit
      unfold glB at h
      cases e : scope.names.lookup y with
      | none => rw [e] at h; cases h
      | some kk => rw [e] at h; cases kk <;> first | (cases h; done) | rfl
    loc := fun y h => by
      refine ⟨?_, .inl rfl⟩
      show L2.Loc scope y
      unfold locB at h
      unfold L2.Loc
      cases e : scope.names.lookup y with
      | none => rw [e] at h; cases h
      | some kk =>
        rw [e] at h
        cases kk <;> first | (cases h; done) | exact .inl rfl | exact .inr rfl
    fre := fun y h => h
    fns := G.fns
    cst := G.cst
    blt := G.blt
    tk := takes_of rfl rfl rfl rfl
    pdk := hp
    tdk := htb
    scp := rfl
    knd := S.kind
    pas := passes_of rfl
    exs := fun y h1 h2 => by
      refine hx y h1 _ rfl rfl ?_
      show scope.names.lookup y = some .globalImplicit
      unfold glB at h2
      cases e : scope.names.lookup y with
      | none => rw [e] at h2; cases h2
      | some kk => rw [e] at h2; cases kk <;> first | (cases h2; done) | rfl }
theorem fn_semB {c : TrC} {ex : Str → Bool} {ps : List Str} {k : Nat} {fs : Fs} {Γ : Glo} {s : Sm} (F : FunD K x qual params body scope dvs kws f fd) (S : FnScope c.N ps scope) (G : GloOk P w K mg base Γ c k)
    (hx : ∀ y, ex y = true → ∀ X : Cx, X.K = K → X.mg = mg → Gl X y → ∃ Ca, mg y = some (.ref Ca) ∧ ∀ m j p p2 pos, PMk X (.Call (.Name y p) [.Constant (.str m) j p2] [] pos) (fun _ H Q => Q (.ref Ca) none H))
    (hnp : fs.np = ps.length) (hdk : if fs.dice then c.dk = 0 else c.N.length ≤ c.dk) (hmd : ∀ i, i < ps.length → c.md.getD i false = false) (htbl : c.tbl = false) (ht : ∀ (X : Cx) (C : Cz), SOk X C c scope ex k → PSs X body (tS C s))
    (hsem : ∀ ds δ, fs.sem ds δ ≠ .stk → ∃ m, runF Γ c.md fs.fr c.N.length fs.dice s m ds δ = fs.sem ds δ) : FnOk P w K mg base (L2.CX P w) (k + 1) f fd ps (spD K mg fs) := by
  refine F.ok S (fun vs H Q E h => ?_) fun cdv A outer s0 H vs Q E hr h => ?_
  · obtain ⟨ds, δ, Mc, pd, e, _⟩ := h
    rw [e, hnp]
  · obtain ⟨ds, δ, Mc, pd, hl, kd, mok, hd, hq⟩ := h
    let C : Cz := { K := K, mg := mg, Γ := Γ, md := c.md, H0 := H, Mc := Mc, pd := pd, kd := c.dk, E := E, fr := fs.fr }
    have hpl : ps.length ≤ c.N.length := by
      have := congrArg List.length S.pre
      rw [List.length_take] at this
      omega
    have hvl : vs.length ≤ c.N.length := by rw [hl, hnp]; exact hpl
    have ok : SOk (cxOf (L2.CX P w) P w K mg base c.N qual scope f cdv A outer s0 H E) C c scope ex k := sok_of S G hx hr C rfl rfl rfl rfl rfl rfl (fun _ h => by
      cases e : fs.dice with
      | true =>
        rw [e, if_pos rfl] at hd
        obtain ⟨a, r, _, e2, _⟩ := hd
        exact ⟨a, e2⟩
      | false =>
        rw [e, if_neg (by decide)] at hdk
        omega) (fun z => by rw [htbl] at z; cases z)
    refine ⟨tS C s, ht _ C ok, ?_⟩
    have hns : fs.sem ds δ ≠ .stk := fun z => by rw [z] at hq; exact hq
    obtain ⟨m, hm⟩ := hsem ds δ hns
    have St0 : Stt C Mc ((if fs.dice then [none] else []) ++ ds.map some ++ List.replicate (c.N.length - ds.length - (if fs.dice then 1 else 0)) none) δ (start c.N vs) H := by
      have slots : ∀ (off : Nat) (us : List V), vs.length = us.length + off → (∀ (i : Nat) v, us[i]? = some v → (start c.N vs)[i + off]? = some (some v)) → Rps K Mc H ds us → ∀ (ρ : En), (∀ (i : Nat) d, ρ[i]? = some (some d) → off ≤ i ∧ ds[i - off]? = some d) →
          ∀ (i : Nat) d, ρ[i]? = some (some d) → ∃ v, (start c.N vs)[i]? = some (some v) ∧ Rp K Mc H d v ∧ RpT K Mc H d v ∧ (c.md.getD i false = false → Rp K Mc H d v) ∧ (c.md.getD i false = true → ∃ a ds, v = .ref a ∧ d = .lst ds ∧ Mc a ∧ ¬ Mc a) := by
        intro off us ho hst hr ρ hρ i d hi
        obtain ⟨h1, h2⟩ := hρ i d hi
        obtain ⟨v, e1, e2⟩ := hr.get h2
        have e3 := hst (i - off) v e1
        rw [show i - off + off = i by omega] at e3
        have hlt : i < ps.length := by
          have := (List.getElem?_eq_some_iff.mp e1).1
          rw [← hnp, ← hl]
          omega
        exact ⟨v, e3, e2, e2.top, fun _ => e2, fun z => by rw [hmd i hlt] at z; cases z⟩
      have stg : ∀ (i : Nat) v, vs[i]? = some v → (start c.N vs)[i]? = some (some v) := fun i v h => by
        unfold L2.start
        have hi : i < vs.length := (List.getElem?_eq_some_iff.mp h).1
        rw [List.getElem?_append_left (by simpa using hi), List.getElem?_map, h]
        rfl
      have slen : (start c.N vs).length = c.N.length := by
        unfold L2.start
        simp only [List.length_append, List.length_map, List.length_replicate]
        omega
      cases ed : fs.dice with
      | true =>
        rw [ed, if_pos rfl] at hd
        obtain ⟨a, r, rfl, rfl, hMa, hHa, hR⟩ := hd
        have hdl : ds.length = r.length := hR.length
        rw [ed, if_pos rfl] at hdk
        have hρ : ∀ (i : Nat) d, ([none] ++ ds.map some ++ List.replicate (c.N.length - ds.length - 1) none : En)[i]? = some (some d) → 1 ≤ i ∧ ds[i - 1]? = some d := by
          intro i d h
          cases i with
          | zero => simp at h
          | succ i =>
            refine ⟨by omega, ?_⟩
            have h' : (ds.map some ++ List.replicate (c.N.length - ds.length - 1) none : En)[i]? = some (some d) := by simpa using h
            by_cases hi : i < ds.length
            · rw [List.getElem?_append_left (by simpa using hi), List.getElem?_map] at h'
              obtain ⟨d', e1, e2⟩ := map_opt h'
              cases e2
              simpa using e1
            · rw [List.getElem?_append_right (by simpa using hi)] at h'
              have := sets0 h'
              cases this
        exact {
          sub := fun _ z => z
          mok := mok
          new := fun _ z => .inl z
          ext := Ext.refl _ _
          dice := ⟨fun b z => (by cases z; exact hHa), fun ta ras z => (nomatch z), fun p hp => (nomatch hp)⟩
          tpl := fun ta ras z => nomatch z
          Tpl := fun p hp => nomatch hp
          dpl := fun b z => by
            cases z
            refine ⟨hMa, ?_⟩
            show (start c.N (V.ref a :: r))[c.dk]? = _
            rw [hdk]
            exact stg 0 _ rfl
          slot := slots 1 r (by simp) (fun i v h => stg (i + 1) v (by simpa using h)) hR _ hρ
          dist := fun i j d e v h1 h2 h3 h4 h5 h6 h7 => by
            obtain ⟨q1, q2⟩ := hρ i d h4
            have hlt : i < ps.length := by
              have := (List.getElem?_eq_some_iff.mp q2).1
              rw [← hnp, ← hl, List.length_cons]
              omega
            have h1' : c.md.getD i false = true := h1
            rw [hmd i hlt] at h1'; cases h1'
          len := by
            rw [slen]
            simp only [if_true, List.length_append, List.length_map, List.length_replicate, List.length_cons, List.length_nil]
            rw [List.length_cons] at hvl
            omega
          kd := kd }
      | false =>
        rw [ed, if_neg (by decide)] at hd
        obtain ⟨rfl, hR⟩ := hd
        have hdl : ds.length = vs.length := hR.length
        have hρ : ∀ (i : Nat) d, ([] ++ ds.map some ++ List.replicate (c.N.length - ds.length - 0) none : En)[i]? = some (some d) → 0 ≤ i ∧ ds[i - 0]? = some d := by
          intro i d h
          refine ⟨by omega, ?_⟩
          have h' : (ds.map some ++ List.replicate (c.N.length - ds.length - 0) none : En)[i]? = some (some d) := by simpa using h
          by_cases hi : i < ds.length
          · rw [List.getElem?_append_left (by simpa using hi), List.getElem?_map] at h'
            obtain ⟨d', e1, e2⟩ := map_opt h'
            cases e2
            simpa using e1
          · rw [List.getElem?_append_right (by simpa using hi)] at h'
            have := sets0 h'
            cases this
        exact {
          sub := fun _ z => z
          mok := mok
          new := fun _ z => .inl z
          ext := Ext.refl _ _
          dice := ⟨fun b z => (nomatch z), fun ta ras z => (nomatch z), fun p hp => (nomatch hp)⟩
          dpl := fun b z => nomatch z
          tpl := fun ta ras z => nomatch z
          Tpl := fun p hp => nomatch hp
          slot := slots 0 vs (by simp) (fun i v h => stg i v h) hR _ hρ
          dist := fun i j d e v h1 h2 h3 h4 h5 h6 h7 => by
            obtain ⟨q1, q2⟩ := hρ i d h4
            have hlt : i < ps.length := by
              have := (List.getElem?_eq_some_iff.mp q2).1
              rw [← hnp, ← hl]
              omega
            have h1' : c.md.getD i false = true := h1
            rw [hmd i hlt] at h1'; cases h1'
          len := by
            rw [slen]
            have e1 : (if false = true then [none] else [] : En) = [] := rfl
            have e2 : (if false = true then 1 else 0 : Nat) = 0 := rfl
            simp only [e1, e2, List.length_append, List.length_map, List.length_replicate, List.length_nil]
            omega
          kd := kd }
    refine ⟨_, δ, Mc, m, St0, ?_⟩
    unfold runF at hm
    cases e : exS Γ c.md fs.fr m s ((if fs.dice then [none] else []) ++ ds.map some ++ List.replicate (c.N.length - ds.length - (if fs.dice then 1 else 0)) none) δ with
    | stk => rw [e] at hm; exact absurd hm.symm hns
    | ct ρ' δ' => rw [e] at hm; exact absurd hm.symm hns
    | nx ρ' δ' =>
      rw [e] at hm
      simp only at hm
      split at hm
      · exact absurd hm.symm hns
      · rename_i hf
        rw [← hm] at hq
        exact fun σ' H' M' S' r => hq .non H' S'.kd (S'.ext.mono fun a z => C.pds0 rfl rfl z) S'.dice.at_ rfl (fun z => absurd z hf)
    | rt d δ' =>
      rw [e] at hm
      rw [← hm] at hq
      exact fun v H' kd' x dc r fr => hq v H' kd' (x.mono fun a z => C.pds0 rfl rfl z) dc.at_ r fr
    | ex y δ' =>
      rw [e] at hm
      rw [← hm] at hq
      exact fun cls dd H' x dc z => hq cls dd H' (x.mono fun a z => C.pds0 rfl rfl z) dc.at_ z
theorem fn_sem {c : TrC} {ex : Str → Bool} {ps : List Str} {k n : Nat} {fs : Fs} {Γ : Glo} {s : Sm} (F : FunD K x qual params body scope dvs kws f fd) (S : FnScope c.N ps scope) (G : GloOk P w K mg base Γ c k)
    (hx : ∀ y, ex y = true → ∀ X : Cx, X.K = K → X.mg = mg → Gl X y → ∃ Ca, mg y = some (.ref Ca) ∧ ∀ m j p p2 pos, PMk X (.Call (.Name y p) [.Constant (.str m) j p2] [] pos) (fun _ H Q => Q (.ref Ca) none H))
    (hnp : fs.np = ps.length) (hdk : if fs.dice then c.dk = 0 else c.N.length ≤ c.dk) (hmd : ∀ i, i < ps.length → c.md.getD i false = false) (htbl : c.tbl = false) (ht : trS.trSs (trS c scope ex n) body = some s)
    (hsem : ∀ ds δ, fs.sem ds δ ≠ .stk → ∃ m, runF Γ c.md fs.fr c.N.length fs.dice s m ds δ = fs.sem ds δ) : FnOk P w K mg base (L2.CX P w) (k + 1) f fd ps (spD K mg fs) :=
  fn_semB F S G hx hnp hdk hmd htbl (fun X C ok => sSs (fun st a h => sndS ok n st a h) body s ht) hsem
end
end DC
set_option Elab.async false
set_option linter.all false
set_option maxRecDepth 100000
set_option maxHeartbeats 2000000
namespace DC
open PySem PySem.Spec PyProof.Rows L2 He
def obsX (xb : List (PySem.W.Frag → Bool)) (fn : List DefD) (K : PySem.W.Frag) : AlD := ((xb.all fun f => f K) && fn.all fun d => d.ok K, fn.map fun d => fnW K d.at_)
def SaysX (xb : List (PySem.W.Frag → Bool)) (fn : List DefD) (K : PySem.W.Frag) : Prop := obsX xb fn K = valD fn
def obsXG (n : Nat) (xb : List (PySem.W.Frag → Bool)) (fn : List DefD) (g : Addr → Option Obj) : AlD := obsX xb fn (frG g (asD g n))
def hookX (n : Nat) (xb : List (PySem.W.Frag → Bool)) (fn : List DefD) : PySem.W.Hook where
  α := AlD
  obs := fun s => obsXG n xb fn s.heap.get?
  val := fun _ => valD fn
  says := fun _ h => ∃ K : PySem.W.Frag, K.In h ∧ SaysX xb fn K
  of := fun _ _ e => ⟨_, frG_in, e⟩
  keeps := fun _ _ _ ⟨K, hK, c⟩ k => ⟨K, PySem.W.Frag.In.keeps hK k, c⟩
theorem obsXG_eq {n : Nat} {xb : List (PySem.W.Frag → Bool)} {fn : List DefD} {g : Addr → Option Obj} {s : Shared} (h : ∀ a, g a = s.heap.get? a) : obsXG n xb fn g = (hookX n xb fn).obs s := by
  have e : g = s.heap.get? := funext h
  rw [e] <;> rfl
section
variable {xb : List (PySem.W.Frag → Bool)} {fn : List DefD} {K : PySem.W.Frag}
theorem SaysX.fact (c : SaysX xb fn K) (i : Nat) {f : PySem.W.Frag → Bool} (h : xb[i]? = some f) : f K = true := by
  have c1 := (ba (show ((xb.all fun f => f K) && fn.all fun d => d.ok K) = true from congrArg (fun z : AlD => z.1) c)).1
  exact List.all_eq_true.mp c1 f (List.mem_of_getElem? h)
theorem SaysX.def_ (c : SaysX xb fn K) (i : Nat) {d : DefD} (h : fn[i]? = some d) : ∃ fd, FunD K d.name d.qual d.params d.body d.scope (d.dvs K) (d.kws K) (fAd K d.at_) fd := by
  have c2 := (ba (show ((xb.all fun f => f K) && fn.all fun d => d.ok K) = true from congrArg (fun z : AlD => z.1) c)).2
  have e : fn.map (fun d => fnW K d.at_) = fn.map DefD.val := congrArg (fun z : AlD => z.2) c
  have e2 : (fn.map fun d => fnW K d.at_)[i]? = (fn.map DefD.val)[i]? := by rw [e]
  rw [List.getElem?_map, List.getElem?_map, h] at e2
  exact DefD.funD (Option.some.inj e2) (List.all_eq_true.mp c2 d (List.mem_of_getElem? h))
end
end DC
set_option Elab.async false
set_option linter.all false
set_option maxRecDepth 100000
set_option maxHeartbeats 4000000
namespace DC
open PySem PySem.Spec L2
section
variable {X : Cx} {C : Cz} {c : TrC} {sc : Scope} {k : Nat}
def DeepI (H1 : Hp) (D : Addr) (accv : List V) (Hi : Hp) : Prop := ∃ as : List Addr, accv = as.map V.ref ∧ as.Nodup ∧ D ∉ as ∧ ∀ a ∈ as, H1 a = none ∧ ∃ us, Hi a = some (.lst us)
theorem DeepI.ext {P : MS} {H1 Hi H' : Hp} {D : Addr} {accv : List V} (d : DeepI H1 D accv Hi) (x : Ext P Hi H') (h : ∀ a, H1 a = none → ¬ P a) : DeepI H1 D accv H' := by
  obtain ⟨as, e, h1, h2, h3⟩ := d
  refine ⟨as, e, h1, h2, fun a z => ⟨(h3 a z).1, ?_⟩⟩
  obtain ⟨us, q⟩ := (h3 a z).2
  exact ⟨us, x.keep a _ q (h a (h3 a z).1) (fun _ z => nomatch z)⟩
theorem DeepI.snoc {P : MS} {H1 H3 H4 : Hp} {D p : Addr} {accv zs : List V} {us : List V} (d : DeepI H1 D accv H3) (x : Ext P H3 H4) (h : ∀ a, H1 a = none → ¬ P a) (h1 : H3 p = none) (h2 : H4 p = some (.lst us)) (h3 : H1 p = none) (hD : H3 D ≠ none) : DeepI H1 D (accv ++ [.ref p]) (upd H4 D (.lst zs)) := by
  obtain ⟨as, e, n1, n2, n3⟩ := d
  have hpD : p ≠ D := fun z => by rw [z] at h1; exact hD h1
  refine ⟨as ++ [p], by rw [e, List.map_append]; rfl, ?_, ?_, fun a z => ?_⟩
  · refine List.nodup_append.mpr ⟨n1, by simp, fun a ha b hb => ?_⟩
    have : b = p := by simpa using hb
    subst this
    intro e
    subst e
    obtain ⟨us, q⟩ := (n3 a ha).2
    rw [h1] at q; cases q
  · intro z
    rcases List.mem_append.mp z with z | z
    · exact n2 z
    · exact hpD (List.mem_singleton.mp z).symm
  · have haD : a ≠ D := fun w => by
      subst w
      rcases List.mem_append.mp z with z | z
      · exact n2 z
      · exact hpD (List.mem_singleton.mp z).symm
    rw [upd_ne haD]
    rcases List.mem_append.mp z with z | z
    · obtain ⟨us, q⟩ := (n3 a z).2
      exact ⟨(n3 a z).1, us, x.keep a _ q (h a (n3 a z).1) (fun _ z => nomatch z)⟩
    · have : a = p := by simpa using z
      subst this
      exact ⟨h3, us, h2⟩
def DeepF (K : PySem.W.Frag) (M : MS) (H H' : Hp) (xs : List DC.D) (v : V) : Prop := ∃ (p : Addr) (as : List Addr), v = .ref p ∧ H p = none ∧ H' p = some (.lst (as.map V.ref)) ∧ as.Nodup ∧ p ∉ as ∧ (∀ a ∈ as, H a = none ∧ ∃ us, H' a = some (.lst us)) ∧ Rps K M H' xs (as.map V.ref)
def tF (C : Cz) (own : List Nat) (p : Pat) (it cd el : Ex) : TE := fun σ H Q => ∃ ρ δ M, Stt C M ρ δ σ H ∧ match ev C.Γ it ρ δ with
  | .ok d δ1 => ∃ ds xs δ2, d.items = some ds ∧ compL (bindP p) (ev C.Γ cd) (ev C.Γ el) (wipeE ρ own) ds δ1 = .ok xs δ2 ∧ (∀ x ∈ xs, ∃ es, x = .lst es) ∧ ∀ v H', KD C.K H' → Ext C.pds H H' → DiceAt C δ2 H' → DeepF C.K C.Mc H H' xs v → Q v H'
  | _ => False
theorem lc_redF {own : List (Str × Nat)} {p : Pat} {it cd el : Ex} {σ : St} {H : Hp} {Q : VK} (ok : COk X C c sc k) (hk : c.dk ∉ own.map (·.2)) (ht : tpc c.md it = true) (hn : ∀ i ∈ p.names, i ∈ own.map (·.2))
    (hfr : frs C.Γ C.md el = true) (q : tF C (own.map (·.2)) p it cd el σ H Q) : tLc (tI C it) (gB C p) (tB' C cd) (eB C el) (own.map (·.2)) σ H fun v H' => KD X.K H' → Q v H' := by
  obtain ⟨ρ, δ, M, S, q⟩ := q
  refine ⟨ρ, δ, M, S, ?_⟩
  cases e : ev C.Γ it ρ δ with
  | stk => rw [e] at q; exact q.elim
  | exc y δ' => rw [e] at q; exact q.elim
  | ok d δ1 =>
    rw [e] at q
    obtain ⟨ds, xs, δ2, e1, e2, hlst, q⟩ := q
    refine ⟨ds, e1, fun J H1 bs us src k1 x1 dc1 hw hbc hbm hsrc D hD => ?_⟩
    have S1 := S.step x1 dc1 k1
    have ht' : tpc C.md it = true := by rw [ok.md]; exact ht
    have hbm := hbm ht'
    have hk' : C.kd ∉ own.map (·.2) := by rw [ok.dk]; exact hk
    have SB := S1.blk hD hk'
    have hDM : ¬ M D := S1.mok.none hD
    have hDp : ¬ C.pds D := fun z => hDM (S1.sub D (S1.pdM D z))
    have hD0 : C.H0 D = none := S1.ext.free hD hDp
    have fin : ∀ i, ds.length ≤ i → ds.drop i = [] := fun i h => List.drop_eq_nil_of_le h
    refine ⟨fun i m Hi => m + i = ds.length ∧ ∃ accd accv δi rest, Stt (C.blk D) (orAt M D) (wipeE ρ (own.map (·.2))) δi (wipe σ (own.map (·.2))) Hi ∧ Hi D = some (.lst accv) ∧
        Rps C.K (orAt C.Mc D) Hi accd accv ∧ (cln C.md el = true → Rps C.K (orAt M D) Hi accd accv) ∧ compL (bindP p) (ev C.Γ cd) (ev C.Γ el) (wipeE ρ (own.map (·.2))) (ds.drop i) δi = .ok rest δ2 ∧ accd ++ rest = xs ∧ accd.length ≤ i ∧ Ext C.pds H1 Hi ∧ DeepI H1 D accv Hi,
      ⟨ds.length, rfl, [], [], δ1, xs, SB, upd_same, rfl, fun _ => rfl, by simpa using e2, rfl, Nat.le_refl _, (Ext.refl _ _).updN hD, ⟨[], rfl, .nil, List.not_mem_nil, fun a z => nomatch z⟩⟩, fun i m Hi hW => ?_⟩
    obtain ⟨em, accd, accv, δi, rest, Si, hDi, r1, r2, e3, e4, e5, xi, dp⟩ := hW
    have np : ∀ a, H1 a = none → ¬ C.pds a := fun a h z => by obtain ⟨o, e⟩ := S1.dice.some_ a z; rw [e] at h; cases h
    have so : SrcOk C.K src H1 Hi := src_ok xi (fun a z => ⟨(hsrc a z).1, fun w => (hsrc a z).2.1 (S1.pdM a w)⟩) (fun a vs r w => S1.mokc.tup r (S1.pdM a w))
    by_cases hi : i < ds.length
    · refine .inr ⟨hw.go i Hi so Si.kd hi, fun H' => ∃ accd accv δi rest, Stt (C.blk D) (orAt M D) (wipeE ρ (own.map (·.2))) δi (wipe σ (own.map (·.2))) H' ∧ H' D = some (.lst accv) ∧
        Rps C.K (orAt C.Mc D) H' accd accv ∧ (cln C.md el = true → Rps C.K (orAt M D) H' accd accv) ∧ compL (bindP p) (ev C.Γ cd) (ev C.Γ el) (wipeE ρ (own.map (·.2))) (ds.drop (i + 1)) δi = .ok rest δ2 ∧ accd ++ rest = xs ∧ accd.length ≤ i + 1 ∧ Ext C.pds H1 H' ∧ DeepI H1 D accv H',
        fun H' h' => ⟨m - 1, by omega, by omega, h'⟩, fun v H2 hy => ?_⟩
      obtain ⟨hy, kd2⟩ := hy
      have ed : ds[i]? = some ds[i] := List.getElem?_eq_getElem hi
      obtain ⟨x2, hv⟩ := hw.yld i Hi v H2 ds[i] so Si.kd ed hy
      rw [List.drop_eq_getElem_cons hi] at e3
      simp only [compL] at e3
      have bc : ∀ {M' : MS}, Rps C.K M' H1 bs us → (∀ a, C.pds a → M' a) → MOk M' H1 → Rps C.K (orAt M' D) Hi bs us := fun {M'} hb hp hm => Rps.ext xi (fun a z => .inl (hp a z)) (fun a vs r w => S1.mokc.tup r (S1.pdM a w)) _ _ (Rps.free hD _ _ hb)
      have v1 : Rp C.K (orAt C.Mc D) H2 ds[i] v := hv _ Si.mokc (bc hbc S1.pdM S1.mokc)
      have v2 : Rp C.K (orAt M D) H2 ds[i] v := hv _ Si.mok (bc hbm (fun a z => S1.sub a (S1.pdM a z)) S1.mok)
      have S2 : Stt (C.blk D) (orAt M D) (wipeE ρ (own.map (·.2))) δi (wipe σ (own.map (·.2))) H2 := Si.step x2.no (Si.dice.keep x2) kd2
      have hD2 : H2 D = some (.lst accv) := x2.keep D _ hDi (fun q => q) (fun _ q => nomatch q)
      cases e6 : bindP p ds[i] (wipeE ρ (own.map (·.2))) with
      | none => rw [e6] at e3; cases e3
      | some ρ2 =>
        rw [e6] at e3
        simp only at e3
        refine ⟨D, _, δi, orAt M D, ds[i], ρ2, S2, v1, v2, e6, fun σ2 Sp sets => ⟨wipe_sets sets hn, ?_⟩⟩
        refine ⟨D, ρ2, δi, orAt M D, Sp, ?_⟩
        have r12 : Rps C.K (orAt C.Mc D) H2 accd accv := Rps.ext x2 (fun _ z => z.elim) (fun _ _ _ z => z) _ _ r1
        show match ev C.Γ cd ρ2 δi with
          | .ok (.bl b) δ' => _
          | .exc y δ' => _
          | _ => False
        cases e7 : ev C.Γ cd ρ2 δi with
        | stk => rw [e7] at e3; cases e3
        | exc y δ' => rw [e7] at e3; cases e3
        | ok dc δ3 =>
          rw [e7] at e3
          cases dc with
          | bl b =>
            intro H3 kd3 x3 dc3
            have S3 := Sp.step x3 dc3 kd3
            have hDp3 : ¬ (C.blk D).pds D := hDp
            have hD3 : H3 D = some (.lst accv) := x3.keep D _ hD2 hDp3 (fun _ q => nomatch q)
            have r13 : Rps C.K (orAt C.Mc D) H3 accd accv := Sp.rpsc x3 r12
            have x13 : Ext C.pds H1 H3 := (xi.trans x2.no).trans x3
            have S3' : Stt (C.blk D) (orAt M D) (wipeE ρ (own.map (·.2))) δ3 (wipe σ (own.map (·.2))) H3 := S2.step x3 dc3 kd3
            cases b with
            | false =>
              rw [if_neg (by decide)]
              exact ⟨accd, accv, δ3, rest, S3', hD3, r13, fun z => Sp.rps x3 (Rps.ext x2 (fun _ z => z.elim) (fun _ _ _ z => z) _ _ (r2 z)), e3, e4, Nat.le_succ_of_le e5, x13, (dp.ext x2 (fun _ _ z => z)).ext x3 np⟩
            | true =>
              rw [if_pos rfl]
              simp only at e3
              refine ⟨D, ρ2, δ3, orAt M D, S3, ?_⟩
              show match ev C.Γ el ρ2 δ3 with
                | .ok d δ' => _
                | .exc y δ' => _
                | .stk => False
              cases e8 : ev C.Γ el ρ2 δ3 with
              | stk => rw [e8] at e3; cases e3
              | exc y δ' => rw [e8] at e3; cases e3
              | ok dy δ4 =>
                rw [e8] at e3
                simp only [Res.bind] at e3
                cases e9 : compL (bindP p) (ev C.Γ cd) (ev C.Γ el) (wipeE ρ (own.map (·.2))) (ds.drop (i + 1)) δ4 with
                | stk => rw [e9] at e3; cases e3
                | exc y δ' => rw [e9] at e3; cases e3
                | ok rest' δ5 =>
                  rw [e9] at e3
                  simp only at e3
                  injection e3 with e3a e3b
                  subst e3b
                  intro y H4 kd4 x4 dc4 V4
                  have hD4 : H4 D = some (.lst accv) := x4.keep D _ hD3 hDp3 (fun _ q => nomatch q)
                  have r14 : Rps C.K (orAt C.Mc D) H4 accd accv := S3.rpsc x4 r13
                  have x14 : Ext C.pds H1 H4 := x13.trans x4
                  have S4 : Stt (C.blk D) (orAt M D) (wipeE ρ (own.map (·.2))) δ4 (wipe σ (own.map (·.2))) H4 := S3'.step x4 dc4 kd4
                  have xw : Ext (fun a => a = D) H4 (upd H4 D (.lst (accv ++ [y]))) := Ext.write (P := fun a => a = D) rfl hD4 (fun _ q => nomatch q)
                  have hT : ∀ a vs, Rd H4 a (.tup vs) → ¬ (a = D) := fun a vs r z => by
                    subst z
                    rcases r with r | ⟨o, r⟩ <;> rw [hD4] at r <;> cases r
                  have hlen : accv.length < sizeLine := by
                    rw [← r14.length]
                    have := hw.few
                    omega
                  refine ⟨accv, hD4, hlen, accd ++ [dy], accv ++ [y], δ4, rest', ?_, upd_same, ?_, fun z => ?_, e9, ?_, by rw [List.length_append]; simp; omega, x14.updN hD, ?_⟩
                  · refine S4.stepP (P := fun a => a = D) (fun a z => .inr z) xw (fun a z => ?_) ?_ ?_ kd4.lst
                    · by_cases ha : a = D
                      · rw [ha]; exact .inl ⟨_, upd_same⟩
                      · rw [upd_ne ha]; exact S4.mok a z
                    · exact (S4.ext).updN hD0
                    · exact dc4.write hD4 hDp
                  · refine Rps.ext xw (fun a z => .inr z) hT _ _ (r14.append ⟨y, [], rfl, V4.rc, rfl⟩)
                  · have rc := r2 z
                    have rc4 : Rps C.K (orAt M D) H4 accd accv := S3.rps x4 (Sp.rps x3 (Rps.ext x2 (fun _ z => z.elim) (fun _ _ _ z => z) _ _ rc))
                    exact Rps.ext xw (fun a z => .inr z) hT _ _ (rc4.append ⟨y, [], rfl, V4.cl z, rfl⟩)
                  · rw [List.append_assoc]
                    show accd ++ (dy :: rest') = xs
                    rw [e3a]; exact e4
                  · have hdy : dy ∈ xs := by rw [← e4, ← e3a]; simp
                    obtain ⟨es, rfl⟩ := hlst dy hdy
                    obtain ⟨pf, uf, ep, f1, f2, f3, f4⟩ := V4.fr hfr es rfl
                    subst ep
                    exact ((dp.ext x2 (fun _ _ z => z)).ext x3 np).snoc x4 np f1 f2 (x13.free f1 (fun z => by obtain ⟨o, e⟩ := S3.dice.some_ pf z; rw [f1] at e; cases e)) (by rw [hD3]; simp)
          | _ => cases e3
    · have hi' : ds.length ≤ i := by omega
      have ei : i = ds.length := by omega
      rw [fin i hi'] at e3
      simp only [compL] at e3
      cases e3
      rw [List.append_nil] at e4
      subst e4
      refine .inl ⟨by rw [ei]; exact hw.stop Hi so Si.kd, fun kd => ?_⟩
      have hl : accd.length ≤ sizeLine := Nat.le_trans e5 (by rw [ei]; exact hw.few)
      have hf : H D = none := x1.free hD hDp
      obtain ⟨as, ea, a1, a2, a3⟩ := dp
      subst ea
      exact q (.ref D) Hi Si.kd (x1.trans xi) ⟨Si.dice.at_, Si.dice.row, Si.dice.tab⟩ ⟨D, as, rfl, hf, hDi, a1, a2, fun a z => ⟨x1.free (a3 a z).1 (np a (a3 a z).1), (a3 a z).2⟩, Rps.mono (fun a z => .inl z) _ _ r1⟩

theorem pe_lcF {elt tg iter : Expr} {ifs : List Expr} {scope : Scope} {pos : Pos} {own : List (Str × Nat)} {p : Pat} {it cd el : Ex} (ok : COk X C c sc k) (hb : blkC c.N sc scope own = true) (hk : c.dk ∉ own.map (·.2)) (hpl : plainE iter = true) (ht : tpc c.md it = true) (hn : ∀ i ∈ p.names, i ∈ own.map (·.2)) (hfr : frs C.Γ C.md el = true)
    (hi : PI X tg iter (tI C it))
    (hg : ∀ D s H C0 cl fp, PG (X.blk s H scope (compEnvC scope cl C0 X.env) fp) tg (gD (C.blk D) p)) (hc : ∀ D s H C0 cl fp, PTs (X.blk s H scope (compEnvC scope cl C0 X.env) fp) ifs (tDT (C.blk D) cd))
    (he : ∀ D s H C0 cl fp, PE (X.blk s H scope (compEnvC scope cl C0 X.env) fp) elt (tD (C.blk D) el)) :
    PE X (.ListComp elt [⟨tg, iter, ifs, 0⟩] scope pos) (tF C (own.map (·.2)) p it cd el) := by
  have hs : ∀ x, foldedSetIterable iter X.env x = pure x := fun x => by cases iter <;> first | rfl | cases hpl
  exact PE.to (PE.kd (pe_lc (g := gB C p) (tt := tB' C cd) (te := eB C el) ok.calm (by rw [ok.N]; exact ok.nd) hi (blk_ok ok hb)
    (fun s H C0 cl fp => ⟨fun pins s' σ H' v u Q I r q => by obtain ⟨D, q⟩ := q; exact (hg D s H C0 cl fp).run pins s' σ H' v u Q I r q⟩)
    (fun s H C0 cl fp => ⟨fun pins s' σ H' Q I q => by obtain ⟨D, q⟩ := q; exact (hc D s H C0 cl fp).run pins s' σ H' Q I q⟩)
    (fun s H C0 cl fp => ⟨fun pins s' σ H' Q I q => by obtain ⟨D, q⟩ := q; exact (he D s H C0 cl fp).run pins s' σ H' Q I q⟩) hs)) fun σ H Q q => lc_redF ok hk ht hn hfr q
theorem pe_lcFt {n : Nat} {elt tg iter : Expr} {ifs : List Expr} {scope : Scope} {pos : Pos} {own : List Nat} {p : Pat} {it cd el : Ex} (ok : COk X C c sc k) (h : tr c (n + 1) sc (.ListComp elt [⟨tg, iter, ifs, 0⟩] scope pos) = some (.comp own p it cd el)) (hfr : frs C.Γ C.md el = true) : PE X (.ListComp elt [⟨tg, iter, ifs, 0⟩] scope pos) (tF C own p it cd el) := by
  have ihP : ∀ (sc : Scope) (X : Cx) (C : Cz), COk X C c sc k → ∀ e x, tr c n sc e = some x → PE X e (tD C x) := fun sc X C ok e x h => (snd n sc e x h X C ok).1
  have ihT : ∀ (sc : Scope) (X : Cx) (C : Cz), COk X C c sc k → ∀ e x, tr c n sc e = some x → PT X e (tDT C x) := fun sc X C ok e x h => (snd n sc e x h X C ok).2
  simp only [tr] at h
  split at h
  · rename_i p it cd el h1 h2 h3 h4 h5 h6
    split at h
    · rename_i ht
      cases h
      simp only [Bool.and_eq_true, Bool.not_eq_true'] at h1
      refine pe_lcF ok h1.1 ?_ h6 ht (names_own 3 _ _ h2) hfr (s_iter ok (ihP _ X C ok) h3) (fun D s H C0 cl fp => sP (ok.blk D s H scope C0 cl fp) 3 _ _ h2) (fun D s H C0 cl fp => ?_) (fun D s H C0 cl fp => ihP _ _ _ (ok.blk D s H scope C0 cl fp) _ _ h5)
      · intro z
        have := List.contains_iff_mem.mpr z
        rw [h1.2] at this
        cases this
      · unfold trIfs at h4
        split at h4
        · cases h4
          refine ⟨fun pins s' σ H' Q I q => ?_⟩
          obtain ⟨ρ, δ, M, S, q⟩ := q
          exact pts_nil.run pins s' σ H' Q I (q H' S.kd (Ext.refl _ _) S.dice)
        · exact pts_one (ihT _ _ _ (ok.blk D s H scope C0 cl fp) _ _ h4)
        · cases h4
    · cases h
  · cases h
end
end DC
set_option Elab.async false
set_option linter.all false
set_option maxRecDepth 100000
set_option maxHeartbeats 4000000
namespace DC
open PySem PySem.Spec L2
section
variable {P : Program} {w : World} {K : PySem.W.Frag} {mg : Str → Option Value} {base : Heap} {x qual : Str} {params : Arguments} {body : List Stmt} {scope : Scope} {dvs : List V} {kws : List (Str × V)} {f : Addr} {fd : FuncData}
def spR (K : PySem.W.Frag) : Sp := fun vs H Q _ => ∃ (a : Addr) (ns : List Int) (most : Int), vs = [.ref a, .int most] ∧ SqL K H a (ns.map V.int) ∧ ns.length ≤ sizeLine ∧ KD K H ∧
  ∀ (p : Addr) (as : List Addr) (H' : Hp), KD K H' → Ext (fun _ => False) H H' → H p = none → H' p = some (.lst (as.map V.ref)) → as.Nodup → p ∉ as → (∀ a ∈ as, H a = none ∧ ∃ cell : Int, H' a = some (.lst [.int cell, .int 0])) → Q (.ref p) H'
theorem start_get {N : List Str} {vs : List V} {i : Nat} {v : V} (h : vs[i]? = some v) : (start N vs)[i]? = some (some v) := by
  unfold L2.start
  have hi : i < vs.length := (List.getElem?_eq_some_iff.mp h).1
  rw [List.getElem?_append_left (by simpa using hi), List.getElem?_map, h]
  rfl
theorem start_len {N : List Str} {vs : List V} (h : vs.length ≤ N.length) : (start N vs).length = N.length := by
  unfold L2.start
  simp only [List.length_append, List.length_map, List.length_replicate]
  omega
theorem rounds_ok {c : TrC} {k n : Nat} {Γ : Glo} {elt tg iter : Expr} {ifs : List Expr} {scope' : Scope} {p1 p2 : Pos} {own : List Nat} {pt : Pat} {it cd el : Ex} (F : FunD K x qual params body scope dvs kws f fd) (S : FnScope c.N ["script", "most"] scope) (G : GloOk P w K mg base Γ c k)
    (hdk : c.N.length ≤ c.dk) (hN2 : 2 ≤ c.N.length) (hmd : c.md = []) (hb : body = [.Return (some (.ListComp elt [⟨tg, iter, ifs, 0⟩] scope' p1)) p2]) (ht : tr c (n + 1) scope (.ListComp elt [⟨tg, iter, ifs, 0⟩] scope' p1) = some (.comp own pt it cd el)) (hfr : frs Γ c.md el = true)
    (hsem : ∀ (ns : List Int) (most : Int), ns.length ≤ sizeLine → ∃ d δ1, ev Γ it ([some (.scr ns), some (.int most)] ++ List.replicate (c.N.length - 2) none) (0, 0, []) = .ok d δ1 ∧
      ∃ (ds : List D) (cells : List Int) (δ2 : Dice), d.items = some ds ∧ compL (bindP pt) (ev Γ cd) (ev Γ el) (wipeE ([some (.scr ns), some (.int most)] ++ List.replicate (c.N.length - 2) none) own) ds δ1 = .ok (cells.map fun i : Int => D.lst [.int i, .int 0]) δ2) :
    FnOk P w K mg base (L2.CX P w) (k + 1) f fd ["script", "most"] (spR K) := by
  refine F.ok S (fun vs H Q E h => ?_) fun cdv A outer s0 H vs Q E hr h => ?_
  · obtain ⟨a, ns, most, rfl, _⟩ := h; rfl
  · obtain ⟨a, ns, most, rfl, hS, hl, kd, q⟩ := h
    let C : Cz := { K := K, mg := mg, Γ := Γ, md := c.md, H0 := H, Mc := fun _ => False, pd := none, kd := c.dk, E := E }
    have ok := sok_of (cdv := cdv) (A := A) (outer := outer) (s0 := s0) (H := H) (E := E) (f := f) (qual := qual) (ex := fun _ => false) S G (fun y h => nomatch h) hr C rfl rfl rfl rfl rfl rfl (fun _ h => by omega) (fun _ h => by omega)
    subst hb
    refine ⟨_, pss_one (ps_ret (pe_lcFt ok.toCOk ht hfr)), ?_⟩
    have St0 : Stt C (fun _ => False) ([some (.scr ns), some (.int most)] ++ List.replicate (c.N.length - 2) none) (0, 0, []) (start c.N [.ref a, .int most]) H := {
      sub := fun _ z => z
      mok := fun _ z => z.elim
      new := fun _ z => .inl z
      ext := Ext.refl _ _
      dice := ⟨fun _ z => (nomatch z), fun ta ras z => (nomatch z), fun p hp => (nomatch hp)⟩
      dpl := fun _ z => nomatch z
      tpl := fun ta ras z => nomatch z
      Tpl := fun p hp => nomatch hp
      slot := fun i d e => by
        have hmf : C.md.getD i false = false := by show c.md.getD i false = false; rw [hmd]; rfl
        match i, e with
        | 0, e =>
          cases e
          have r : Rp K (fun _ => False) H (.scr ns) (.ref a) := ⟨a, rfl, hS, fun z => z.elim, hl⟩
          exact ⟨.ref a, start_get rfl, r, r.top, fun _ => r, fun z => by rw [hmf] at z; cases z⟩
        | 1, e =>
          cases e
          exact ⟨.int most, start_get rfl, rfl, rfl, fun _ => rfl, fun z => by rw [hmf] at z; cases z⟩
        | i + 2, e =>
          have e' : (List.replicate (c.N.length - 2) (none : Option DC.D))[i]? = some (some d) := by simpa using e
          cases sets0 e'
      dist := fun i j d e v h1 h2 h3 h4 h5 h6 h7 => by
        have hmf : C.md.getD i false = false := by show c.md.getD i false = false; rw [hmd]; rfl
        rw [hmf] at h1; cases h1
      len := by
        rw [start_len (by simpa using hN2)]
        simp only [List.length_append, List.length_replicate, List.length_cons, List.length_nil]
        omega
      kd := kd }
    obtain ⟨d, δ1, e, ds, cells, δ2, e1, e2⟩ := hsem ns most hl
    refine ⟨_, (0, 0, []), fun _ => False, St0, ?_⟩
    show match ev Γ it ([some (.scr ns), some (.int most)] ++ List.replicate (c.N.length - 2) none) (0, 0, []) with
      | .ok d δ1 => _
      | _ => False
    rw [e]
    refine ⟨ds, _, δ2, e1, e2, fun y hy => ?_, fun v H' kd' x' _ df => ?_⟩
    · obtain ⟨i, _, rfl⟩ := List.mem_map.mp hy
      exact ⟨_, rfl⟩
    · obtain ⟨p, as, rfl, h1, h2, h3, h4, h5, h6⟩ := df
      refine q p as H' kd' (x'.mono fun a z => nomatch (C.pds0 rfl rfl z : (none : Option Addr) = some a)) h1 h2 h3 h4 fun a ha => ⟨(h5 a ha).1, ?_⟩
      obtain ⟨j, hj, ej⟩ := List.getElem_of_mem ha
      obtain ⟨d', g1, g2⟩ := h6.get' (i := j) (v := .ref a) (by rw [List.getElem?_map, List.getElem?_eq_getElem hj, ej]; rfl)
      rw [List.getElem?_map] at g1
      obtain ⟨cell, g3, rfl⟩ := map_opt g1
      obtain ⟨a', vs, ea, hr', _, _, hs⟩ := g2
      cases ea
      obtain ⟨u1, u2, rfl, z1, z2⟩ := hs.two
      cases (show u1 = .int cell from z1)
      cases (show u2 = .int 0 from z2)
      exact ⟨cell, hr'⟩
def Out.L (n : Nat) : Out → Prop
  | .nx ρ _ => ρ.length = n
  | .ct ρ _ => ρ.length = n
  | _ => True
theorem bindP_lenE : ∀ (p : Pat) (d : DC.D) (ρ ρ' : En), bindP p d ρ = some ρ' → ρ'.length = ρ.length := by
  intro p
  induction p with
  | nm i => intro d ρ ρ' h; simp only [bindP] at h; cases h; exact List.length_set
  | nil =>
    intro d ρ ρ' h
    cases d with
    | tup ds =>
      cases ds with
      | nil => cases h; rfl
      | cons d ds => cases h
    | _ => cases h
  | cons p r ihp ihr =>
    intro d ρ ρ' h
    cases d with
    | tup ds =>
      cases ds with
      | nil => cases h
      | cons d ds =>
        simp only [bindP] at h
        cases e : bindP p d ρ with
        | none => rw [e] at h; cases h
        | some ρ1 =>
          rw [e] at h
          rw [ihr _ _ _ h, ihp _ _ _ e]
    | _ => cases h
theorem putS_len {Γ : Glo} {md : List Bool} {i : Nat} {x : Ex} {d : DC.D} {ρ ρ' : En} (h : putS Γ md i x d ρ = some ρ') : ρ'.length = ρ.length := by
  unfold putS at h
  split at h
  · split at h
    · cases h; exact List.length_set
    · cases h
  · split at h
    · cases h; exact List.length_set
    · cases h
theorem putP_len {Γ : Glo} {md : List Bool} : ∀ (is : List Nat) (x : Ex) (ds : List DC.D) (ρ ρ' : En), putP Γ md is x ds ρ = some ρ' → ρ'.length = ρ.length := by
  intro is
  induction is with
  | nil =>
    intro x ds ρ ρ' h
    cases x with
    | nil => cases ds with
      | nil => cases h; rfl
      | cons d ds => cases h
    | _ => cases h
  | cons i is ih =>
    intro x ds ρ ρ' h
    cases x with
    | cons x xs => cases ds with
      | nil => cases h
      | cons d ds =>
        simp only [putP] at h
        cases e : putS Γ md i x d ρ with
        | none => rw [e] at h; cases h
        | some ρ1 =>
          rw [e] at h
          rw [ih xs ds _ _ h, putS_len e]
    | _ => cases h
theorem forL_len {p : Pat} {fb : En → Dice → Out} (hb : ∀ ρ δ, (fb ρ δ).L ρ.length) : ∀ (ds : List DC.D) (ρ : En) (δ : Dice), (forL p fb ds ρ δ).L ρ.length
  | [], ρ, δ => rfl
  | d :: ds, ρ, δ => by
    simp only [forL]
    cases e : bindP p d ρ with
    | none => trivial
    | some ρ1 =>
      simp only
      have h := hb ρ1 δ
      rw [bindP_lenE _ _ _ _ e] at h
      cases e2 : fb ρ1 δ with
      | nx ρ2 δ2 =>
        rw [e2] at h
        have := forL_len (p := p) hb ds ρ2 δ2
        rw [show ρ2.length = _ from h] at this
        exact this
      | ct ρ2 δ2 =>
        rw [e2] at h
        have := forL_len (p := p) hb ds ρ2 δ2
        rw [show ρ2.length = _ from h] at this
        exact this
      | _ => trivial
theorem whlN_len {ft : En → Dice → Res DC.D} {fb : En → Dice → Out} (hb : ∀ ρ δ, (fb ρ δ).L ρ.length) : ∀ (n : Nat) (ρ : En) (δ : Dice), (whlN ft fb n ρ δ).L ρ.length
  | 0, ρ, δ => trivial
  | n + 1, ρ, δ => by
    simp only [whlN]
    cases e : ft ρ δ with
    | stk => trivial
    | exc y δ' => trivial
    | ok d δ1 =>
      simp only [Res.out]
      split
      · have h := hb ρ δ1
        cases e2 : fb ρ δ1 with
        | nx ρ2 δ2 =>
          rw [e2] at h
          have := whlN_len (ft := ft) hb n ρ2 δ2
          rw [show ρ2.length = _ from h] at this
          exact this
        | ct ρ2 δ2 =>
          rw [e2] at h
          have := whlN_len (ft := ft) hb n ρ2 δ2
          rw [show ρ2.length = _ from h] at this
          exact this
        | _ => trivial
      · rfl
      · trivial
theorem exS_len {Γ : Glo} {md : List Bool} {fr : Bool} (n : Nat) : ∀ (s : Sm) (ρ : En) (δ : Dice), (exS Γ md fr n s ρ δ).L ρ.length
  | .skip, ρ, δ => rfl
  | .seq a b, ρ, δ => by
    simp only [exS]
    have h := exS_len (Γ := Γ) (md := md) (fr := fr) n a ρ δ
    cases e : exS Γ md fr n a ρ δ with
    | nx ρ' δ' =>
      rw [e] at h
      have := exS_len (Γ := Γ) (md := md) (fr := fr) n b ρ' δ'
      rw [show ρ'.length = _ from h] at this
      exact this
    | ct ρ' δ' => rw [e] at h; exact h
    | _ => trivial
  | .asg i x, ρ, δ => by
    simp only [exS]
    cases ev Γ x ρ δ with
    | ok d δ1 =>
      simp only [Res.out]
      cases e : putS Γ md i x d ρ with
      | none => trivial
      | some ρ' => exact putS_len e
    | _ => trivial
  | .unp p x, ρ, δ => by
    simp only [exS]
    cases ev Γ x ρ δ with
    | ok d δ1 =>
      simp only [Res.out]
      split
      · cases e : bindP p d ρ with
        | none => trivial
        | some ρ' => exact bindP_lenE _ _ _ _ e
      · trivial
    | _ => trivial
  | .par is x, ρ, δ => by
    simp only [exS]
    cases ev Γ x ρ δ with
    | ok d δ1 =>
      simp only [Res.out]
      split
      · rename_i ds
        cases e : putP Γ md is x ds ρ with
        | none => trivial
        | some ρ' => exact putP_len _ _ _ _ _ e
      · trivial
    | _ => trivial
  | .app i x, ρ, δ => by
    simp only [exS]
    split
    · cases ev Γ x ρ δ with
      | ok d δ1 =>
        simp only [Res.out]
        split
        · exact List.length_set
        · trivial
      | _ => trivial
    · trivial
  | .iff t a b, ρ, δ => by
    simp only [exS]
    cases ev Γ t ρ δ with
    | ok d δ1 =>
      simp only [Res.out]
      split
      · exact exS_len n a ρ δ1
      · exact exS_len n b ρ δ1
      · trivial
    | _ => trivial
  | .fr p it b, ρ, δ => by
    simp only [exS]
    split
    · cases ev Γ it ρ δ with
      | ok d δ1 =>
        simp only [Res.out]
        split
        · exact forL_len (fun ρ δ => exS_len n b ρ δ) _ ρ δ1
        · trivial
      | _ => trivial
    · trivial
  | .whl t b, ρ, δ => by
    simp only [exS]
    exact whlN_len (fun ρ δ => exS_len n b ρ δ) n ρ δ
  | .ret x, ρ, δ => by
    simp only [exS]
    split
    · cases ev Γ x ρ δ <;> trivial
    · trivial
  | .retN, ρ, δ => by
    simp only [exS]
    split <;> trivial
  | .rai c, ρ, δ => trivial
  | .exp x, ρ, δ => by
    simp only [exS]
    cases ev Γ x ρ δ with
    | ok d δ1 => rfl
    | _ => trivial
  | .cont, ρ, δ => rfl
  | .bad, ρ, δ => trivial
  | .tset a b x, ρ, δ => by
    simp only [exS]
    cases ev Γ x ρ δ with
    | ok d δ1 =>
      simp only [Res.out]
      cases ev Γ a ρ δ1 with
      | ok i δ2 =>
        simp only
        cases ev Γ b ρ δ2 with
        | ok j δ3 =>
          simp only
          split
          · split
            · split
              · rfl
              · trivial
            · trivial
          · trivial
        | _ => trivial
      | _ => trivial
    | _ => trivial
  | .lset i k x, ρ, δ => by
    simp only [exS]
    cases ev Γ x ρ δ with
    | ok d δ1 =>
      simp only [Res.out]
      cases ev Γ k ρ δ1 with
      | ok kk δ2 =>
        simp only
        split
        · split
          · split
            · exact List.length_set
            · trivial
          · trivial
        · trivial
      | _ => trivial
    | _ => trivial
  | .dset i x, ρ, δ => by
    simp only [exS]
    cases ev Γ x ρ δ with
    | ok d δ1 =>
      simp only [Res.out]
      split
      · rfl
      · trivial
    | _ => trivial
def spL (K : PySem.W.Frag) : Sp := fun vs H Q _ => ∃ (a : Addr) (ns : List Int), vs = [.ref a] ∧ SqL K H a (ns.map V.int) ∧ ns.length ≤ sizeLine ∧ KD K H ∧ ∀ H', Q (.bl true) H'
theorem PSs.some {X : Cx} {ss : List Stmt} {ι : Type} {t : ι → TS} (h : ∀ i, PSs X ss (t i)) : PSs X ss (fun D σ H => ∃ i, t i D σ H) := ⟨fun pins s σ H D I ⟨i, q⟩ => (h i).run pins s σ H D I q⟩
theorem law_okB {c : TrC} {ex : Str → Bool} {k : Nat} {Γ : Glo} {s : Sm} {B : List Stmt} {most : Int} {j j2 : Nat} {p0 p1 p2 p3 p4 p5 p6 p7 : Pos} {fr : Addr} {fdr : FuncData} (F : FunD K x qual params body scope dvs kws f fd) (S : FnScope c.N ["script"] scope) (G : GloOk P w K mg base Γ c k)
    (hx : ∀ y, ex y = true → ∀ X : Cx, X.K = K → X.mg = mg → Gl X y → ∃ Ca, mg y = some (.ref Ca) ∧ ∀ m j p p2 pos, PMk X (.Call (.Name y p) [.Constant (.str m) j p2] [] pos) (fun _ H Q => Q (.ref Ca) none H))
    (hb : body = [.For (.Name "dice" p0) (.Call (.Name "_law_rounds" p1) [.Name "script" p2, .Constant (.int most) j p3] [] p4) B [] p5, .Return (some (.Constant (.bool true) j2 p6)) p7])
    (hs0 : c.N[0]? = some ("script" : Str)) (hd0 : c.N[c.dk]? = some ("dice" : Str)) (hk0 : c.dk ≠ 0) (htbl : c.tbl = false) (hv : visB scope "script" = true) (hv2 : locB scope "dice" = true) (hg : glB scope "_law_rounds" = true)
    (gr : mg "_law_rounds" = some (.ref fr)) (kr : PySem.W.keepIn K (.ref fr) = true) (br : Binds K fdr ["script", "most"] []) (Fr : FnOk P w K mg base (L2.CX P w) k fr fdr ["script", "most"] (spR K))
    (ht : ∀ (X : Cx) (C : Cz), SOk X C c scope ex k → PSs X B (tS C s))
    (hrun : ∀ cell : Int, ∃ m ρ' δ', exS Γ c.md false m s (List.replicate c.N.length none) (cell, 0, []) = .nx ρ' δ' ∨ exS Γ c.md false m s (List.replicate c.N.length none) (cell, 0, []) = .ct ρ' δ') :
    FnOk P w K mg base (L2.CX P w) (k + 1) f fd ["script"] (spL K) := by
  refine F.ok S (fun vs H Q E h => ?_) fun cdv A outer s0 H vs Q E hr h => ?_
  · obtain ⟨a, ns, rfl, _⟩ := h; rfl
  · obtain ⟨a, ns, rfl, hS, hl, kd, q⟩ := h
    let CC : Addr × Hp → Cz := fun i => { K := K, mg := mg, Γ := Γ, md := c.md, H0 := i.2, Mc := fun b => b = i.1, pd := some i.1, kd := c.dk, E := E }
    have ok : ∀ i, SOk (cxOf (L2.CX P w) P w K mg base c.N qual scope f cdv A outer s0 H E) (CC i) c scope ex k := fun i => sok_of (cdv := cdv) (A := A) (outer := outer) (s0 := s0) (H := H) (E := E) (f := f) (qual := qual) S G hx hr (CC i) rfl rfl rfl rfl rfl rfl (fun _ h => ⟨_, rfl⟩) (fun z => by rw [htbl] at z; cases z)
    subst hb
    obtain ⟨l1, l2⟩ := (ok (0, H)).loc "dice" hv2
    refine ⟨_, pss_cons (ps_for (ok (0, H)).pas rfl (pi_list (pe_call Fr hr ((ok (0, H)).gl _ hg) gr kr br .nil (passes_call (ok (0, H)).tk fun _ _ _ _ z => z) (pa_cons (pe_var (i := 0) hs0 ((ok (0, H)).vis _ hv) rfl rfl) (pa_cons pe_int pa_nil rfl) rfl)))
      (pg_name (i := c.dk) S.nd hd0 l1 l2) (PSs.some fun i => ht _ _ (ok i))) (pss_one (ps_ret pe_bl)), ?_⟩
    refine ⟨.ref a, start_get rfl, ?_⟩
    refine ⟨a, ns, most, rfl, hS, hl, kd, fun p as H1 k1 x1 np e1 nd npa cells => ?_⟩
    refine ⟨p, rfl, ⟨_, .inl (.inl e1)⟩, ?_⟩
    refine ⟨fun i m σi Hi => m + i = as.length ∧ σi.length = c.N.length ∧ KD K Hi ∧ Hi p = some (.lst (as.map V.ref)) ∧ ∀ (j : Nat) b, i ≤ j → as[j]? = some b → ∃ cell : Int, Hi b = some (.lst [.int cell, .int 0]),
      ⟨as.length, rfl, ?_, k1, e1, fun j b _ hj => (cells b (List.mem_of_getElem? hj)).2⟩, fun i m σi Hi hW => ?_⟩
    · exact start_len (by have := (List.getElem?_eq_some_iff.mp hs0).1; simp; omega)
    · obtain ⟨em, el, ki, ep, hc⟩ := hW
      by_cases hi : i < as.length
      · refine .inr ⟨⟨_, .ref as[i], .inl (.inl ep), by rw [List.getElem?_map, List.getElem?_eq_getElem hi]; rfl⟩, fun σ' H' => σ'.length = c.N.length ∧ KD K H' ∧ H' p = some (.lst (as.map V.ref)) ∧ ∀ (j : Nat) b, i + 1 ≤ j → as[j]? = some b → ∃ cell : Int, H' b = some (.lst [.int cell, .int 0]), fun σ' H' h' => ⟨m - 1, by omega, by omega, h'⟩, fun v H2 hy => ?_⟩
        obtain ⟨rfl, hy⟩ := hy
        have ev' := hy _ (.inl (.inl ep))
        rw [List.getElem?_map, List.getElem?_eq_getElem hi] at ev'
        cases ev'
        obtain ⟨cell, hcell⟩ := hc i as[i] (Nat.le_refl _) (List.getElem?_eq_getElem hi)
        obtain ⟨m', ρ', δ', hrun⟩ := hrun cell
        have hpi : p ≠ as[i] := fun z => npa (z ▸ List.getElem_mem hi)
        have St0 : Stt (CC (as[i], H2)) (fun b => b = as[i]) (List.replicate c.N.length none) (cell, 0, []) (σi.set c.dk (some (.ref as[i]))) H2 := {
          sub := fun _ z => z
          mok := fun b z => by cases (show b = as[i] from z); exact .inl ⟨_, hcell⟩
          new := fun _ z => .inl z
          ext := Ext.refl _ _
          dice := ⟨fun b z => (by cases z; exact hcell), fun ta ras z => (nomatch z), fun p hp => (nomatch hp)⟩
          tpl := fun ta ras z => nomatch z
          Tpl := fun p hp => nomatch hp
          dpl := fun b z => by
            cases z
            refine ⟨rfl, ?_⟩
            have : c.dk < σi.length := by rw [el]; exact (List.getElem?_eq_some_iff.mp hd0).1
            exact List.getElem?_set_self this
          slot := fun j d e => by cases sets0 e
          dist := fun j j' d e v h1 h2 h3 h4 h5 h6 h7 => by cases sets0 h4
          len := by rw [List.length_replicate, List.length_set, el]
          kd := ki }
        refine ⟨(as[i], H2), List.replicate c.N.length none, (cell, 0, []), fun b => b = as[i], m', St0, ?_⟩
        have fin : ∀ σ' H' M' (ρ' : En) δ', ρ'.length = c.N.length → Stt (CC (as[i], H2)) M' ρ' δ' σ' H' → σ'.length = c.N.length ∧ KD K H' ∧ H' p = some (.lst (as.map V.ref)) ∧ ∀ (j : Nat) b, i + 1 ≤ j → as[j]? = some b → ∃ cell : Int, H' b = some (.lst [.int cell, .int 0]) := fun σ' H' M' ρ' δ' hl' S' => by
          have np' : ∀ b, b ≠ as[i] → ¬ (CC (as[i], H2)).pds b := fun b hb z => hb (Option.some.inj (show some as[i] = some b from Cz.pds0 rfl rfl z)).symm
          refine ⟨?_, S'.kd, S'.ext.keep p _ ep (np' p hpi) (fun _ z => nomatch z), fun j b hj ej => ?_⟩
          · rw [← S'.len]; exact hl'
          · obtain ⟨cell', hc'⟩ := hc j b (by omega) ej
            refine ⟨cell', S'.ext.keep b _ hc' (np' b fun z => ?_) (fun _ z => nomatch z)⟩
            subst z
            have hjl := (List.getElem?_eq_some_iff.mp ej).1
            have e2 : as[j] = as[i] := by
              rw [List.getElem?_eq_getElem hjl] at ej
              exact Option.some.inj ej
            have := (List.getElem_inj (h₀ := hjl) (h₁ := hi) nd).mp e2
            omega
        show EndO _ _ _ _ (exS Γ c.md false m' s (List.replicate c.N.length none) (cell, 0, []))
        rcases hrun with hrun | hrun
        · have hL := exS_len (Γ := Γ) (md := c.md) (fr := false) m' s (List.replicate c.N.length none) (cell, 0, [])
          rw [hrun] at hL ⊢
          exact fun σ' H' M' S' _ => fin σ' H' M' _ _ (by rw [show ρ'.length = _ from hL, List.length_replicate]) S'
        · have hL := exS_len (Γ := Γ) (md := c.md) (fr := false) m' s (List.replicate c.N.length none) (cell, 0, [])
          rw [hrun] at hL ⊢
          exact fun σ' H' M' S' _ => fin σ' H' M' _ _ (by rw [show ρ'.length = _ from hL, List.length_replicate]) S'
      · exact .inl ⟨⟨_, .inl (.inl ep), by rw [List.length_map]; omega⟩, q _⟩
theorem law_ok {c : TrC} {ex : Str → Bool} {k n : Nat} {Γ : Glo} {s : Sm} {B : List Stmt} {most : Int} {j j2 : Nat} {p0 p1 p2 p3 p4 p5 p6 p7 : Pos} {fr : Addr} {fdr : FuncData} (F : FunD K x qual params body scope dvs kws f fd) (S : FnScope c.N ["script"] scope) (G : GloOk P w K mg base Γ c k)
    (hx : ∀ y, ex y = true → ∀ X : Cx, X.K = K → X.mg = mg → Gl X y → ∃ Ca, mg y = some (.ref Ca) ∧ ∀ m j p p2 pos, PMk X (.Call (.Name y p) [.Constant (.str m) j p2] [] pos) (fun _ H Q => Q (.ref Ca) none H))
    (hb : body = [.For (.Name "dice" p0) (.Call (.Name "_law_rounds" p1) [.Name "script" p2, .Constant (.int most) j p3] [] p4) B [] p5, .Return (some (.Constant (.bool true) j2 p6)) p7])
    (hs0 : c.N[0]? = some ("script" : Str)) (hd0 : c.N[c.dk]? = some ("dice" : Str)) (hk0 : c.dk ≠ 0) (htbl : c.tbl = false) (hv : visB scope "script" = true) (hv2 : locB scope "dice" = true) (hg : glB scope "_law_rounds" = true)
    (gr : mg "_law_rounds" = some (.ref fr)) (kr : PySem.W.keepIn K (.ref fr) = true) (br : Binds K fdr ["script", "most"] []) (Fr : FnOk P w K mg base (L2.CX P w) k fr fdr ["script", "most"] (spR K))
    (ht : trS.trSs (trS c scope ex n) B = some s)
    (hrun : ∀ cell : Int, ∃ m ρ' δ', exS Γ c.md false m s (List.replicate c.N.length none) (cell, 0, []) = .nx ρ' δ' ∨ exS Γ c.md false m s (List.replicate c.N.length none) (cell, 0, []) = .ct ρ' δ') :
    FnOk P w K mg base (L2.CX P w) (k + 1) f fd ["script"] (spL K) :=
  law_okB F S G hx hb hs0 hd0 hk0 htbl hv hv2 hg gr kr br Fr (fun X C ok => sSs (fun st a h => sndS ok n st a h) B s ht) hrun
end
end DC
set_option Elab.async false
set_option linter.all false
set_option maxRecDepth 100000
set_option maxHeartbeats 4000000
namespace DC
open PySem PySem.Spec L2
section
variable {X : Cx} {C : Cz} {c : TrC} {sc : Scope} {ex : Str → Bool} {k : Nat}
theorem ps_asgLF {x : Str} {i : Nat} {elt tg iter : Expr} {ifs : List Expr} {scope : Scope} {cpos px pos : Pos} {n : Nat} {own : List Nat} {p : Pat} {it cd el : Ex} (ok : SOk X C c sc ex k) (hl : locB sc x = true) (hi : ixS c.N x = some i)
    (h : tr c (n + 1) sc (.ListComp elt [⟨tg, iter, ifs, 0⟩] scope cpos) = some (.comp own p it cd el)) (hfr : frs C.Γ C.md el = true) :
    PS X (.Assign [.Name x px] (.ListComp elt [⟨tg, iter, ifs, 0⟩] scope cpos) pos) (fun D σ H => tF C own p it cd el σ H fun v H1 => D.nx (σ.set i (some v)) H1) := by
  obtain ⟨p', it', cd', el', eq, b1, b2, b3, b4, b5, b6⟩ := comp_parts (k := k) h
  cases eq
  obtain ⟨g1, g2, g3, g4⟩ := b6 X C ok.toCOk
  have hs : ∀ x, foldedSetIterable iter X.env x = pure x := fun x => by cases iter <;> first | rfl | cases b3
  have hbk : X.env.blockKind = .function := by
    unfold Env.blockKind
    rw [ok.scp, ok.knd]
    rfl
  have hsw : swapsWith (.ListComp elt [⟨tg, iter, ifs, 0⟩] scope cpos) (some (.Name x px)) pos.line X.env = pure (isLoc sc x && px.line == cpos.line && !(scope.names.any fun (n, k) => n == x && (k == .local || k == .cell))) := by
    have hkd : (X.env.kindOf x == some .local) = isLoc sc x := by
      unfold Env.kindOf isLoc
      rw [ok.scp]
      cases sc.names.lookup x with
      | none => rfl
      | some kd => cases kd <;> rfl
    show (pure (X.env.blockKind == .function && X.env.kindOf x == some .local && px.line == cpos.line && !(scope.names.any fun (n, k) => n == x && (k == .local || k == .cell))) : Sem Bool) = _
    rw [hbk, hkd]
    rfl
  cases hb : (isLoc sc x && px.line == cpos.line && !(scope.names.any fun (n, k) => n == x && (k == .local || k == .cell))) with
  | true =>
    rw [hb] at hsw
    have hlx : X.env.scope.names.lookup x = some .local := by
      simp only [Bool.and_eq_true] at hb
      have := hb.1.1
      rw [ok.scp]
      unfold isLoc at this
      cases e : sc.names.lookup x with
      | none => rw [e] at this; cases this
      | some kd => rw [e] at this; cases kd <;> first | rfl | cases this
    refine PS.to (PS.kdn (ps_setLc (i := i) (g := gB C p) (tt := tB' C cd) (te := eB C el) ok.calm (by rw [ok.N]; exact ok.nd) (by rw [ok.N]; exact ixS_get hi) hlx hsw g1 (blk_ok ok.toCOk b1)
      (fun s H C0 cl fp => ⟨fun pins s' σ H' v u Q I r q => by obtain ⟨D, q⟩ := q; exact (g2 D s H C0 cl fp).run pins s' σ H' v u Q I r q⟩)
      (fun s H C0 cl fp => ⟨fun pins s' σ H' Q I q => by obtain ⟨D, q⟩ := q; exact (g3 D s H C0 cl fp).run pins s' σ H' Q I q⟩)
      (fun s H C0 cl fp => ⟨fun pins s' σ H' Q I q => by obtain ⟨D, q⟩ := q; exact (g4 D s H C0 cl fp).run pins s' σ H' Q I q⟩) hs)) fun D σ H h => lc_redF ok.toCOk b2 b4 b5 hfr h
  | false =>
    rw [hb] at hsw
    obtain ⟨l1, l2⟩ := ok.loc x hl
    exact PS.to (ps_set (i := i) (by rw [ok.N]; exact ok.nd) (by rw [ok.N]; exact ixS_get hi) l1 (pe_lcFt ok.toCOk h hfr) hsw l2) fun D σ H h => h
end
theorem PS.some {X : Cx} {ss : Stmt} {ι : Type} {t : ι → TS} (h : ∀ i, PS X ss (t i)) : PS X ss (fun D σ H => ∃ i, t i D σ H) := ⟨fun pins s σ H D I ⟨i, q⟩ => (h i).run pins s σ H D I q⟩
def tabD (t : List (List Int)) : D := .lst (t.map fun r => .lst (r.map .int))
theorem rps_ints {K : PySem.W.Frag} {M : MS} {H : Hp} : ∀ (r : List Int) (vs : List V), Rps K M H (r.map D.int) vs → vs = r.map V.int
  | [], vs, h => h
  | i :: r, vs, h => by
    obtain ⟨v, s, rfl, h1, h2⟩ := h
    rw [show v = V.int i from h1, rps_ints r s h2]
    rfl
theorem ints_rps {K : PySem.W.Frag} {M : MS} {H : Hp} : ∀ (r : List Int), Rps K M H (r.map D.int) (r.map V.int)
  | [] => rfl
  | i :: r => ⟨.int i, r.map V.int, rfl, rfl, ints_rps r⟩
theorem Ext.late {P : MS} {H0 H H' : Hp} (x : Ext (fun _ => False) H0 H) (y : Ext P H H') (h : ∀ a, P a → H0 a = none) : Ext (fun _ => False) H0 H' where
  keep := fun a o e n t => y.keep a o (x.keep a o e n t) (fun z => by rw [h a z] at e; cases e) t
  tbl := fun a ps e => by
    obtain ⟨p1, h1⟩ := x.tbl a ps e
    exact y.tbl a p1 h1
  tb := fun a ps e n => y.tb a ps (x.tb a ps e n) (fun z => by rw [h a z] at e; cases e)
section
variable {P : Program} {w : World} {K : PySem.W.Frag} {mg : Str → Option Value} {base : Heap} {x qual : Str} {params : Arguments} {body : List Stmt} {scope : Scope} {dvs : List V} {kws : List (Str × V)} {f : Addr} {fd : FuncData}
theorem tab_ok {c : TrC} {ps : List Str} {k n n0 : Nat} {fs : Fs} {Γ : Glo} {s : Sm} {elt tg iter : Expr} {ifs : List Expr} {scope' : Scope} {pN p1 pA pr pr2 : Pos} {own : List Nat} {pt : Pat} {it cd el : Ex} {found : Str} {st : Stmt}
    (F : FunD K x qual params body scope dvs kws f fd) (S : FnScope c.N ps scope) (G : GloOk P w K mg base Γ c k)
    (hnp : fs.np = ps.length) (hdice : fs.dice = false) (hfr : fs.fr = false) (hmd : c.md = []) (htbl : c.tbl = true) (hdk : ps.length ≤ c.dk) (hf0 : ixS c.N found = some c.dk)
    (hb : body = [.Assign [.Name found pN] (.ListComp elt [⟨tg, iter, ifs, 0⟩] scope' p1) pA, st, .Return (some (.Name found pr)) pr2])
    (hloc : locB scope found = true) (hodd : oddName found = false)
    (hcomp : tr { c with dk := c.N.length, tbl := false } (n0 + 1) scope (.ListComp elt [⟨tg, iter, ifs, 0⟩] scope' p1) = some (.comp own pt it cd el)) (hel : frs Γ [] el = true)
    (hst : trS c scope (fun _ => false) n st = some s)
    (hsem : ∀ ds δ, fs.sem ds δ ≠ .stk → ∃ m d δ1 is t δ2 ρ2 δ3, ev Γ it (ds.map some ++ List.replicate (c.N.length - ds.length) none) (0, 0, []) = .ok d δ1 ∧ d.items = some is ∧
      compL (bindP pt) (ev Γ cd) (ev Γ el) (wipeE (ds.map some ++ List.replicate (c.N.length - ds.length) none) own) is δ1 = .ok (t.map fun r : List Int => D.lst (r.map .int)) δ2 ∧
      exS Γ [] false m s (ds.map some ++ List.replicate (c.N.length - ds.length) none) (0, 0, t) = .nx ρ2 δ3 ∧ (∃ δ', fs.sem ds δ = .ok (tabD δ3.2.2) δ') ∧ t.length ≤ sizeLine) :
    FnOk P w K mg base (L2.CX P w) (k + 1) f fd ps (spD K mg fs) := by
  refine F.ok S (fun vs H Q E h => ?_) fun cdv A outer s0 H vs Q E hr h => ?_
  · obtain ⟨ds, δ, Mc, pd, e, _⟩ := h
    rw [e, hnp]
  · obtain ⟨ds, δ, Mc, pd, hl, kd, mok, hd, hq⟩ := h
    rw [hdice, if_neg (by decide)] at hd
    obtain ⟨rfl, hR⟩ := hd
    have hdl : ds.length = vs.length := hR.length
    have hpl : ps.length ≤ c.N.length := by
      have := congrArg List.length S.pre
      rw [List.length_take] at this
      omega
    have hvl : vs.length ≤ c.N.length := by rw [hl, hnp]; exact hpl
    have hdkN : c.dk < c.N.length := (List.getElem?_eq_some_iff.mp (ixS_get hf0)).1
    let C1 : Cz := { K := K, mg := mg, Γ := Γ, md := c.md, H0 := H, Mc := Mc, pd := none, kd := c.N.length, E := E }
    have ok1 : SOk (cxOf (L2.CX P w) P w K mg base c.N qual scope f cdv A outer s0 H E) C1 { c with dk := c.N.length, tbl := false } scope (fun _ => false) k :=
      sok_of (cdv := cdv) (A := A) (outer := outer) (s0 := s0) (H := H) (E := E) (f := f) (qual := qual) (ex := fun _ => false) (c := { c with dk := c.N.length, tbl := false }) S ⟨G.fns, G.cst, G.blt⟩ (fun y h => nomatch h) hr C1 rfl rfl rfl rfl rfl rfl (fun _ h => absurd h (Nat.lt_irrefl _)) (fun z => nomatch z)
    let C2 : Addr × List Addr × Hp → Cz := fun i => { K := K, mg := mg, Γ := Γ, md := c.md, H0 := i.2.2, Mc := fun a => Mc a ∨ a = i.1 ∨ a ∈ i.2.1, pd := none, kd := c.dk, E := E, tb := some (i.1, i.2.1) }
    have ok2 : ∀ i, SOk (cxOf (L2.CX P w) P w K mg base c.N qual scope f cdv A outer s0 H E) (C2 i) c scope (fun _ => false) k := fun i =>
      sok_of (cdv := cdv) (A := A) (outer := outer) (s0 := s0) (H := H) (E := E) (f := f) (qual := qual) (ex := fun _ => false) S G (fun y h => nomatch h) hr (C2 i) rfl rfl rfl rfl rfl rfl (fun z => by rw [htbl] at z; cases z) (fun _ _ => ⟨_, _, rfl⟩)
    subst hb
    obtain ⟨l1, l2⟩ := ok1.loc found hloc
    obtain ⟨o1, o2, o3⟩ := odd_of hodd
    have hvis : Vis scope found := by
      have := l1
      rcases this with z | z
      · exact .inl z
      · exact .inr (.inl z)
    refine ⟨_, pss_cons (ps_asgLF ok1 hloc hf0 hcomp (by show frs Γ c.md el = true; rw [hmd]; exact hel)) (pss_cons (PS.some fun i => sndS (ok2 i) n st s hst) (pss_one (ps_ret (pe_var (i := c.dk) (ixS_get hf0) hvis o1 o2)))), ?_⟩
    have hns : fs.sem ds δ ≠ .stk := fun z => by rw [z] at hq; exact hq
    obtain ⟨m, d, δ1, is, t, δ2, ρ2, δ3, e1, e2, e3, e4, ⟨δ', e5⟩, e6⟩ := hsem ds δ hns
    have hρ : ∀ (i : Nat) d, (ds.map some ++ List.replicate (c.N.length - ds.length) none : En)[i]? = some (some d) → ds[i]? = some d := by
      intro i d h'
      by_cases hi : i < ds.length
      · rw [List.getElem?_append_left (by simpa using hi), List.getElem?_map] at h'
        obtain ⟨d', q1, q2⟩ := map_opt h'
        cases q2
        exact q1
      · rw [List.getElem?_append_right (by simpa using hi)] at h'
        have := sets0 h'
        cases this
    have slen : (start c.N vs).length = c.N.length := start_len hvl
    have St0 : Stt C1 Mc (ds.map some ++ List.replicate (c.N.length - ds.length) none) (0, 0, []) (start c.N vs) H := {
      sub := fun _ z => z
      mok := mok
      new := fun _ z => .inl z
      ext := Ext.refl _ _
      dice := ⟨fun b z => (nomatch z), fun ta ras z => (nomatch z), fun p hp => (nomatch hp)⟩
      dpl := fun b z => nomatch z
      tpl := fun ta ras z => nomatch z
      Tpl := fun p hp => nomatch hp
      slot := fun i d hi => by
        obtain ⟨v, q1, q2⟩ := hR.get (hρ i d hi)
        exact ⟨v, start_get q1, q2, q2.top, fun _ => q2, fun z => by rw [show C1.md = [] from hmd] at z; cases z⟩
      dist := fun i j d e v h1 => by rw [show C1.md = [] from hmd] at h1; cases h1
      len := by
        rw [slen]
        simp only [List.length_append, List.length_map, List.length_replicate]
        omega
      kd := kd }
    refine ⟨_, _, Mc, St0, ?_⟩
    show match ev Γ it (ds.map some ++ List.replicate (c.N.length - ds.length) none) (0, 0, []) with
      | .ok d δ1 => _
      | _ => False
    rw [e1]
    refine ⟨is, _, δ2, e2, e3, fun y hy => ?_, fun v H1 k1 x1 _ df => ?_⟩
    · obtain ⟨r, _, rfl⟩ := List.mem_map.mp hy
      exact ⟨_, rfl⟩
    · obtain ⟨p, as, rfl, hp0, hp1, hnd, hpa, has, hRs⟩ := df
      have x1' : Ext (fun _ => False) H H1 := x1.mono fun a z => nomatch (Cz.pds0 (C := C1) rfl rfl z : (none : Option Addr) = some a)
      have hla : t.length = as.length := by
        have := hRs.length
        simpa using this
      have rows : ∀ (j : Nat) a r, as[j]? = some a → t[j]? = some r → H1 a = some (.lst (r.map V.int)) ∧ r.length ≤ sizeLine := fun j a r f1 f2 => by
        obtain ⟨v, g1, g2⟩ := hRs.get (i := j) (d := .lst (r.map .int)) (by rw [List.getElem?_map, f2]; rfl)
        rw [List.getElem?_map, f1] at g1
        cases g1
        obtain ⟨a', us, ea, q1, q2, q3, q4⟩ := g2
        cases ea
        rw [rps_ints r us q4] at q1
        exact ⟨q1, by simpa using q3⟩
      have hMcH : ∀ a, Mc a → H a ≠ none := fun a z e => mok.none e z
      have hMc1 : ∀ a, Mc a → ¬ (a = p ∨ a ∈ as) := fun a z w => by
        rcases w with rfl | w
        · exact hMcH _ z hp0
        · exact hMcH _ z (has a w).1
      have hsz : (as.map V.ref).length ≤ sizeLine := by
        rw [List.length_map, ← hla]; exact e6
      have St1 : Stt (C2 (p, as, H1)) (fun a => Mc a ∨ a = p ∨ a ∈ as) (ds.map some ++ List.replicate (c.N.length - ds.length) none) (0, 0, t) ((start c.N vs).set c.dk (some (.ref p))) H1 := {
        sub := fun _ z => z
        mok := fun a z => by
          rcases z with z | z | z
          · rcases mok a z with ⟨xs, e⟩ | ⟨xs, e⟩ | ⟨xs, e⟩
            · exact .inl ⟨xs, x1'.keep a _ e (fun z => z) (fun _ z => nomatch z)⟩
            · exact .inr (.inl ⟨xs, x1'.keep a _ e (fun z => z) (fun _ z => nomatch z)⟩)
            · exact .inr (.inr ⟨xs, x1'.tb a _ e (fun z => z)⟩)
          · subst z; exact .inl ⟨_, hp1⟩
          · obtain ⟨us, hu⟩ := (has a z).2
            exact .inl ⟨us, hu⟩
        new := fun _ z => .inl z
        ext := Ext.refl _ _
        dice := ⟨fun b z => (nomatch z), fun ta ras z => (by
          cases z
          exact ⟨hp1, hla.symm, by simpa using hsz, fun j a r f1 f2 => rows j a r f1 f2⟩), fun p hp => (nomatch hp)⟩
        dpl := fun b z => nomatch z
        tpl := fun ta ras z => by
          cases z
          exact ⟨List.getElem?_set_self (by rw [slen]; exact hdkN), hpa, hnd, rfl, rfl, fun a z => .inr z⟩
        Tpl := fun p hp => nomatch hp
        slot := fun i d hi => by
          obtain ⟨v, q1, q2⟩ := hR.get (hρ i d hi)
          have hil : i < ps.length := by
            have := (List.getElem?_eq_some_iff.mp q1).1
            rw [hl, hnp] at this
            exact this
          have q3 : Rp K (fun a => Mc a ∨ a = p ∨ a ∈ as) H1 d v := by
            have r : Rel Mc H (fun a => Mc a ∨ a = p ∨ a ∈ as) H1 := ⟨x1'.mono fun _ z => z.elim, fun a z => by
              rcases z with z | z | z
              · exact .inl z
              · rw [z]; exact .inr hp0
              · exact .inr (has a z).1⟩
            exact Rp.rel r (fun a vs r => mok.tup r) _ _ q2
          exact ⟨v, by rw [List.getElem?_set_ne (by omega)]; exact start_get q1, q3, q3.top, fun _ => q3, fun z => by rw [show (C2 (p, as, H1)).md = [] from hmd] at z; cases z⟩
        dist := fun i j d e v h1 => by rw [show (C2 (p, as, H1)).md = [] from hmd] at h1; cases h1
        len := by
          rw [List.length_set, slen]
          simp only [List.length_append, List.length_map, List.length_replicate]
          omega
        kd := k1 }
      refine ⟨(p, as, H1), _, _, _, m, St1, ?_⟩
      show EndO _ _ _ _ (exS Γ c.md false m s _ (0, 0, t))
      rw [hmd, e4]
      intro σ' H2 M2 S2 _
      refine ⟨.ref p, (S2.tpl p as rfl).1, ?_⟩
      rw [e5] at hq
      have np : ∀ a, (C2 (p, as, H1)).pds a → H a = none := fun a z => by
        rcases z with z | ⟨ta, ras, z1, z2⟩ | ⟨q, z⟩
        · cases z
        · cases z1
          rcases z2 with rfl | z2
          · exact hp0
          · exact (has a z2).1
        · cases z
      have x2 : Ext (fun _ => False) H H2 := Ext.late x1' S2.ext np
      obtain ⟨g1, g2, g3, g4⟩ := S2.dice.row p as rfl
      refine hq (.ref p) H2 S2.kd (x2.mono fun _ z => z.elim) (fun a z => nomatch z) ?_ (fun z => by rw [hfr] at z; cases z)
      refine ⟨p, as.map V.ref, rfl, g1, fun z => hMc1 p z (.inl rfl), by rw [List.length_map, ← g2]; exact g3, ?_⟩
      refine Rps.all (by rw [List.length_map, List.length_map]; exact g2.symm) fun j d' v' f1 f2 => ?_
      rw [List.getElem?_map] at f1 f2
      obtain ⟨r, f3, rfl⟩ := map_opt f1
      obtain ⟨a, f4, rfl⟩ := map_opt f2
      obtain ⟨q1, q2⟩ := g4 j a r f4 f3
      exact ⟨a, _, rfl, q1, fun z => hMc1 a z (.inr (List.mem_of_getElem? f4)), by simpa using q2, ints_rps r⟩
end
end DC
set_option Elab.async false
set_option linter.all false
set_option maxRecDepth 100000
set_option maxHeartbeats 2000000
namespace DC
open PySem PySem.Spec PyProof.Rows L2
section
variable {X : Cx} {e : Expr} {es : List Expr} {te ta tb : TE} {t : TA} {pos : Pos}
theorem pat_nil : PAT X [] tNil := fun pos pins s σ H Q _ I h => pa_nil.run pos pins s σ H Q I h
theorem pat_cons (ha : PET X e te) (hr : PAT X es t) (hs : starEach (e :: es) X.env = (false, eval e X.env) :: starEach es X.env) : PAT X (e :: es) (tCons te t) := by
  intro pos pins s σ H Q h0 I h
  rw [hs]
  show wpAny _ _ (spliced ((false, eval e X.env) :: backTo pos (starEach es X.env))) _ _ s
  refine Calls.spliced_cons (wpAny_mono (PySem.wpAny_toks (ha pins s σ H _ h0 I h)) (fun u s1 q => ?_) fun _ _ z => z.2)
  obtain ⟨hk, x, H1, I1, r1, q1⟩ := q
  exact thn (hr pos pins s1 σ H1 _ (Nat.le_trans h0 hk) I1 q1) fun us s2 ⟨xs, H2, I2, r2, q2⟩ => ⟨x :: xs, H2, I2, .cons r1 r2, q2⟩
theorem pet_lst (h : PAT X es t) : PET X (.List es pos) (tLst t) := by
  intro pins s σ H Q h0 I hq
  refine wpAny_List_spliced (thn (h pos pins s σ H _ h0 I hq) fun us s1 ⟨xs, H1, I1, r, z, q⟩ => ⟨by rw [← r.length]; exact z, ?_⟩)
  have hf : H1 s1.heap.objs.size = none := I1.hok.fresh (Nat.le_refl _)
  refine ⟨.ref s1.heap.objs.size, upd H1 s1.heap.objs.size (.lst xs), I1.laid (t' := s1.toks) (fun b u e => Heap.get?_push_of_some _ e) (Nat.le_refl _) ?_, rfl, q _ hf⟩
  exact ⟨z, us, 0, r, Heap.get?_push_size _ rfl⟩
theorem pet_if {c a b : Expr} {tc : TT} (hc : PT X c tc) (ha : PET X a ta) (hb : PET X b tb) : PET X (.IfExp c a b pos) (tIf tc ta tb) := by
  intro pins s σ H Q h0 I h
  refine wpAny_IfExp (wpAny_mono (PySem.wpAny_toks (hc.run pins s σ H _ I h)) (fun d s1 q => ?_) fun _ _ z => z.2)
  obtain ⟨hk, H1, I1, q1⟩ := q
  cases d with
  | true => exact ha pins s1 σ H1 Q (Nat.le_trans h0 hk) I1 q1
  | false => exact hb pins s1 σ H1 Q (Nat.le_trans h0 hk) I1 q1
theorem pst_asg {tg : Expr} {g : TG} (he : PET X e te) (hg : PG X tg g) (hs : swapsWithSole [tg] e pos.line X.env = pure false) (hw : swappedStores [tg] e X.env = pure none)
    (h1 : (assignEach [tg] X.env).map (·.2) = [assign tg X.env]) : PST X (.Assign [tg] e pos) (tAsg te g) := by
  intro pins s σ H D h0 I h
  refine wpAny_Assign_stores (thn (he pins s σ H _ h0 I h) fun v s1 ⟨x, H1, I1, r1, q1⟩ => ?_) hs hw
  rw [h1]
  exact thn (hg.run pins s1 σ H1 x v _ I1 r1 q1) fun _ s2 q => q
theorem pst_while {c : Expr} {body : List Stmt} {tc : TT} {tb : TS} (hp : PassesOwn (model X.prog X.w) X.A X.env X.xe) (hc : PT X c tc) (hb : PSsT X body tb) : PST X (.While c body [] pos) (tWhile tc tb) := by
  intro pins s σ H D h0 I h
  obtain ⟨W, ⟨m0, w0⟩, turn⟩ := h
  refine wpAny_While (codeAny_whileLoop (fun n s' => 1 ≤ s'.toks ∧ ∃ σ' H', Inv X pins σ' H' s' ∧ W n σ' H') ?_ m0 ⟨h0, σ, H, I, w0⟩)
  rintro n s1 ⟨k1, σ1, H1, I1, w1⟩
  refine wpAny_passesOwn hp (wpAny_mono (PySem.wpAny_toks (hc.run pins s1 σ1 H1 _ I1 (turn n σ1 H1 w1))) (fun b s2 q => ?_) fun _ _ z => z.2)
  obtain ⟨hk, H2, I2, q2⟩ := q
  have k2 := Nat.le_trans k1 hk
  cases b with
  | true =>
    obtain ⟨N, hN, q2⟩ := q2
    rw [if_pos rfl]
    refine wpAny_passesOwn hp (wpAny_mono (PySem.wpAny_toks (hb pins s2 σ1 H2 _ k2 I2 q2)) (fun f s3 q3 => ?_) fun _ _ z => z.2)
    obtain ⟨hk3, q3⟩ := q3
    have k3 := Nat.le_trans k2 hk3
    cases f with
    | next =>
      obtain ⟨σ3, H3, I3, n3⟩ := q3
      obtain ⟨m', hm, w3⟩ := hN σ3 H3 n3
      exact ⟨m', hm, k3, σ3, H3, I3, w3⟩
    | cont =>
      obtain ⟨σ3, H3, I3, n3⟩ := q3
      obtain ⟨m', hm, w3⟩ := hN σ3 H3 n3
      exact ⟨m', hm, k3, σ3, H3, I3, w3⟩
    | brk => exact q3
    | ret v => exact q3
  | false =>
    rw [if_neg (by decide)]
    exact wpAny_execs_nil ⟨σ1, H2, I2, q2⟩
end
end DC
set_option Elab.async false
set_option linter.all false
set_option maxRecDepth 100000
set_option maxHeartbeats 2000000
namespace DC
open PySem PySem.Spec PyProof.Rows L2
section
variable {X : Cx} {C : Cz} {c : TrC} {sc : Scope} {ex : Str → Bool} {k : Nat}
theorem PET.to {e : Expr} {t t' : TE} (h : PET X e t) (w : ∀ σ H Q, t' σ H Q → t σ H Q) : PET X e t' := fun pins s σ H Q h0 I q => h pins s σ H Q h0 I (w σ H Q q)
theorem PAT.to {e : List Expr} {t t' : TA} (h : PAT X e t) (w : ∀ σ H Q, t' σ H Q → t σ H Q) : PAT X e t' := fun pos pins s σ H Q h0 I q => h pos pins s σ H Q h0 I (w σ H Q q)
theorem PST.to {e : Stmt} {t t' : TS} (h : PST X e t) (w : ∀ D σ H, t' D σ H → t D σ H) : PST X e t' := fun pins s σ H D h0 I q => h pins s σ H D h0 I (w D σ H q)
theorem PSsT.to {e : List Stmt} {t t' : TS} (h : PSsT X e t) (w : ∀ D σ H, t' D σ H → t D σ H) : PSsT X e t' := fun pins s σ H D h0 I q => h pins s σ H D h0 I (w D σ H q)
theorem PET.kd {e : Expr} {t : TE} (h : PET X e t) : PET X e (fun σ H Q => t σ H fun v H' => KD X.K H' → Q v H') :=
  fun pins s σ H Q h0 I q => thn (h pins s σ H _ h0 I q) fun u s' ⟨v, H', I', r, q'⟩ => ⟨v, H', I', r, q' (KD.of I')⟩
def ascS (s : Str) : Bool := s.cps.toList.all (· < 128) && decide (s.cps.toList.length ≤ 1000)
theorem ok_replC {y z : List Nat} {a : D} {d : D} (h : opv .replace [a, .str y, .str z] = some d) : ∃ x c r, a = .str x ∧ y = c :: r ∧ y ≠ z ∧ x.length + (x.length + 1) * z.length ≤ 16777216 ∧ d = .str (TL.joinL z (TL.spl y 0 [] x)) := by
  cases a with
  | str x =>
    cases y with
    | nil => cases h
    | cons c r =>
      simp only [opv] at h
      split at h
      · rename_i hc
        cases h
        have hc' : ¬ (c :: r) = z ∧ x.length + (x.length + 1) * z.length ≤ 16777216 := by simpa using hc
        exact ⟨x, c, r, rfl, rfl, hc'.1, hc'.2, rfl⟩
      · cases h
  | _ => cases h
theorem repl_S {a y z : List Nat} (hy : y ≠ []) (hc : ∀ c ∈ y, c < 128) : Txt.replace ⟨a.toArray⟩ ⟨y.toArray⟩ ⟨z.toArray⟩ = (⟨(TL.joinL z (TL.spl y 0 [] a)).toArray⟩ : Str) := by
  have hk : ¬ Builtin.Str.strKind (⟨a.toArray⟩ : Str) < Builtin.Str.strKind ⟨y.toArray⟩ := kind_S hc
  have hl : (⟨y.toArray⟩ : Str).length ≠ 0 := by
    have : (⟨y.toArray⟩ : Str).length = y.length := by simp [TL.len_tl, TL.tl]
    rw [this]
    exact fun z => hy (List.length_eq_zero_iff.mp z)
  rw [replace_split _ _ _ hl hk, split_S hy hc]
  apply TL.ext_tl
  rw [TL.tl_join, List.map_map]
  have : (TL.tl ∘ fun s : List Nat => (⟨s.toArray⟩ : Str)) = id := by funext s; simp [TL.tl]
  rw [this, List.map_id]
theorem spl_mem2 {y : List Nat} : ∀ (k : Nat) (acc a s : List Nat), s ∈ TL.spl y k acc a → ∀ c ∈ s, c ∈ acc ∨ c ∈ a := by
  intro k acc a
  induction a generalizing k acc with
  | nil => intro s hs c hc; cases k <;> (simp [TL.spl] at hs; subst hs; exact .inl hc)
  | cons x r ih =>
    intro s hs c hc
    cases k with
    | zero =>
      simp only [TL.spl] at hs
      split at hs
      · rcases List.mem_cons.mp hs with rfl | hs
        · exact .inl hc
        · rcases ih _ _ s hs c hc with z | z
          · cases z
          · exact .inr (List.mem_cons_of_mem _ z)
      · rcases ih _ _ s hs c hc with z | z
        · rcases List.mem_append.mp z with z | z
          · exact .inl z
          · simp at z; subst z; exact .inr (List.mem_cons_self ..)
        · exact .inr (List.mem_cons_of_mem _ z)
    | succ k =>
      simp only [TL.spl] at hs
      rcases ih _ _ s hs c hc with z | z
      · exact .inl z
      · exact .inr (List.mem_cons_of_mem _ z)
theorem spl_len2 (y : List Nat) (x : List Nat) : ((TL.spl y 0 [] x).map List.length).sum ≤ x.length ∧ (TL.spl y 0 [] x).length ≤ x.length + 1 := by
  have key : ∀ (a : List Nat) (k : Nat) (acc : List Nat), ((TL.spl y k acc a).map List.length).sum ≤ acc.length + a.length ∧ (TL.spl y k acc a).length ≤ a.length + 1 := by
    intro a
    induction a with
    | nil => intro k acc; cases k <;> simp [TL.spl]
    | cons c r ih =>
      intro k acc
      cases k with
      | zero =>
        simp only [TL.spl]
        split
        · have := ih (y.length - 1) []
          simp at this ⊢
          omega
        · have := ih 0 (acc ++ [c])
          simp at this ⊢
          omega
      | succ k =>
        simp only [TL.spl]
        have := ih k acc
        simp at this ⊢
        omega
  have := key x 0 []
  simpa using this
theorem pet_replD {o : Expr} {o' : Ex} {y z : List Nat} {j j2 : Nat} {c0 c1 ap pos : Pos} (ho : PE X o (tD C o')) (hr : recvOk o = true) (hl : (ap.endLine == pos.line) = true) (hyz : ((⟨y.toArray⟩ : Str) == ⟨z.toArray⟩) = false) (hy : y ≠ []) (hcy : ∀ c ∈ y, c < 128) (hcz : ∀ c ∈ z, c < 128) :
    PET X (.Call (.Attribute o "replace" ap) [.Constant (.str ⟨y.toArray⟩) j c0, .Constant (.str ⟨z.toArray⟩) j2 c1] [] pos) (tD C (.op .replace (.cons o' (.cons (.cst (.str y)) (.cons (.cst (.str z)) .nil))))) := by
  refine PET.to (CwR.pet_replC ho hyz rfl (recv_base hr _ _ _) hl) fun σ H Q h => ?_
  obtain ⟨ρ, δ, M, S, h⟩ := h
  refine ⟨ρ, δ, M, S, ?_⟩
  simp only [ev] at h
  cases e : ev C.Γ o' ρ δ with
  | stk => rw [e] at h; exact h
  | exc y δ' => rw [e] at h; exact h
  | ok d δ1 =>
    rw [e] at h
    simp only [Res.bind] at h
    cases e2 : opv .replace [d, .str y, .str z] with
    | none => rw [e2] at h; exact h.elim
    | some dd =>
      rw [e2] at h
      obtain ⟨x, c, r, rfl, ey, hne, hlen, rfl⟩ := ok_replC e2
      intro v H1 k1 x1 dc1 V1
      obtain ⟨rfl, hxl, hxc⟩ := V1.rc
      have lx : (⟨x.toArray⟩ : Str).length = x.length := by simp [TL.len_tl, TL.tl]
      have lz : (⟨z.toArray⟩ : Str).length = z.length := by simp [TL.len_tl, TL.tl]
      refine ⟨_, rfl, by rw [lx, lz]; exact hlen, ?_⟩
      rw [repl_S hy hcy]
      have q : ∀ M, Rp C.K M H1 (.str (TL.joinL z (TL.spl y 0 [] x))) (.str ⟨(TL.joinL z (TL.spl y 0 [] x)).toArray⟩) := fun M => by
        refine ⟨rfl, ?_, fun c hc => ?_⟩
        · rw [szl]
          have h1 := joinL_len z (TL.spl y 0 [] x)
          have h2 := spl_len2 y x
          have h3 : (TL.spl y 0 [] x).length * z.length ≤ (x.length + 1) * z.length := Nat.mul_le_mul_right _ h2.2
          omega
        · rcases joinL_mem hc with w | ⟨s, z1, z2⟩
          · exact hcz c w
          · rcases spl_mem2 _ _ _ s z1 c z2 with w | w
            · cases w
            · exact hxc c w
      exact h _ H1 k1 x1 dc1 ⟨q _, fun _ => q _, fun _ => (q _).top, fun z => by simp [frs, Op.fr] at z⟩
end
end DC
set_option Elab.async false
set_option linter.all false
set_option maxRecDepth 100000
set_option maxHeartbeats 2000000
namespace DC
open PySem PySem.Spec PyProof.Rows L2
section
variable {X : Cx} {C : Cz} {c : TrC} {sc : Scope} {ex : Str → Bool} {k : Nat}
theorem pst_retD {e : Expr} {e' : Ex} {pos : Pos} (ok : SOk X C c sc ex k) (hnv : ∀ i, e' ≠ .var i) (he : PET X e (tD C e')) : PST X (.Return (some e) pos) (tS C (.ret e')) := by
  refine PST.to (CwR.pst_ret he) fun D σ H h => ?_
  obtain ⟨ρ, δ, M, n, S, h⟩ := h
  simp only [exS] at h
  split at h
  · rename_i hr
    refine ⟨ρ, δ, M, S, ?_⟩
    cases e : ev C.Γ e' ρ δ with
    | stk => rw [e] at h; exact h
    | exc y δ' => rw [e] at h; exact BadS.at_ S h
    | ok d δ1 =>
      rw [e] at h
      intro v H1 k1 x1 dc1 V1
      refine h v H1 k1 (S.ext.trans x1) dc1 V1.rc fun hf => ?_
      unfold retOk at hr
      simp only [hf, Bool.not_true, Bool.false_or, Bool.or_eq_true] at hr
      have h0 : ∀ {p : Addr}, H p = none → C.H0 p = none := fun {p} hp => S.ext.free hp (fun z => by obtain ⟨o, e⟩ := S.dice.some_ p z; rw [e] at hp; cases hp)
      rcases hr with hr | hr
      · intro es ee
        obtain ⟨p, us, e1, e2, e3, e4, e5⟩ := V1.fr hr es ee
        exact ⟨p, us, e1, h0 e2, e3, e4, Rps.mono (fun a z => z.elim (fun z => .inl (S.sub a z)) .inr) _ _ e5⟩
      · cases e' with
        | var i => exact absurd rfl (hnv i)
        | _ => cases hr
  · exact h.elim
theorem pst_asgD {x : Str} {i : Nat} {e : Expr} {e' : Ex} {px pos : Pos} (ok : SOk X C c sc ex k) (hl : locB sc x = true) (hi : ixS c.N x = some i) (hk : i ≠ c.dk) (hs : simpE e = true) (hnt : ∀ a b c, e ≠ .Tuple a b c) (he : PET X e (tD C e')) : PST X (.Assign [.Name x px] e pos) (tS C (.asg i e')) := by
  obtain ⟨l1, l2⟩ := ok.loc x hl
  refine PST.to (pst_asg he (pg_name (i := i) (by rw [ok.N]; exact ok.nd) (by rw [ok.N]; exact ixS_get hi) l1 l2) (show swapsWith e (some (.Name x px)) pos.line X.env = pure false from simp_swap hs) (plain_nosw hnt) rfl) fun D σ H h => ?_
  refine tS_ev h (f := fun ρ d δ1 => match putS C.Γ C.md i e' d ρ with | some ρ' => .nx ρ' δ1 | none => .stk) (fun _ _ _ => rfl) fun ρ δ M δ1 d v H1 S k1 x1 dc1 V1 q => ?_
  cases e1 : putS C.Γ C.md i e' d ρ with
  | none => rw [e1] at q; exact q.elim
  | some ρ' =>
    rw [e1] at q
    obtain ⟨M', S', r⟩ := putS_ok S k1 x1 dc1 V1 (by rw [ok.dk]; exact hk) e1
    exact q _ _ M' S' r
theorem pst_whlD {t : Expr} {b : List Stmt} {t' : Ex} {b' : Sm} {pos : Pos} (ok : SOk X C c sc ex k) (ht : PT X t (tDT C t')) (hb : PSsT X b (tS C b')) : PST X (.While t b [] pos) (tS C (.whl t' b')) := by
  refine PST.to (pst_while ok.pas ht hb) fun D σ H h => ?_
  obtain ⟨ρ, δ, M, n, S, h⟩ := h
  simp only [exS] at h
  refine ⟨fun m σi Hi => ∃ ρi δi Mi, Stt C Mi ρi δi σi Hi ∧ Rel M H Mi Hi ∧ EndO C M H D (whlN (ev C.Γ t') (exS C.Γ C.md C.fr n b') m ρi δi), ⟨n, ρ, δ, M, S, Rel.refl _ _, h⟩, fun m σi Hi hW => ?_⟩
  obtain ⟨ρi, δi, Mi, Si, ri, hi⟩ := hW
  cases m with
  | zero => exact hi.elim
  | succ m =>
    simp only [whlN] at hi
    refine ⟨ρi, δi, Mi, Si, ?_⟩
    cases e : ev C.Γ t' ρi δi with
    | stk => rw [e] at hi; exact hi
    | exc y δ' => rw [e] at hi; exact BadS.at_ Si hi
    | ok d δ1 =>
      rw [e] at hi
      simp only [Res.out] at hi
      cases d with
      | bl b =>
        intro H1 k1 x1 dc1
        have S1 := Si.step x1 dc1 k1
        have r1 := ri.trans (Si.toM x1)
        cases b with
        | true =>
          rw [if_pos rfl]
          refine ⟨fun σ' H' => ∃ ρ' δ' M', Stt C M' ρ' δ' σ' H' ∧ Rel M H M' H' ∧ EndO C M H D (whlN (ev C.Γ t') (exS C.Γ C.md C.fr n b') m ρ' δ'), fun σ' H' h' => ⟨m, Nat.lt_succ_self m, h'⟩, ρi, δ1, Mi, n, S1, ?_⟩
          simp only at hi
          cases e7 : exS C.Γ C.md C.fr n b' ρi δ1 with
          | nx ρ2 δ2 => rw [e7] at hi; exact fun σ'' H'' M'' S'' r'' => ⟨ρ2, δ2, M'', S'', r1.trans r'', hi⟩
          | ct ρ2 δ2 => rw [e7] at hi; exact fun σ'' H'' M'' S'' r'' => ⟨ρ2, δ2, M'', S'', r1.trans r'', hi⟩
          | rt d δ2 => rw [e7] at hi; exact hi
          | ex y δ2 => rw [e7] at hi; exact hi
          | stk => rw [e7] at hi; exact hi
        | false =>
          rw [if_neg (by decide)]
          exact hi σi H1 Mi S1 r1
      | _ => exact hi.elim
theorem pst_ifD {t : Expr} {a b : List Stmt} {t' : Ex} {a' b' : Sm} {pos : Pos} (ok : SOk X C c sc ex k) (ht : PT X t (tDT C t')) (ha : PSsT X a (tS C a')) (hb : PSsT X b (tS C b')) : PST X (.If t a b pos) (tS C (.iff t' a' b')) := by
  refine PST.to (CwR.pst_if ht ha hb) fun D σ H h => ?_
  obtain ⟨ρ, δ, M, n, S, h⟩ := h
  refine ⟨ρ, δ, M, S, ?_⟩
  simp only [exS] at h
  cases e : ev C.Γ t' ρ δ with
  | stk => rw [e] at h; exact h
  | exc y δ' => rw [e] at h; exact BadS.at_ S h
  | ok d δ1 =>
    rw [e] at h
    simp only [Res.out] at h
    cases d with
    | bl b =>
      intro H1 k1 x1 dc1
      cases b with
      | true => rw [if_pos rfl]; exact ⟨ρ, δ1, M, n, S.step x1 dc1 k1, EndO.rel (S.toM x1) h⟩
      | false => rw [if_neg (by decide)]; exact ⟨ρ, δ1, M, n, S.step x1 dc1 k1, EndO.rel (S.toM x1) h⟩
    | _ => exact h.elim

theorem pet_ifD {t a b : Expr} {t' a' b' : Ex} {pos : Pos} (ok : COk X C c sc k) (ht : PT X t (tDT C t')) (ha : PET X a (tD C a')) (hb : PET X b (tD C b')) : PET X (.IfExp t a b pos) (tD C (.ife t' a' b')) :=
  PET.to (PET.kd (pet_if ht ha hb)) fun σ H Q q => by rw [← ok.K]; exact tIfD q
theorem pat_nil' : PAT X [] (tDs C .nil) := PAT.to pat_nil fun _ _ _ h => tDs_nil h
theorem pat_cons' {e : Expr} {es : List Expr} {a r : Ex} (ha : PET X e (tD C a)) (hr : PAT X es (tDs C r)) (hs : starEach (e :: es) X.env = (false, eval e X.env) :: starEach es X.env) : PAT X (e :: es) (tDs C (.cons a r)) :=
  PAT.to (pat_cons ha hr hs) fun _ _ _ h => tDs_cons h
theorem sAT {f : Expr → Option Ex} (ih : ∀ e x, f e = some x → PET X e (tD C x)) : ∀ es l, trA f es = some l → PAT X es (tDs C l)
  | [], l, h => by cases h; exact pat_nil'
  | e :: es, l, h => by
    unfold trA at h
    split at h
    · rename_i hp
      cases e1 : f e <;> cases e2 : trA f es <;> simp only [e1, e2] at h <;> try cases h
      exact pat_cons' (ih e _ e1) (sAT ih es _ e2) (plain_star hp _ _)
    · cases h
theorem pet_lstD {es : List Expr} {l : Ex} {pos : Pos} (ok : COk X C c sc k) (h : PAT X es (tDs C l)) : PET X (.List es pos) (tD C (.op .lstd l)) :=
  PET.to (PET.kd (pet_lst h)) fun σ H Q q => by rw [← ok.K]; exact op_red ok_lstd q
def trR (c : TrC) (sc : Scope) (o : Expr) (m : Str) (y z : Str) (ap cp : Pos) : Option Ex :=
  if decide (m = "replace") && recvOk o && (ap.endLine == cp.line) && !(y == z) && ascS y && ascS z && !y.cps.toList.isEmpty then (tr c 30 sc o).map fun o' => .op .replace (.cons o' (.cons (.cst (.str y.cps.toList)) (.cons (.cst (.str z.cps.toList)) .nil))) else none
def trE (c : TrC) (sc : Scope) : Nat → Expr → Option Ex
  | 0, _ => none
  | _ + 1, .Call (.Attribute o m ap) [.Constant (.str y) _ _, .Constant (.str z) _ _] [] cp => trR c sc o m y z ap cp
  | n + 1, .IfExp t a b _ => match tr c 30 sc t, trE c sc n a, trE c sc n b with
    | some t', some a', some b' => some (.ife t' a' b')
    | _, _, _ => none
  | n + 1, .List es _ => (trA (trE c sc n) es).map (.op .lstd)
  | _ + 1, e => tr c 30 sc e
theorem sR {o : Expr} {m y z : Str} {j j2 : Nat} {c0 c1 ap cp : Pos} {x : Ex} (ok : COk X C c sc k) (h : trR c sc o m y z ap cp = some x) : PET X (.Call (.Attribute o m ap) [.Constant (.str y) j c0, .Constant (.str z) j2 c1] [] cp) (tD C x) := by
  unfold trR at h
  split at h
  · rename_i hc
    obtain ⟨o', e1, rfl⟩ := map_opt h
    simp only [Bool.and_eq_true, decide_eq_true_eq, Bool.not_eq_true', ascS] at hc
    obtain ⟨⟨⟨⟨⟨⟨h1, h2⟩, h3⟩, h4⟩, h5, h5'⟩, h6, h6'⟩, h7⟩ := hc
    subst h1
    have e2 : ∀ s : Str, (⟨s.cps.toList.toArray⟩ : Str) = s := fun s => by cases s; simp
    have := pet_replD (j := j) (j2 := j2) (c0 := c0) (c1 := c1) (y := y.cps.toList) (z := z.cps.toList) (snd 30 sc o o' e1 X C ok).1 h2 h3 (by rw [e2, e2]; exact h4) (by intro z; rw [z] at h7; cases h7) (fun c hc => by have := List.all_eq_true.mp h5 c hc; simpa using this) (fun c hc => by have := List.all_eq_true.mp h6 c hc; simpa using this)
    rw [e2, e2] at this
    exact this
  · cases h
theorem sE (ok : COk X C c sc k) : ∀ (n : Nat) (e : Expr) (x : Ex), trE c sc n e = some x → PET X e (tD C x) := by
  intro n
  induction n with
  | zero => intro e x h; cases h
  | succ n ih =>
    intro e x h
    unfold trE at h
    split at h
    · rename_i heq; cases heq
    · rename_i heq; exact sR ok h
    · rename_i heq
      cases heq
      split at h
      · rename_i t' a' b' h1 h2 h3
        cases h
        exact pet_ifD ok (snd 30 sc _ _ h1 X C ok).2 (ih _ _ h2) (ih _ _ h3)
      · cases h
    · rename_i heq
      cases heq
      obtain ⟨l, e1, rfl⟩ := map_opt h
      exact pet_lstD ok (sAT ih _ _ e1)
    · exact CwR.PET.of (snd 30 sc _ _ h X C ok).1
end
end DC
set_option Elab.async false
set_option linter.all false
set_option maxRecDepth 100000
set_option maxHeartbeats 2000000
namespace DC
open PySem PySem.Spec PyProof.Rows L2
section
variable {X : Cx} {C : Cz} {c : TrC} {sc : Scope} {ex : Str → Bool} {k : Nat}
def PTk (X : Cx) (e : Expr) (t : TT) : Prop := ∀ (pins : List (Addr × Obj)) (s : Shared) (σ : L2.St) (H : Hp) (Q : Bool → Hp → Prop), Inv X pins σ H s → t σ H Q →
  wpAny (model X.prog X.w) X.A (isTrue e X.env (eval e X.env)) (fun b s' => 1 ≤ s'.toks ∧ TP X pins σ Q b s') X.xe s
theorem PTk.to {e : Expr} {t t' : TT} (h : PTk X e t) (w : ∀ σ H Q, t' σ H Q → t σ H Q) : PTk X e t' := fun pins s σ H Q I q => h pins s σ H Q I (w σ H Q q)
theorem PTk.kd {e : Expr} {t : TT} (h : PTk X e t) : PTk X e (fun σ H Q => t σ H fun v H' => KD X.K H' → Q v H') :=
  fun pins s σ H Q I q => thn (h pins s σ H _ I q) fun u s' ⟨h0, H', I', q'⟩ => ⟨h0, H', I', q' (KD.of I')⟩
theorem ptk_cmpR {a : Expr} {op : CmpOp} {r : R2} {ta : TE} {y : Str} {j : Nat} {c0 pos : Pos} (ho : OpR X (compareOp op) r) (ha : PE X a ta) (hm : behindInMarks op (.Constant (.str y) j c0) = false) : PTk X (.Compare a [op] [.Constant (.str y) j c0] pos) (tTest (tOp r ta (tC (.str y)))) := by
  intro pins s σ H Q I h
  refine wpAny_isTrue_Compare1 (thn (ha.run pins s σ H _ I h) fun v s1 ⟨x, H1, I1, r1, q1⟩ => Calls.Constant_str ?_) hm
  refine wpAny_mono (PySem.wpAny_toks (ho pins _ σ H1 x (.str y) v _ _ (I1.tok _) r1 ⟨_, rfl⟩ q1)) (fun c s3 q => ?_) fun _ _ z => z.2
  obtain ⟨hk, z, H3, I3, r3, k, e, q3⟩ := q
  subst e
  cases r3
  refine wpAny_truthy_bool ⟨Nat.le_trans ?_ hk, H3, I3, q3⟩
  show 1 ≤ s1.toks + 1
  omega
theorem ptk_cmpD {a : Expr} {a' : Ex} {o : CmpOp} {o' : Op} {y : Str} {j : Nat} {c0 pos : Pos} (ok : COk X C c sc k) (h : opC o = some o') (ha : PE X a (tD C a')) (hy : ascS y = true) : PTk X (.Compare a [o] [.Constant (.str y) j c0] pos) (tDT C (.op o' (.cons a' (.cons (.cst (.str y.cps.toList)) .nil)))) := by
  obtain ⟨r, h1, h2⟩ := cmp_ok (X := X) ok.room h
  refine PTk.to (PTk.kd (ptk_cmpR h1 ha (mark_ok rfl o))) fun σ H Q q => ?_
  rw [← ok.K] at h2
  rw [← ok.K]
  have q2 := tD_eq2 (op_redT h2 q)
  refine tD_mono q2 fun v H1 q3 => ?_
  obtain ⟨ρ, δ, M, S, q3⟩ := q3
  have e2 : (⟨y.cps.toList.toArray⟩ : Str) = y := by cases y; simp
  simp only [ascS, Bool.and_eq_true, decide_eq_true_eq] at hy
  have rr : ∀ M H, Rp C.K M H (.str y.cps.toList) (.str y) := fun M H => ⟨by rw [e2], by rw [szl]; omega, fun c hc => by have := List.all_eq_true.mp hy.1 c hc; simpa using this⟩
  exact q3 (.str y) H1 S.kd (Ext.refl _ _) S.dice ⟨rr _ _, fun _ => rr _ _, fun _ => (rr _ _).top, fun z => by simp [frs] at z⟩
theorem pss_ifK {t : Expr} {A rest : List Stmt} {t' : Ex} {a' b' : Sm} {p : Pos} (hk : PTk X t (tDT C t')) (hA : PSs X A (tS C a')) (hr : PSsT X rest (tS C b')) : PSs X (.If t A [] p :: rest) (tS C (.seq (.iff t' a' .skip) b')) := by
  refine ⟨fun pins s σ H D I h => ?_⟩
  obtain ⟨ρ, δ, M, n, S, h⟩ := h
  simp only [exS] at h
  have key : tDT C t' σ H fun b H1 => if b = true then tS C a' { D with nx := tS C b' D } σ H1 else tS C b' D σ H1 := by
    refine ⟨ρ, δ, M, S, ?_⟩
    cases e : ev C.Γ t' ρ δ with
    | stk => rw [e] at h; exact h
    | exc y δ' => rw [e] at h; exact BadS.at_ S h
    | ok d δ1 =>
      rw [e] at h
      simp only [Res.out] at h
      cases d with
      | bl b =>
        intro H1 k1 x1 dc1
        have S1 := S.step x1 dc1 k1
        cases b with
        | true =>
          rw [if_pos rfl]
          simp only at h
          refine ⟨ρ, δ1, M, n, S1, ?_⟩
          cases e2 : exS C.Γ C.md C.fr n a' ρ δ1 with
          | nx ρ' δ' => rw [e2] at h; exact fun σ' H' M' S' r' => ⟨ρ', δ', M', n, S', EndO.rel ((S.toM x1).trans r') h⟩
          | ct ρ' δ' => rw [e2] at h; exact EndO.rel (S.toM x1) h
          | rt d δ' => rw [e2] at h; exact h
          | ex y δ' => rw [e2] at h; exact h
          | stk => rw [e2] at h; exact h
        | false =>
          rw [if_neg (by decide)]
          simp only at h
          exact ⟨ρ, δ1, M, n, S1, EndO.rel (S.toM x1) h⟩
      | _ => exact h.elim
  refine wpAny_execs_cons (wpAny_If (wpAny_mono (hk pins s σ H _ I key) (fun b s1 q => ?_) fun _ _ z => z))
  obtain ⟨h0, H1, I1, q1⟩ := q
  cases b with
  | true =>
    rw [if_pos rfl] at q1
    refine wpAny_mono (PySem.wpAny_toks (hA.run pins s1 σ H1 _ I1 q1)) (fun f s2 q => ?_) fun _ _ z => z.2
    obtain ⟨hk2, q⟩ := q
    cases f with
    | next =>
      obtain ⟨σ', H', I', q⟩ := q
      exact hr pins s2 σ' H' D (Nat.le_trans h0 hk2) I' q
    | brk => exact q
    | cont => exact q
    | ret u => exact q
  | false =>
    rw [if_neg (by decide)] at q1
    refine wpAny_execs_nil ?_
    exact hr pins s1 σ H1 D h0 I1 q1
theorem psst_consD {st : Stmt} {r : List Stmt} {a b : Sm} (h1 : PST X st (tS C a)) (h2 : PSsT X r (tS C b)) : PSsT X (st :: r) (tS C (.seq a b)) := by
  refine PSsT.to (psst_cons h1 h2) fun D σ H h => ?_
  obtain ⟨ρ, δ, M, n, S, h⟩ := h
  refine ⟨ρ, δ, M, n, S, ?_⟩
  simp only [exS] at h
  cases e : exS C.Γ C.md C.fr n a ρ δ with
  | nx ρ' δ' => rw [e] at h; exact fun σ' H' M' S' r' => ⟨ρ', δ', M', n, S', EndO.rel r' h⟩
  | ct ρ' δ' => rw [e] at h; exact h
  | rt d δ' => rw [e] at h; exact h
  | ex y δ' => rw [e] at h; exact h
  | stk => rw [e] at h; exact h
def notTupE : Expr → Bool
  | .Tuple _ _ _ => false
  | _ => true
def trST (c : TrC) (sc : Scope) (ex : Str → Bool) : Nat → Stmt → Option Sm
  | 0, _ => none
  | n + 1, .While t b [] _ => match tr c 30 sc t, trS.trSs (trST c sc ex n) b with
    | some t', some b' => some (.whl t' b')
    | _, _ => none
  | n + 1, .If t a b _ => match tr c 30 sc t, trS.trSs (trST c sc ex n) a, trS.trSs (trST c sc ex n) b with
    | some t', some a', some b' => some (.iff t' a' b')
    | _, _, _ => none
  | _ + 1, .Return (some (.IfExp t a b p)) _ => (trE c sc 10 (.IfExp t a b p)).bind fun x => if isVar x then none else some (.ret x)
  | _ + 1, .Assign [.Name x _] (.Call f as ks p) _ => if locB sc x && !oddName x then (match ixS c.N x, trE c sc 10 (.Call f as ks p) with
      | some i, some e' => if i = c.dk then none else some (.asg i e')
      | _, _ => none) else none
  | _ + 1, .Assign [.Name x _] (.List es p) _ => if locB sc x && !oddName x then (match ixS c.N x, trE c sc 10 (.List es p) with
      | some i, some e' => if i = c.dk then none else some (.asg i e')
      | _, _ => none) else none
  | _ + 1, s => trS c sc ex 40 s
theorem sSTs {f : Stmt → Option Sm} (ih : ∀ s a, f s = some a → PST X s (tS C a)) : ∀ (ss : List Stmt) (a : Sm), trS.trSs f ss = some a → PSsT X ss (tS C a)
  | [], a, h => by cases h; exact PSsT.of pss_nilD
  | s :: r, a, h => by
    simp only [trS.trSs] at h
    split at h
    · rename_i a' b' h1 h2
      cases h
      exact psst_consD (ih s a' h1) (sSTs ih r b' h2)
    · rename_i b' h1 h2
      cases h
      exact psst_consD (PST.of ps_badD) (sSTs ih r b' h2)
    · cases h
theorem sndST (ok : SOk X C c sc ex k) : ∀ (n : Nat) (st : Stmt) (s : Sm), trST c sc ex n st = some s → PST X st (tS C s) := by
  intro n
  induction n with
  | zero => intro st s h; cases h
  | succ n ih =>
    intro st s h
    unfold trST at h
    split at h
    · rename_i heq; cases heq
    · rename_i heq
      cases heq
      split at h
      · rename_i t' b' h1 h2
        cases h
        exact pst_whlD ok (snd 30 sc _ _ h1 X C ok.toCOk).2 (sSTs ih _ _ h2)
      · cases h
    · rename_i heq
      cases heq
      split at h
      · rename_i t' a' b' h1 h2 h3
        cases h
        exact pst_ifD ok (snd 30 sc _ _ h1 X C ok.toCOk).2 (sSTs ih _ _ h2) (sSTs ih _ _ h3)
      · cases h
    · rename_i t a b p pos heq
      cases e1 : trE c sc 10 (.IfExp t a b p) with
      | none => rw [e1] at h; cases h
      | some x =>
        rw [e1] at h
        simp only [Option.bind_some] at h
        split at h
        · cases h
        · rename_i hv
          cases h
          exact pst_retD ok (fun i z => by subst z; exact hv rfl) (sE ok.toCOk 10 _ _ e1)
    · rename_i x px f as ks p pos heq
      split at h
      · rename_i hl
        have hl' : locB sc x = true ∧ oddName x = false := by simpa using hl
        split at h
        · rename_i i e' h1 h2
          split at h
          · cases h
          · rename_i hk
            cases h
            exact pst_asgD ok hl'.1 h1 hk rfl (fun a b c z => nomatch z) (sE ok.toCOk 10 _ _ h2)
        · cases h
      · cases h
    · rename_i x px es p pos heq
      split at h
      · rename_i hl
        have hl' : locB sc x = true ∧ oddName x = false := by simpa using hl
        split at h
        · rename_i i e' h1 h2
          split at h
          · cases h
          · rename_i hk
            cases h
            exact pst_asgD ok hl'.1 h1 hk rfl (fun a b c z => nomatch z) (sE ok.toCOk 10 _ _ h2)
        · cases h
      · cases h
    · exact PST.of (sndS ok 40 _ _ h)
def trBk (c : TrC) (sc : Scope) (ex : Str → Bool) : List Stmt → Option Sm
  | .If (.Compare a [o] [.Constant (.str y) j c0] p1) A [] p2 :: rest => match opC o, tr c 30 sc a, ascS y, trS.trSs (trS c sc ex 40) A, trS.trSs (trST c sc ex 40) rest with
    | some o', some a', true, some A', some r' => some (.seq (.iff (.op o' (.cons a' (.cons (.cst (.str y.cps.toList)) .nil))) A' .skip) r')
    | _, _, _, _, _ => none
  | _ => none
theorem sBk (ok : SOk X C c sc ex k) (ss : List Stmt) (s : Sm) (h : trBk c sc ex ss = some s) : PSs X ss (tS C s) := by
  unfold trBk at h
  split at h
  · split at h
    · rename_i o' a' A' r' h1 h2 h3 h4 h5
      cases h
      exact pss_ifK (ptk_cmpD ok.toCOk h1 (snd 30 sc _ _ h2 X C ok.toCOk).1 h3) (sSs (fun st a h => sndS ok 40 st a h) _ _ h4) (sSTs (sndST ok 40) _ _ h5)
    · cases h
  · cases h
end
end DC
set_option Elab.async false
set_option linter.all false
set_option maxRecDepth 100000
set_option maxHeartbeats 2000000
namespace DC
open PySem PySem.Spec PyProof.Rows L2
section
variable {X : Cx} {C : Cz} {c : TrC} {sc : Scope} {ex : Str → Bool} {k : Nat}
theorem pss_strD {x y : Str} {i j : Nat} {px c0 pos : Pos} {rest : List Stmt} {b' : Sm} (ok : SOk X C c sc ex k) (hl : locB sc x = true) (hi : ixS c.N x = some i) (hk : i ≠ c.dk) (hy : ascS y = true) (hr : PSsT X rest (tS C b')) :
    PSs X (.Assign [.Name x px] (.Constant (.str y) j c0) pos :: rest) (tS C (.seq (.asg i (.cst (.str y.cps.toList))) b')) := by
  obtain ⟨l1, l2⟩ := ok.loc x hl
  refine PSs.to (pss_str (i := i) (by rw [ok.N]; exact ok.nd) (by rw [ok.N]; exact ixS_get hi) l1 hr rfl l2) fun D σ H h => ?_
  obtain ⟨ρ, δ, M, n, S, h⟩ := h
  simp only [exS, ev, Res.out] at h
  have e2 : (⟨y.cps.toList.toArray⟩ : Str) = y := by cases y; simp
  simp only [ascS, Bool.and_eq_true, decide_eq_true_eq] at hy
  have rr : ∀ M H, Rp C.K M H (.str y.cps.toList) (.str y) := fun M H => ⟨by rw [e2], by rw [szl]; omega, fun c hc => by have := List.all_eq_true.mp hy.1 c hc; simpa using this⟩
  have V1 : Val C M (.cst (.str y.cps.toList)) H H (.str y.cps.toList) (.str y) := ⟨rr _ _, fun _ => rr _ _, fun _ => (rr _ _).top, fun z => by simp [frs] at z⟩
  cases e1 : putS C.Γ C.md i (.cst (.str y.cps.toList)) (.str y.cps.toList) ρ with
  | none => rw [e1] at h; exact h.elim
  | some ρ' =>
    rw [e1] at h
    obtain ⟨M', S', r⟩ := putS_ok S S.kd (Ext.refl _ _) S.dice V1 (by rw [ok.dk]; exact hk) e1
    exact ⟨ρ', δ, M', n, S', EndO.rel r h⟩
def trBk2 (c : TrC) (sc : Scope) (ex : Str → Bool) : List Stmt → Option Sm
  | .Assign [.Name x _] (.Constant (.str y) _ _) _ :: rest => match locB sc x, ixS c.N x, ascS y, trS.trSs (trST c sc ex 40) rest with
    | true, some i, true, some r' => if i = c.dk then none else some (.seq (.asg i (.cst (.str y.cps.toList))) r')
    | _, _, _, _ => none
  | _ => none
theorem sBk2 (ok : SOk X C c sc ex k) (ss : List Stmt) (s : Sm) (h : trBk2 c sc ex ss = some s) : PSs X ss (tS C s) := by
  unfold trBk2 at h
  split at h
  · split at h
    · rename_i i r' h1 h2 h3 h4
      split at h
      · cases h
      · rename_i hk
        cases h
        exact pss_strD ok h1 h2 hk h3 (sSTs (sndST ok 40) _ _ h4)
    · cases h
  · cases h
end
end DC
set_option Elab.async false
set_option linter.all false
set_option maxRecDepth 100000
set_option maxHeartbeats 2000000
namespace DC
open PySem PySem.Spec L2
def PatOk (K : PySem.W.Frag) (fs : Fs) (fd : FuncData) (ps : List Str) (p : Way) : Prop :=
  (fs.dice = true → p.2.2 = none) ∧ (match p.2.2 with | none => p.1 + p.2.1.length | some l => l.length) = fs.np ∧ (∀ l, p.2.2 = some l → ∀ d, .inr d ∈ l → okC d = true) ∧
    ∃ g gV, KBn K fd ps p.1 p.2.1 g gV ∧ ∀ vs zs, vs.length = p.1 → zs.length = p.2.1.length → gV vs zs = arrV p.2.2 (vs ++ zs)
def PatsOk (K : PySem.W.Frag) (fs : Fs) (fd : FuncData) (ps : List Str) : List Way → Prop
  | [] => True
  | p :: r => PatOk K fs fd ps p ∧ PatsOk K fs fd ps r
theorem PatsOk.get {K : PySem.W.Frag} {fs : Fs} {fd : FuncData} {ps : List Str} : ∀ {l : List Way} {i : Nat} {p : Way}, PatsOk K fs fd ps l → l[i]? = some p → PatOk K fs fd ps p
  | [], i, p, _, e => by simp at e
  | q :: r, 0, p, h, e => by cases e; exact h.1
  | q :: r, i + 1, p, h, e => PatsOk.get h.2 (by simpa using e)
section
variable {P : Program} {w : World} {K : PySem.W.Frag} {mg : Str → Option Value} {base : Heap} {x qual : Str} {params : Arguments} {body : List Stmt} {scope : Scope} {dvs : List V} {kws : List (Str × V)} {f : Addr} {fd : FuncData} {ps : List Str} {fs : Fs}
theorem fnD_of {k : Nat} {y : Str} (hm : mg y = some (.ref f)) (kp : PySem.W.keepIn K (.ref f) = true) (ok : FnOk P w K mg base (L2.CX P w) k f fd ps (spD K mg fs)) (hp : PatsOk K fs fd ps fs.pats) : FnD P w K mg base k y fs :=
  ⟨f, fd, ps, hm, kp, ok, fun _ _ e => hp.get e⟩
theorem FnD.up {j k : Nat} {y : Str} (h : FnD P w K mg base j y fs) (hjk : j ≤ k) : FnD P w K mg base k y fs := by
  obtain ⟨a, fd, ps, m1, m2, F, pt⟩ := h
  exact ⟨a, fd, ps, m1, m2, F.mono hjk, pt⟩
theorem pat_A {n : Nat} {ks : List Str} (F : FunD K x qual params body scope [] kws f fd)
    (h : ∀ (kV doc pm : Value) (an : Option Addr) (cdv ct : Value) (us ws : List Value), us.length = n → ws.length = ks.length → bindArgs (PySem.W.fnOf x qual params body scope .none kV doc pm an cdv ct) ⟨us, ks.zip ws⟩ = pure (ps.zip (us ++ ws)))
    (hn : n + ks.length = fs.np) : PatOk K fs fd ps (n, ks, none) := by
  obtain ⟨oc, od, dV, kV, doc, pm, an, cdv, ct, osl, rfl, lk, hcd, hD, hK⟩ := F.ex
  refine ⟨fun _ => rfl, hn, fun l e => (nomatch e), fun us ws => us ++ ws, fun vs zs => vs ++ zs, ⟨fun s us ws X l1 l2 => ?_, fun r1 r2 => r1.append r2⟩, fun vs zs _ _ => rfl⟩
  rcases hD with ⟨_, rfl⟩ | ⟨e, _⟩
  · exact .of_eq (h kV doc pm an cdv ct us ws l1 l2)
  · exact absurd rfl e
theorem pat_D {n : Nat} {ks : List Str} (F : FunD K x qual params body scope dvs kws f fd) (hd : dvs ≠ [])
    (h : ∀ (T : Addr) (kV doc pm : Value) (an : Option Addr) (cdv ct : Value) (us ws its : List Value), us.length = n → ws.length = ks.length → its.length = dvs.length →
      ∃ k, bindArgs (PySem.W.fnOf x qual params body scope (.ref T) kV doc pm an cdv ct) ⟨us, ks.zip ws⟩ = seqItems? (.ref T) >>= k ∧ k (some its.toArray) = pure (ps.zip (us ++ ws)))
    (hn : n + ks.length = fs.np) : PatOk K fs fd ps (n, ks, none) := by
  obtain ⟨oc, od, dV, kV, doc, pm, an, cdv, ct, osl, rfl, lk, hcd, hD, hK⟩ := F.ex
  refine ⟨fun _ => rfl, hn, fun l e => (nomatch e), fun us ws => us ++ ws, fun vs zs => vs ++ zs, ⟨fun s us ws X l1 l2 => ?_, fun r1 r2 => r1.append r2⟩, fun vs zs _ _ => rfl⟩
  rcases hD with ⟨e, _⟩ | ⟨_, T, o, its, m, rfl, lT, oT, rT⟩
  · exact absurd e hd
  · obtain ⟨k, e1, e2⟩ := h T kV doc pm an cdv ct us ws its l1 l2 rT.length.symm
    refine BindsTo.of_looks fun M => ?_
    rw [e1]
    exact looks_items X lT oT (.of_pure e2)
theorem arr_more {n : Nat} {vs : List V} {ds : List D} (h : vs.length = n) : arrV (some ((List.range n).map Sum.inl ++ ds.map Sum.inr)) vs = vs ++ ds.map dV := by
  simp only [arrV, List.map_append, List.map_map]
  congr 1
  apply List.ext_getElem?
  intro i
  rw [List.getElem?_map]
  by_cases hi : i < n
  · rw [List.getElem?_eq_getElem (by simpa using hi)]
    simp [List.getD_eq_getElem?_getD, List.getElem?_eq_getElem (show i < vs.length by omega)]
  · rw [List.getElem?_eq_none (by simpa using hi), List.getElem?_eq_none (by omega)]
    rfl
theorem pat_of_binds {n : Nat} {ds : List D} {us0 : List Value} (hb : Binds K fd ps us0) (hv : Vals (ds.map dV) us0) (hn : n + ds.length = ps.length) (hnp : fs.np = ps.length) (hdice : fs.dice = false) (hok : ds.all okC = true) :
    PatOk K fs fd ps (n, [], some ((List.range n).map Sum.inl ++ ds.map Sum.inr)) := by
  have hl : ds.length = us0.length := by rw [← hv.length, List.length_map]
  refine ⟨fun z => (by rw [hdice] at z; cases z), by simp [hnp, hn], fun l e d hm => ?_, fun us ws => us ++ us0, fun vs zs => vs ++ ds.map dV, ⟨fun s us ws X l1 l2 => ?_, fun r1 r2 => r1.append hv⟩, fun vs zs l1 l2 => ?_⟩
  · cases e
    rcases List.mem_append.mp hm with z | z
    · obtain ⟨i, _, e⟩ := List.mem_map.mp z; cases e
    · obtain ⟨d', h1, e⟩ := List.mem_map.mp z
      cases e
      exact List.all_eq_true.mp hok d h1
  · have : ws = [] := List.length_eq_zero_iff.mp l2
    subst this
    exact hb s us X (by rw [List.length_append, l1, ← hl]; exact hn)
  · have : zs = [] := List.length_eq_zero_iff.mp l2
    subst this
    rw [List.append_nil, arr_more l1]
end
end DC
set_option Elab.async false
set_option linter.all false
set_option maxRecDepth 100000
set_option maxHeartbeats 2000000
namespace DC
open PySem PySem.Spec L2 He
section
variable {P : Program} {w : World} {K : PySem.W.Frag} {mg : Str → Option Value} {base : Heap}
theorem FnOk.cx0 {k : Nat} {f : Addr} {fd : FuncData} {ps : List Str} {sp : Sp} (F : FnOk P w K mg base (L2.CX P w) k f fd ps sp) (h : ∀ vs H Q E, sp vs H Q E → sp vs H Q fun _ _ _ => False) : FnOk P w K mg base C8.CX0 k f fd ps sp :=
  ⟨F.len, fun A outer s H args us vs Q E hr he hb hv hs => codeAny_mono (F.run A outer s H args us vs Q (fun _ _ _ => False) hr he hb hv (h vs H Q E hs)) fun r s' q => by
    cases r with
    | error e =>
      obtain ⟨_, _, _, _, _, _, _, _, _, _, _, _, z⟩ := q
      exact z.elim
    | ok fl => cases fl <;> exact q⟩
def lkF (L : List (Str × Fs)) (f : Str) : Option Fs := L.lookup f
def AllD (P : Program) (w : World) (K : PySem.W.Frag) (mg : Str → Option Value) (base : Heap) (k : Nat) (L : List (Str × Fs)) : Prop := ∀ p ∈ L, FnD P w K mg base k p.1 p.2
theorem AllD.up {j k : Nat} {L : List (Str × Fs)} (h : AllD P w K mg base j L) (hk : j ≤ k) : AllD P w K mg base k L := fun p hp => (h p hp).up hk
theorem AllD.add {k : Nat} {L : List (Str × Fs)} {f : Str} {fs : Fs} (h : AllD P w K mg base k L) (d : FnD P w K mg base (k + 1) f fs) : AllD P w K mg base (k + 1) ((f, fs) :: L) := fun p hp => by
  rcases List.mem_cons.mp hp with rfl | hp
  · exact d
  · exact (h p hp).up (Nat.le_succ k)
def sgL (L : List (Str × Fs)) (f : Str) : List (Nat × List Str) := match L.lookup f with
  | some fs => fs.pats.map fun p => (p.1, p.2.1)
  | none => []
theorem lk_mem {L : List (Str × Fs)} {f : Str} {fs : Fs} (h : lkF L f = some fs) : (f, fs) ∈ L := PySem.mem_of_lookup h
def csOk (K : PySem.W.Frag) (mg : Str → Option Value) (cs : Str → Option D) : Prop := ∀ x d, cs x = some d → ∃ u v, mg x = some u ∧ RelV v u ∧ ∀ M H, Rp K M H d v
theorem glo_of {k : Nat} {L : List (Str × Fs)} {cs : Str → Option D} {c : TrC} (h : AllD P w K mg base k L) (hc : csOk K mg cs) (hb : ∀ x ∈ bltN, mg x = none) (hs : ∀ p ∈ L, p.2.pats.map (fun q => (q.1, q.2.1)) = c.sg p.1 ∧ p.2.dice = c.dc p.1) : GloOk P w K mg base ⟨lkF L, cs⟩ c k :=
  ⟨fun f fs e => ⟨h _ (lk_mem e), hs _ (lk_mem e)⟩, hc, hb⟩
theorem cs_int {x : Str} {i : Int} {t : Nat} (h : mg x = some (.int i t)) : ∃ u v, mg x = some u ∧ RelV v u ∧ ∀ M H, Rp K M H (.int i) v := ⟨_, .int i, h, ⟨t, rfl⟩, fun _ _ => rfl⟩
theorem strs_rps {M : MS} {H : Hp} : ∀ (l : List (List Nat)), (∀ s ∈ l, s.length ≤ 1000 ∧ ∀ c ∈ s, c < 128) → Rps K M H (l.map D.str) (l.map fun s => V.str ⟨s.toArray⟩)
  | [], _ => rfl
  | s :: r, h => ⟨_, _, rfl, ⟨rfl, by rw [szl]; have := (h s (List.mem_cons_self ..)).1; omega, (h s (List.mem_cons_self ..)).2⟩, strs_rps r fun s hs => h s (List.mem_cons_of_mem _ hs)⟩
theorem cs_strs {h : Heap} {x : Str} {l : List (List Nat)} (X : K.In h) (G : h.Ns mainGlobals mg) (hg : (Fa.glo x).ok K = true) (ht : tupB K x (l.map fun s => Dv.str ⟨s.toArray⟩) = true) (hl : l.length ≤ 1000) (hs : ∀ s ∈ l, s.length ≤ 1000 ∧ ∀ c ∈ s, c < 128) :
    ∃ u v, mg x = some u ∧ RelV v u ∧ ∀ M H, Rp K M H (.tup (l.map D.str)) v := by
  refine ⟨_, .ref (ga K x), glo_ok X G hg, rfl, fun M H => ⟨ga K x, _, rfl, tupB_ok ht H, by rw [szl, List.length_map]; omega, ?_⟩⟩
  have := strs_rps (K := K) (M := M) (H := H) l hs
  rw [List.map_map]
  exact this
theorem exc_mk {h : Heap} {x : Str} (X : K.In h) (G : h.Ns mainGlobals mg) (hg : (Fa.glo x).ok K = true) (he : (Fa.exc x).ok K = true) (hdb : (x == ("__debug__" : Str)) = false) : ∀ X : Cx, X.K = K → X.mg = mg → Gl X x → ∃ Ca, mg x = some (.ref Ca) ∧ ∀ m j p p2 pos, PMk X (.Call (.Name x p) [.Constant (.str m) j p2] [] pos) (fun _ H Q => Q (.ref Ca) none H) := fun Y e1 e2 g => by
  subst e1 e2
  obtain ⟨q1, q2, q3, q4⟩ := exc_ok he
  exact ⟨ga Y.K x, glo_ok X G hg, fun m j p p2 pos => pmk_own PySem.F.excBase_ValueError q1 (glo_ok X G hg) q2 (raises_own q3 q4) g hdb⟩
end
theorem kd_only {K : PySem.W.Frag} {H : Hp} (h : Only H) : KD K H := fun a vs e => by
  rcases h a with z | ⟨o, xs, z⟩
  · rcases e with e | ⟨ob, e⟩ <;> rw [z] at e <;> cases e
  · rcases e with e | ⟨ob, e⟩ <;> rw [z] at e <;> cases e
end DC
set_option Elab.async false
set_option linter.all false
set_option maxRecDepth 100000
set_option maxHeartbeats 2000000
namespace DC
open PySem PySem.Spec L2
def We (r : Res D) (Q : D → Dice → Prop) (X : Exc → Dice → Prop) : Prop := match r with
  | .ok d δ => Q d δ
  | .exc x δ => X x δ
  | .stk => False
def Wo (o : Option D) (Q : D → Prop) : Prop := match o with
  | some d => Q d
  | none => False
def Wl (r : Res (List D)) (Q : List D → Dice → Prop) : Prop := match r with
  | .ok d δ => Q d δ
  | .exc _ _ => False
  | .stk => False
structure Post where
  nx : En → Dice → Prop
  ct : En → Dice → Prop
  rt : D → Dice → Prop
  ex : Exc → Dice → Prop
def Wp (o : Out) (P : Post) : Prop := match o with
  | .nx ρ δ => P.nx ρ δ
  | .ct ρ δ => P.ct ρ δ
  | .rt d δ => P.rt d δ
  | .ex x δ => P.ex x δ
  | .stk => False
theorem We.mono {r : Res D} {Q Q' : D → Dice → Prop} {X X' : Exc → Dice → Prop} (h : We r Q X) (w : ∀ d δ, Q d δ → Q' d δ) (w' : ∀ x δ, X x δ → X' x δ) : We r Q' X' := by
  cases r with
  | ok d δ => exact w d δ h
  | exc x δ => exact w' x δ h
  | stk => exact h
theorem Wp.mono {o : Out} {P P' : Post} (h : Wp o P) (w1 : ∀ ρ δ, P.nx ρ δ → P'.nx ρ δ) (w2 : ∀ ρ δ, P.ct ρ δ → P'.ct ρ δ) (w3 : ∀ d δ, P.rt d δ → P'.rt d δ) (w4 : ∀ x δ, P.ex x δ → P'.ex x δ) : Wp o P' := by
  cases o with
  | nx ρ δ => exact w1 ρ δ h
  | ct ρ δ => exact w2 ρ δ h
  | rt d δ => exact w3 d δ h
  | ex x δ => exact w4 x δ h
  | stk => exact h
section
variable {Γ : Glo} {ρ : En} {δ : Dice} {Q : D → Dice → Prop} {X : Exc → Dice → Prop}
theorem We_ok (d : D) : We (.ok d δ) Q X = Q d δ := rfl
theorem We_exc (x : Exc) : We (.exc x δ) Q X = X x δ := rfl
theorem We_bind (r : Res D) (f : D → Dice → Res D) : We (r.bind f) Q X = We r (fun d δ => We (f d δ) Q X) X := by cases r <;> rfl
theorem We_var (i : Nat) : We (ev Γ (.var i) ρ δ) Q X = match ρ[i]? with | some (some d) => Q d δ | _ => False := by
  simp only [ev]
  cases ρ[i]? with
  | none => rfl
  | some o => cases o <;> rfl
theorem We_cst (d : D) : We (ev Γ (.cst d) ρ δ) Q X = Q d δ := rfl
theorem We_glb {x : Str} {d : D} (h : Γ.cs x = some d) : We (ev Γ (.glb x) ρ δ) Q X = Q d δ := by simp only [ev, h]; rfl
theorem We_dget (i : Nat) : We (ev Γ (.dget i) ρ δ) Q X = Q (.int (if i = 0 then δ.1 else δ.2.1)) δ := rfl
def Was (Γ : Glo) : Ex → En → Dice → (List D → Dice → Prop) → (Exc → Dice → Prop) → Prop
  | .nil, _, δ, Q, _ => Q [] δ
  | .cons a r, ρ, δ, Q, X => We (ev Γ a ρ δ) (fun d δ1 => Was Γ r ρ δ1 (fun ds δ2 => Q (d :: ds) δ2) X) X
  | _, _, _, _, _ => False
theorem Was_nil {Q : List D → Dice → Prop} : Was Γ .nil ρ δ Q X = Q [] δ := rfl
theorem Was_cons {Q : List D → Dice → Prop} (a r : Ex) : Was Γ (.cons a r) ρ δ Q X = We (ev Γ a ρ δ) (fun d δ1 => Was Γ r ρ δ1 (fun ds δ2 => Q (d :: ds) δ2) X) X := rfl
theorem Was_to : ∀ (args : Ex) (δ : Dice) (Q : List D → Dice → Prop), Was Γ args ρ δ Q X → We (ev Γ args ρ δ) (fun v δ => ∃ ds, v = .tup ds ∧ Q ds δ) X
  | .nil, δ, Q, h => ⟨[], rfl, h⟩
  | .cons a r, δ, Q, h => by
    simp only [ev]
    rw [We_bind]
    refine We.mono (show We (ev Γ a ρ δ) _ X from h) (fun d δ1 h1 => ?_) (fun _ _ z => z)
    rw [We_bind]
    refine We.mono (Was_to r δ1 _ h1) (fun v δ2 h2 => ?_) (fun _ _ z => z)
    obtain ⟨ds, rfl, q⟩ := h2
    exact ⟨d :: ds, rfl, q⟩
  | .var _, _, _, h => h.elim
  | .cst _, _, _, h => h.elim
  | .glb _, _, _, h => h.elim
  | .dget _, _, _, h => h.elim
  | .op _ _, _, _, h => h.elim
  | .and _ _, _, _, h => h.elim
  | .or _ _, _, _, h => h.elim
  | .not _, _, _, h => h.elim
  | .ife _ _ _, _, _, h => h.elim
  | .chn _ _ _ _ _, _, _, h => h.elim
  | .comp _ _ _ _ _, _, _, h => h.elim
  | .call _ _ _ _ _, _, _, h => h.elim
  | .tget _ _, _, _, h => h.elim
  | .told _, _, _, h => h.elim
theorem We_op {o : Op} {args : Ex} (h : Was Γ args ρ δ (fun ds δ1 => Wo (opv o ds) fun d => Q d δ1) X) : We (ev Γ (.op o args) ρ δ) Q X := by
  simp only [ev]
  rw [We_bind]
  refine We.mono (Was_to args δ _ h) (fun v δ1 h1 => ?_) (fun _ _ z => z)
  obtain ⟨ds, rfl, q⟩ := h1
  simp only
  cases e : opv o ds with
  | none => rw [e] at q; exact q
  | some d => rw [e] at q; exact q
theorem We_and {a b : Ex} (h : We (ev Γ a ρ δ) (fun d δ1 => match d with | .bl true => We (ev Γ b ρ δ1) Q X | .bl false => Q (.bl false) δ1 | _ => False) X) : We (ev Γ (.and a b) ρ δ) Q X := by
  simp only [ev]
  rw [We_bind]
  refine We.mono h (fun v δ1 h1 => ?_) (fun _ _ z => z)
  split at h1
  · exact h1
  · exact h1
  · exact h1.elim
theorem We_or {a b : Ex} (h : We (ev Γ a ρ δ) (fun d δ1 => match d with | .bl true => Q (.bl true) δ1 | .bl false => We (ev Γ b ρ δ1) Q X | _ => False) X) : We (ev Γ (.or a b) ρ δ) Q X := by
  simp only [ev]
  rw [We_bind]
  refine We.mono h (fun v δ1 h1 => ?_) (fun _ _ z => z)
  split at h1
  · exact h1
  · exact h1
  · exact h1.elim
theorem We_not {a : Ex} (h : We (ev Γ a ρ δ) (fun d δ1 => match d with | .bl k => Q (.bl (!k)) δ1 | _ => False) X) : We (ev Γ (.not a) ρ δ) Q X := by
  simp only [ev]
  rw [We_bind]
  refine We.mono h (fun v δ1 h1 => ?_) (fun _ _ z => z)
  split at h1
  · exact h1
  · exact h1.elim
theorem We_ife {t a b : Ex} (h : We (ev Γ t ρ δ) (fun d δ1 => match d with | .bl true => We (ev Γ a ρ δ1) Q X | .bl false => We (ev Γ b ρ δ1) Q X | _ => False) X) : We (ev Γ (.ife t a b) ρ δ) Q X := by
  simp only [ev]
  rw [We_bind]
  refine We.mono h (fun v δ1 h1 => ?_) (fun _ _ z => z)
  split at h1
  · exact h1
  · exact h1
  · exact h1.elim
theorem We_chn {o p : Op} {a b c : Ex} (h : We (ev Γ a ρ δ) (fun x δ1 => We (ev Γ b ρ δ1) (fun y δ2 => Wo (opv o [x, y]) fun d => match d with
      | .bl true => We (ev Γ c ρ δ2) (fun z δ3 => Wo (opv p [y, z]) fun d => match d with | .bl k => Q (.bl k) δ3 | _ => False) X
      | .bl false => Q (.bl false) δ2
      | _ => False) X) X) : We (ev Γ (.chn o p a b c) ρ δ) Q X := by
  simp only [ev]
  rw [We_bind]
  refine We.mono h (fun x δ1 h1 => ?_) (fun _ _ z => z)
  rw [We_bind]
  refine We.mono h1 (fun y δ2 h2 => ?_) (fun _ _ z => z)
  cases e : opv o [x, y] with
  | none => rw [e] at h2; exact h2.elim
  | some d =>
    rw [e] at h2
    simp only [Wo] at h2
    split at h2
    · simp only
      rw [We_bind]
      refine We.mono h2 (fun z δ3 h3 => ?_) (fun _ _ z => z)
      cases e2 : opv p [y, z] with
      | none => rw [e2] at h3; exact h3.elim
      | some d2 =>
        rw [e2] at h3
        simp only [Wo] at h3
        split at h3
        · exact h3
        · exact h3.elim
    · exact h2
    · exact h2.elim
theorem We_comp {own : List Nat} {p : Pat} {it cond elt : Ex} (h : We (ev Γ it ρ δ) (fun d δ1 => ∃ ds, d.items = some ds ∧ Wl (compL (bindP p) (ev Γ cond) (ev Γ elt) (wipeE ρ own) ds δ1) fun xs δ2 => Q (.lst xs) δ2) X) : We (ev Γ (.comp own p it cond elt) ρ δ) Q X := by
  simp only [ev]
  rw [We_bind]
  refine We.mono h (fun d δ1 h1 => ?_) (fun _ _ z => z)
  obtain ⟨ds, e, h2⟩ := h1
  rw [e]
  simp only
  cases e2 : compL (bindP p) (ev Γ cond) (ev Γ elt) (wipeE ρ own) ds δ1 with
  | ok xs δ2 => rw [e2] at h2; exact h2
  | exc _ _ => rw [e2] at h2; exact h2.elim
  | stk => rw [e2] at h2; exact h2.elim
theorem We_tget {a b : Ex} (h : We (ev Γ a ρ δ) (fun x δ1 => We (ev Γ b ρ δ1) (fun y δ2 => ∃ i j n, x = .int i ∧ y = .int j ∧ δ2.2.2.length = δ1.2.2.length ∧ tabG δ2.2.2 i j = some n ∧ Q (.int n) δ2) X) X) : We (ev Γ (.tget a b) ρ δ) Q X := by
  simp only [ev]
  rw [We_bind]
  refine We.mono h (fun x δ1 h1 => ?_) (fun _ _ z => z)
  rw [We_bind]
  refine We.mono h1 (fun y δ2 h2 => ?_) (fun _ _ z => z)
  obtain ⟨i, j, n, rfl, rfl, hl, e, q⟩ := h2
  simp only [hl, if_true, e]
  exact q
theorem We_told {x : Ex} (h : We (ev Γ x ρ δ) Q (fun y δ' => Wo (refD y) fun d => Q d δ')) : We (ev Γ (.told x) ρ δ) Q X := by
  simp only [ev]
  cases e : ev Γ x ρ δ with
  | ok d δ' => rw [e] at h; exact h
  | exc y δ' =>
    rw [e] at h
    simp only
    have h : Wo (refD y) fun d => Q d δ' := h
    cases e2 : refD y with
    | none => rw [e2] at h; exact h.elim
    | some d => rw [e2] at h; exact h
  | stk => rw [e] at h; exact h
theorem We_call {f : Str} {fs : Fs} {pt : Nat} {w : Way} {args kws : Ex} (hf : Γ.fn f = some fs) (hd : fs.dice = false) (hw : fs.pats[pt]? = some w)
    (h : Was Γ args ρ δ (fun ds δ1 => Was Γ kws ρ δ1 (fun es δ2 => ∃ gs, arrG w.2.2 (ds ++ es) = some gs ∧ We (fs.sem gs (0, 0, [])) (fun d _ => Q d δ2) (fun x _ => X x δ2)) X) X) : We (ev Γ (.call f false pt args kws) ρ δ) Q X := by
  simp only [ev, hf, hd, if_true]
  rw [We_bind]
  refine We.mono (Was_to args δ _ h) (fun v δ1 h1 => ?_) (fun _ _ z => z)
  obtain ⟨ds, rfl, h1⟩ := h1
  rw [We_bind]
  refine We.mono (Was_to kws δ1 _ h1) (fun v δ2 h2 => ?_) (fun _ _ z => z)
  obtain ⟨es, rfl, gs, eg, q⟩ := h2
  simp only [hw, Option.bind_some, eg]
  cases e : fs.sem gs (0, 0, []) with
  | ok d δ3 => rw [e] at q; exact q
  | exc x δ3 => rw [e] at q; exact q
  | stk => rw [e] at q; exact q
theorem We_calld {f : Str} {fs : Fs} {pt : Nat} {w : Way} {args kws : Ex} (hf : Γ.fn f = some fs) (hd : fs.dice = true) (hw : fs.pats[pt]? = some w)
    (h : Was Γ args ρ δ (fun ds δ1 => Was Γ kws ρ δ1 (fun es δ2 => ∃ gs, arrG w.2.2 (ds ++ es) = some gs ∧ We (fs.sem gs δ2) Q X) X) X) : We (ev Γ (.call f true pt args kws) ρ δ) Q X := by
  simp only [ev, hf, hd, if_true]
  rw [We_bind]
  refine We.mono (Was_to args δ _ h) (fun v δ1 h1 => ?_) (fun _ _ z => z)
  obtain ⟨ds, rfl, h1⟩ := h1
  rw [We_bind]
  refine We.mono (Was_to kws δ1 _ h1) (fun v δ2 h2 => ?_) (fun _ _ z => z)
  obtain ⟨es, rfl, gs, eg, q⟩ := h2
  simp only [hw, Option.bind_some, eg]
  exact q
end
section
variable {Γ : Glo} {md : List Bool} {fr : Bool} {n : Nat} {ρ : En} {δ : Dice} {P : Post}
theorem Wp_out {r : Res D} {f : D → Dice → Out} (h : We r (fun d δ1 => Wp (f d δ1) P) P.ex) : Wp (r.out f) P := by cases r <;> exact h
theorem Wp_skip (h : P.nx ρ δ) : Wp (exS Γ md fr n .skip ρ δ) P := h
theorem Wp_seq {a b : Sm} (h : Wp (exS Γ md fr n a ρ δ) { P with nx := fun ρ' δ' => Wp (exS Γ md fr n b ρ' δ') P }) : Wp (exS Γ md fr n (.seq a b) ρ δ) P := by
  simp only [exS]
  cases e : exS Γ md fr n a ρ δ with
  | nx ρ' δ' => rw [e] at h; exact h
  | ct ρ' δ' => rw [e] at h; exact h
  | rt d δ' => rw [e] at h; exact h
  | ex x δ' => rw [e] at h; exact h
  | stk => rw [e] at h; exact h
theorem Wp_asg {i : Nat} {x : Ex} (h : We (ev Γ x ρ δ) (fun d δ1 => ∃ ρ', putS Γ md i x d ρ = some ρ' ∧ P.nx ρ' δ1) P.ex) : Wp (exS Γ md fr n (.asg i x) ρ δ) P := by
  simp only [exS]
  refine Wp_out (h.mono (fun d δ1 q => ?_) fun _ _ z => z)
  obtain ⟨ρ', e, q⟩ := q
  rw [e]; exact q
theorem Wp_set {i : Nat} {x : Ex} (hm : md.getD i false = false) (hc : cln md x = true) (h : We (ev Γ x ρ δ) (fun d δ1 => P.nx (ρ.set i (some d)) δ1) P.ex) : Wp (exS Γ md fr n (.asg i x) ρ δ) P :=
  Wp_asg (h.mono (fun d δ1 q => ⟨_, by unfold putS; rw [hm, hc]; rfl, q⟩) fun _ _ z => z)
theorem Wp_setM {i : Nat} {x : Ex} (hm : md.getD i false = true) (hc : frs Γ md x = true) (h : We (ev Γ x ρ δ) (fun d δ1 => ∃ ds, d = .lst ds ∧ P.nx (ρ.set i (some (.lst ds))) δ1) P.ex) : Wp (exS Γ md fr n (.asg i x) ρ δ) P :=
  Wp_asg (h.mono (fun d δ1 q => by obtain ⟨ds, rfl, q⟩ := q; exact ⟨_, by unfold putS; rw [hm, hc]; rfl, q⟩) fun _ _ z => z)
theorem Wp_unp {p : Pat} {x : Ex} (h : We (ev Γ x ρ δ) (fun d δ1 => (cln md x || d.flat) = true ∧ ∃ ρ', bindP p d ρ = some ρ' ∧ P.nx ρ' δ1) P.ex) : Wp (exS Γ md fr n (.unp p x) ρ δ) P := by
  simp only [exS]
  refine Wp_out (h.mono (fun d δ1 q => ?_) fun _ _ z => z)
  obtain ⟨h1, ρ', e, q⟩ := q
  rw [if_pos h1, e]; exact q
theorem Wp_par {is : List Nat} {x : Ex} (h : Was Γ x ρ δ (fun ds δ1 => ∃ ρ', putP Γ md is x ds ρ = some ρ' ∧ P.nx ρ' δ1) P.ex) : Wp (exS Γ md fr n (.par is x) ρ δ) P := by
  simp only [exS]
  refine Wp_out ((Was_to x δ _ h).mono (fun d δ1 q => ?_) fun _ _ z => z)
  obtain ⟨ds, rfl, ρ', e, q⟩ := q
  simp only [e]; exact q
theorem Wp_app {i : Nat} {x : Ex} {ds : List D} (hm : md.getD i false = true) (hρ : ρ[i]? = some (some (.lst ds))) (h : We (ev Γ x ρ δ) (fun d δ1 => ((cln md x || d.flat) && decide (ds.length < 16777216)) = true ∧ P.nx (ρ.set i (some (.lst (ds ++ [d])))) δ1) P.ex) :
    Wp (exS Γ md fr n (.app i x) ρ δ) P := by
  simp only [exS, hm, hρ]
  refine Wp_out (h.mono (fun d δ1 q => ?_) fun _ _ z => z)
  rw [if_pos q.1]; exact q.2
theorem Wp_lset {i : Nat} {k x : Ex} {ds : List D} (hm : md.getD i false = true) (hρ : ρ[i]? = some (some (.lst ds)))
    (h : We (ev Γ x ρ δ) (fun d δ1 => We (ev Γ k ρ δ1) (fun kk δ2 => ∃ j m, kk = .int j ∧ ixN ds.length j = some m ∧ (cln md x || d.flat) = true ∧ P.nx (ρ.set i (some (.lst (ds.set m d)))) δ2) P.ex) P.ex) : Wp (exS Γ md fr n (.lset i k x) ρ δ) P := by
  simp only [exS]
  refine Wp_out (h.mono (fun d δ1 q => ?_) fun _ _ z => z)
  refine Wp_out (q.mono (fun kk δ2 q => ?_) fun _ _ z => z)
  obtain ⟨j, m, rfl, e1, e2, q⟩ := q
  simp only [hm, hρ, e1, if_pos e2]
  exact q
theorem Wp_tset {a b x : Ex} (h : We (ev Γ x ρ δ) (fun d δ1 => We (ev Γ a ρ δ1) (fun i δ2 => We (ev Γ b ρ δ2) (fun j δ3 => ∃ v i' j' t, d = .int v ∧ i = .int i' ∧ j = .int j' ∧ δ3.2.2.length = δ2.2.2.length ∧ tabS δ3.2.2 i' j' v = some t ∧ P.nx ρ (δ3.1, δ3.2.1, t)) P.ex) P.ex) P.ex) :
    Wp (exS Γ md fr n (.tset a b x) ρ δ) P := by
  simp only [exS]
  refine Wp_out (h.mono (fun d δ1 q => ?_) fun _ _ z => z)
  refine Wp_out (q.mono (fun i δ2 q => ?_) fun _ _ z => z)
  refine Wp_out (q.mono (fun j δ3 q => ?_) fun _ _ z => z)
  obtain ⟨v, i', j', t, rfl, rfl, rfl, hl, e, q⟩ := q
  simp only [hl, if_true, e]
  exact q
theorem Wp_iff {t : Ex} {a b : Sm} (h : We (ev Γ t ρ δ) (fun d δ1 => match d with | .bl true => Wp (exS Γ md fr n a ρ δ1) P | .bl false => Wp (exS Γ md fr n b ρ δ1) P | _ => False) P.ex) : Wp (exS Γ md fr n (.iff t a b) ρ δ) P := by
  simp only [exS]
  refine Wp_out (h.mono (fun d δ1 q => ?_) fun _ _ z => z)
  split at q
  · exact q
  · exact q
  · exact q.elim
theorem Wp_ret {x : Ex} (hr : retOk Γ md fr x = true) (h : We (ev Γ x ρ δ) P.rt P.ex) : Wp (exS Γ md fr n (.ret x) ρ δ) P := by
  simp only [exS, hr, if_true]
  exact Wp_out h
theorem Wp_retN (hr : fr = false) (h : P.rt .non δ) : Wp (exS Γ md fr n .retN ρ δ) P := by
  subst hr
  exact h
theorem Wp_rai {c : Str} (h : P.ex ⟨c, none⟩ δ) : Wp (exS Γ md fr n (.rai c) ρ δ) P := h
theorem Wp_cont (h : P.ct ρ δ) : Wp (exS Γ md fr n .cont ρ δ) P := h
theorem Wp_exp {x : Ex} (h : We (ev Γ x ρ δ) (fun _ δ1 => P.nx ρ δ1) P.ex) : Wp (exS Γ md fr n (.exp x) ρ δ) P := Wp_out h
theorem Wp_dset {i : Nat} {x : Ex} (h : We (ev Γ x ρ δ) (fun d δ1 => ∃ v, d = .int v ∧ P.nx ρ (if i = 0 then (v, δ1.2) else (δ1.1, v, δ1.2.2))) P.ex) : Wp (exS Γ md fr n (.dset i x) ρ δ) P := by
  simp only [exS]
  refine Wp_out (h.mono (fun d δ1 q => ?_) fun _ _ z => z)
  obtain ⟨v, rfl, q⟩ := q
  exact q
theorem Wp_for {p : Pat} {it : Ex} {b : Sm} (hc : cln md it = true) (h : We (ev Γ it ρ δ) (fun d δ1 => ∃ ds, d.items = some ds ∧ ∃ J : List D → En → Dice → Prop, J ds ρ δ1 ∧ (∀ ρ δ, J [] ρ δ → P.nx ρ δ) ∧
      ∀ d r ρ δ, J (d :: r) ρ δ → ∃ ρ1, bindP p d ρ = some ρ1 ∧ Wp (exS Γ md fr n b ρ1 δ) { P with nx := J r, ct := J r }) P.ex) : Wp (exS Γ md fr n (.fr p it b) ρ δ) P := by
  simp only [exS, hc, if_true]
  refine Wp_out (h.mono (fun d δ1 q => ?_) fun _ _ z => z)
  obtain ⟨ds, e, J, j0, j1, j2⟩ := q
  rw [e]
  simp only
  clear e h
  induction ds generalizing ρ δ1 with
  | nil => exact j1 ρ δ1 j0
  | cons d r ih =>
    simp only [forL]
    obtain ⟨ρ1, e1, q⟩ := j2 d r ρ δ1 j0
    rw [e1]
    simp only
    cases e2 : exS Γ md fr n b ρ1 δ1 with
    | nx ρ2 δ2 => rw [e2] at q; exact ih (δ1 := δ2) q
    | ct ρ2 δ2 => rw [e2] at q; exact ih (δ1 := δ2) q
    | rt d δ2 => rw [e2] at q; exact q
    | ex x δ2 => rw [e2] at q; exact q
    | stk => rw [e2] at q; exact q
theorem Wp_whl {t : Ex} {b : Sm} (J : Nat → En → Dice → Prop) (j0 : ∃ m, m < n ∧ J m ρ δ)
    (h : ∀ m ρ δ, J m ρ δ → We (ev Γ t ρ δ) (fun d δ1 => match d with
      | .bl true => Wp (exS Γ md fr n b ρ δ1) { P with nx := fun ρ' δ' => ∃ m', m' < m ∧ J m' ρ' δ', ct := fun ρ' δ' => ∃ m', m' < m ∧ J m' ρ' δ' }
      | .bl false => P.nx ρ δ1
      | _ => False) P.ex) : Wp (exS Γ md fr n (.whl t b) ρ δ) P := by
  simp only [exS]
  obtain ⟨m, hm, j0⟩ := j0
  have key : ∀ (k : Nat) (m : Nat) (ρ : En) (δ : Dice), m < k → J m ρ δ → Wp (whlN (ev Γ t) (exS Γ md fr n b) k ρ δ) P := by
    intro k
    induction k with
    | zero => intro m ρ δ hm; omega
    | succ k ih =>
      intro m ρ δ hm hj
      simp only [whlN]
      refine Wp_out ((h m ρ δ hj).mono (fun d δ1 q => ?_) fun _ _ z => z)
      split at q
      · try simp only
        cases e2 : exS Γ md fr n b ρ δ1 with
        | nx ρ2 δ2 => rw [e2] at q; obtain ⟨m', h1, h2⟩ := q; exact ih m' ρ2 δ2 (by omega) h2
        | ct ρ2 δ2 => rw [e2] at q; obtain ⟨m', h1, h2⟩ := q; exact ih m' ρ2 δ2 (by omega) h2
        | rt d δ2 => rw [e2] at q; exact q
        | ex x δ2 => rw [e2] at q; exact q
        | stk => rw [e2] at q; exact q
      · exact q
      · exact q.elim
  exact key n m ρ δ hm j0
end
def Pr (r : D → Dice → Prop) (x : Exc → Dice → Prop) (fr : Bool) : Post := ⟨fun _ δ => fr = false ∧ r .non δ, fun _ _ => False, r, x⟩
theorem runF_of {Γ : Glo} {md : List Bool} {fr : Bool} {N : Nat} {dice : Bool} {s : Sm} {n : Nat} {ds : List D} {δ : Dice} {R : Res D}
    (h : Wp (exS Γ md fr n s ((if dice then [none] else []) ++ ds.map some ++ List.replicate (N - ds.length - (if dice then 1 else 0)) none) δ) (Pr (fun d δ' => .ok d δ' = R) (fun x δ' => .exc x δ' = R) fr)) : runF Γ md fr N dice s n ds δ = R := by
  unfold runF
  cases e : exS Γ md fr n s ((if dice then [none] else []) ++ ds.map some ++ List.replicate (N - ds.length - (if dice then 1 else 0)) none) δ with
  | nx ρ' δ' => rw [e] at h; obtain ⟨rfl, h⟩ := h; exact h
  | ct ρ' δ' => rw [e] at h; exact h.elim
  | rt d δ' => rw [e] at h; exact h
  | ex x δ' => rw [e] at h; exact h
  | stk => rw [e] at h; exact h.elim
theorem runF_we {Γ : Glo} {md : List Bool} {fr : Bool} {N : Nat} {dice : Bool} {s : Sm} {n : Nat} {ds : List D} {δ : Dice} {Q : D → Dice → Prop} {X : Exc → Dice → Prop}
    (h : Wp (exS Γ md fr n s ((if dice then [none] else []) ++ ds.map some ++ List.replicate (N - ds.length - (if dice then 1 else 0)) none) δ) (Pr Q X fr)) : We (runF Γ md fr N dice s n ds δ) Q X := by
  unfold runF
  cases e : exS Γ md fr n s ((if dice then [none] else []) ++ ds.map some ++ List.replicate (N - ds.length - (if dice then 1 else 0)) none) δ with
  | nx ρ' δ' => rw [e] at h; obtain ⟨rfl, h⟩ := h; exact h
  | ct ρ' δ' => rw [e] at h; exact h.elim
  | rt d δ' => rw [e] at h; exact h
  | ex x δ' => rw [e] at h; exact h
  | stk => rw [e] at h; exact h.elim
theorem compL_map {fb : D → En → Option En} {fc fe : En → Dice → Res D} {ρ : En} (g : D → Bool) (f : D → D) : ∀ (ds : List D) (δ : Dice),
    (∀ d ∈ ds, ∃ ρ', fb d ρ = some ρ' ∧ fc ρ' δ = .ok (.bl (g d)) δ ∧ (g d = true → fe ρ' δ = .ok (f d) δ)) → compL fb fc fe ρ ds δ = .ok ((ds.filter g).map f) δ
  | [], δ, _ => rfl
  | d :: r, δ, h => by
    obtain ⟨ρ', e1, e2, e3⟩ := h d (List.mem_cons_self ..)
    have ih := compL_map g f r δ fun x hx => h x (List.mem_cons_of_mem _ hx)
    simp only [compL, e1, e2]
    cases hg : g d with
    | true => simp only [hg, e3 hg, Res.bind, ih, List.filter_cons_of_pos, List.map_cons]
    | false => simp [hg, ih]
theorem compL_dice {fb : D → En → Option En} {fc fe : En → Dice → Res D} {ρ : En} (A : D → D → Prop) : ∀ (ds : List D) (δ : Dice) (Q : List D → Dice → Prop),
    (∀ d ∈ ds, ∀ δ, ∃ ρ', fb d ρ = some ρ' ∧ fc ρ' δ = .ok (.bl true) δ ∧ We (fe ρ' δ) (fun x _ => A d x) (fun _ _ => False)) →
    (∀ xs δ', xs.length = ds.length → (∀ (i : Nat) d x, ds[i]? = some d → xs[i]? = some x → A d x) → Q xs δ') → Wl (compL fb fc fe ρ ds δ) Q
  | [], δ, Q, _, q => q [] δ rfl (fun i d x e => by simp at e)
  | d :: r, δ, Q, h, q => by
    obtain ⟨ρ', e1, e2, e3⟩ := h d (List.mem_cons_self ..) δ
    simp only [compL, e1, e2]
    cases e4 : fe ρ' δ with
    | ok x δ2 =>
      rw [e4] at e3
      simp only [Res.bind]
      have := compL_dice A r δ2 (fun xs δ3 => Q (x :: xs) δ3) (fun x hx => h x (List.mem_cons_of_mem _ hx)) (fun xs δ3 hl ha => q (x :: xs) δ3 (by simp [hl]) fun i d' x' f1 f2 => by
        cases i with
        | zero => cases f1; cases f2; exact e3
        | succ i => exact ha i d' x' (by simpa using f1) (by simpa using f2))
      cases e5 : compL fb fc fe ρ r δ2 with
      | ok xs δ3 => rw [e5] at this; exact this
      | exc _ _ => rw [e5] at this; exact this.elim
      | stk => rw [e5] at this; exact this.elim
    | exc _ _ => rw [e4] at e3; exact e3.elim
    | stk => rw [e4] at e3; exact e3.elim
end DC
set_option Elab.async false
set_option linter.all false
set_option maxRecDepth 100000
set_option maxHeartbeats 2000000
namespace DC
open PySem PySem.Spec L2
def Wb (d : D) (A B : Prop) : Prop := match d with
  | .bl true => A
  | .bl false => B
  | _ => False
@[simp] theorem Wb_bl (b : Bool) (A B : Prop) : Wb (.bl b) A B = (if b = true then A else B) := by cases b <;> simp [Wb]
def Wt (d : D) (Q : List D → Prop) : Prop := match d with
  | .tup ds => Q ds
  | _ => False
@[simp] theorem Wt_tup (ds : List D) (Q : List D → Prop) : Wt (.tup ds) Q = Q ds := propext Iff.rfl
def Wi (d : D) (Q : Int → Prop) : Prop := match d with
  | .int i => Q i
  | _ => False
@[simp] theorem Wi_int (i : Int) (Q : Int → Prop) : Wi (.int i) Q = Q i := propext Iff.rfl
@[simp] theorem Wo_some (d : D) (Q : D → Prop) : Wo (some d) Q = Q d := propext Iff.rfl
@[simp] theorem Wo_none (Q : D → Prop) : Wo none Q = False := propext Iff.rfl
@[simp] theorem Wo_ite (c : Prop) [Decidable c] (a b : Option D) (Q : D → Prop) : Wo (if c then a else b) Q = (if c then Wo a Q else Wo b Q) := by split <;> rfl
def Wx (o : Option (List D)) (Q : List D → Prop) : Prop := match o with
  | some d => Q d
  | none => False
@[simp] theorem Wx_some (d : List D) (Q : List D → Prop) : Wx (some d) Q = Q d := propext Iff.rfl
@[simp] theorem Wx_none (Q : List D → Prop) : Wx none Q = False := propext Iff.rfl
def Wn (o : Option En) (Q : En → Prop) : Prop := match o with
  | some d => Q d
  | none => False
@[simp] theorem Wn_some (d : En) (Q : En → Prop) : Wn (some d) Q = Q d := propext Iff.rfl
@[simp] theorem Wn_none (Q : En → Prop) : Wn none Q = False := propext Iff.rfl
def Wv (o : Option (Option D)) (Q : D → Prop) : Prop := match o with
  | some (some d) => Q d
  | _ => False
@[simp] theorem Wv_some (d : D) (Q : D → Prop) : Wv (some (some d)) Q = Q d := propext Iff.rfl
def Wf (o : Option Fs) (dc : Bool) (Q : Fs → Prop) : Prop := match o with
  | some fs => fs.dice = dc ∧ Q fs
  | none => False
@[simp] theorem Wf_some (fs : Fs) (dc : Bool) (Q : Fs → Prop) : Wf (some fs) dc Q = (fs.dice = dc ∧ Q fs) := propext Iff.rfl
def Wy (o : Option Way) (Q : Way → Prop) : Prop := match o with
  | some w => Q w
  | none => False
@[simp] theorem Wy_some (w : Way) (Q : Way → Prop) : Wy (some w) Q = Q w := propext Iff.rfl
@[simp] theorem We_ok' (d : D) (δ : Dice) (Q : D → Dice → Prop) (X : Exc → Dice → Prop) : We (.ok d δ) Q X = Q d δ := propext Iff.rfl
@[simp] theorem We_exc' (x : Exc) (δ : Dice) (Q : D → Dice → Prop) (X : Exc → Dice → Prop) : We (.exc x δ) Q X = X x δ := propext Iff.rfl
@[simp] theorem We_stk' (Q : D → Dice → Prop) (X : Exc → Dice → Prop) : We .stk Q X = False := propext Iff.rfl
@[simp] theorem We_ite (c : Prop) [Decidable c] (a b : Res D) (Q : D → Dice → Prop) (X : Exc → Dice → Prop) : We (if c then a else b) Q X = (if c then We a Q X else We b Q X) := by split <;> rfl
@[simp] theorem Wl_ok (xs : List D) (δ : Dice) (Q : List D → Dice → Prop) : Wl (.ok xs δ) Q = Q xs δ := propext Iff.rfl
section
variable (Γ : Glo) (ρ : En) (δ : Dice) (Q : D → Dice → Prop) (X : Exc → Dice → Prop)
theorem We_congr {r : Res D} {Q Q' : D → Dice → Prop} {X : Exc → Dice → Prop} (h : ∀ d δ, Q d δ = Q' d δ) : We r Q X = We r Q' X := by cases r <;> simp [We, h]
@[simp] theorem w_var (i : Nat) : We (ev Γ (.var i) ρ δ) Q X = Wv ρ[i]? fun d => Q d δ := by
  simp only [ev]
  cases ρ[i]? with
  | none => rfl
  | some o => cases o <;> rfl
@[simp] theorem w_cst (d : D) : We (ev Γ (.cst d) ρ δ) Q X = Q d δ := propext Iff.rfl
@[simp] theorem w_glb (x : Str) : We (ev Γ (.glb x) ρ δ) Q X = Wo (Γ.cs x) fun d => Q d δ := by
  simp only [ev]; cases Γ.cs x <;> rfl
@[simp] theorem w_dget (i : Nat) : We (ev Γ (.dget i) ρ δ) Q X = Q (.int (if i = 0 then δ.1 else δ.2.1)) δ := propext Iff.rfl
@[simp] theorem w_nil : We (ev Γ .nil ρ δ) Q X = Q (.tup []) δ := propext Iff.rfl
@[simp] theorem w_cons (a r : Ex) : We (ev Γ (.cons a r) ρ δ) Q X = We (ev Γ a ρ δ) (fun d δ1 => We (ev Γ r ρ δ1) (fun v δ2 => Wt v fun ds => Q (.tup (d :: ds)) δ2) X) X := by
  simp only [ev]
  rw [We_bind]
  refine We_congr fun d δ1 => ?_
  rw [We_bind]
  exact We_congr fun v δ2 => by cases v <;> rfl
@[simp] theorem w_op (o : Op) (args : Ex) : We (ev Γ (.op o args) ρ δ) Q X = We (ev Γ args ρ δ) (fun v δ1 => Wt v fun ds => Wo (opv o ds) fun d => Q d δ1) X := by
  simp only [ev]
  rw [We_bind]
  refine We_congr fun v δ1 => ?_
  cases v with
  | tup ds => simp only [Wt]; cases opv o ds <;> rfl
  | _ => rfl
@[simp] theorem w_and (a b : Ex) : We (ev Γ (.and a b) ρ δ) Q X = We (ev Γ a ρ δ) (fun d δ1 => Wb d (We (ev Γ b ρ δ1) Q X) (Q (.bl false) δ1)) X := by
  simp only [ev]
  rw [We_bind]
  refine We_congr fun v δ1 => ?_
  cases v with
  | bl b => cases b <;> rfl
  | _ => rfl
@[simp] theorem w_or (a b : Ex) : We (ev Γ (.or a b) ρ δ) Q X = We (ev Γ a ρ δ) (fun d δ1 => Wb d (Q (.bl true) δ1) (We (ev Γ b ρ δ1) Q X)) X := by
  simp only [ev]
  rw [We_bind]
  refine We_congr fun v δ1 => ?_
  cases v with
  | bl b => cases b <;> rfl
  | _ => rfl
@[simp] theorem w_not (a : Ex) : We (ev Γ (.not a) ρ δ) Q X = We (ev Γ a ρ δ) (fun d δ1 => Wb d (Q (.bl false) δ1) (Q (.bl true) δ1)) X := by
  simp only [ev]
  rw [We_bind]
  refine We_congr fun v δ1 => ?_
  cases v with
  | bl b => cases b <;> rfl
  | _ => rfl
@[simp] theorem w_ife (t a b : Ex) : We (ev Γ (.ife t a b) ρ δ) Q X = We (ev Γ t ρ δ) (fun d δ1 => Wb d (We (ev Γ a ρ δ1) Q X) (We (ev Γ b ρ δ1) Q X)) X := by
  simp only [ev]
  rw [We_bind]
  refine We_congr fun v δ1 => ?_
  cases v with
  | bl b => cases b <;> rfl
  | _ => rfl
@[simp] theorem w_chn (o p : Op) (a b c : Ex) : We (ev Γ (.chn o p a b c) ρ δ) Q X = We (ev Γ a ρ δ) (fun x δ1 => We (ev Γ b ρ δ1) (fun y δ2 => Wo (opv o [x, y]) fun d => Wb d
      (We (ev Γ c ρ δ2) (fun z δ3 => Wo (opv p [y, z]) fun d => Wb d (Q (.bl true) δ3) (Q (.bl false) δ3)) X) (Q (.bl false) δ2)) X) X := by
  simp only [ev]
  rw [We_bind]
  refine We_congr fun x δ1 => ?_
  rw [We_bind]
  refine We_congr fun y δ2 => ?_
  cases opv o [x, y] with
  | none => rfl
  | some d =>
    cases d with
    | bl k =>
      cases k with
      | true =>
        simp only [Wo_some, Wb]
        rw [We_bind]
        refine We_congr fun z δ3 => ?_
        cases opv p [y, z] with
        | none => rfl
        | some d2 =>
          cases d2 with
          | bl k => cases k <;> rfl
          | _ => rfl
      | false => rfl
    | _ => rfl
@[simp] theorem w_comp (own : List Nat) (p : Pat) (it cond elt : Ex) : We (ev Γ (.comp own p it cond elt) ρ δ) Q X = We (ev Γ it ρ δ) (fun d δ1 => Wx d.items fun ds => Wl (compL (bindP p) (ev Γ cond) (ev Γ elt) (wipeE ρ own) ds δ1) fun xs δ2 => Q (.lst xs) δ2) X := by
  simp only [ev]
  rw [We_bind]
  refine We_congr fun d δ1 => ?_
  cases d.items with
  | none => rfl
  | some ds =>
    simp only [Wx_some]
    cases compL (bindP p) (ev Γ cond) (ev Γ elt) (wipeE ρ own) ds δ1 <;> rfl
@[simp] theorem w_tget (a b : Ex) : We (ev Γ (.tget a b) ρ δ) Q X = We (ev Γ a ρ δ) (fun x δ1 => We (ev Γ b ρ δ1) (fun y δ2 => Wi x fun i => Wi y fun j => δ2.2.2.length = δ1.2.2.length ∧ Wo ((tabG δ2.2.2 i j).map D.int) fun d => Q d δ2) X) X := by
  simp only [ev]
  rw [We_bind]
  refine We_congr fun x δ1 => ?_
  rw [We_bind]
  refine We_congr fun y δ2 => ?_
  cases x with
  | int i =>
    cases y with
    | int j =>
      simp only [Wi_int]
      by_cases h : δ2.2.2.length = δ1.2.2.length
      · simp only [h, if_true, true_and]
        cases tabG δ2.2.2 i j <;> rfl
      · simp [h]
    | _ => rfl
  | _ => rfl
@[simp] theorem w_told (x : Ex) : We (ev Γ (.told x) ρ δ) Q X = We (ev Γ x ρ δ) Q (fun y δ' => Wo (refD y) fun d => Q d δ') := by
  simp only [ev]
  cases ev Γ x ρ δ with
  | ok d δ' => rfl
  | exc y δ' => simp only [We_exc']; cases refD y <;> rfl
  | stk => rfl
@[simp] theorem w_call (f : Str) (pt : Nat) (args kws : Ex) : We (ev Γ (.call f false pt args kws) ρ δ) Q X = Wf (Γ.fn f) false fun fs =>
    We (ev Γ args ρ δ) (fun v δ1 => We (ev Γ kws ρ δ1) (fun u δ2 => Wt v fun ds => Wt u fun es => Wy fs.pats[pt]? fun w => Wx (arrG w.2.2 (ds ++ es)) fun gs => We (fs.sem gs (0, 0, [])) (fun d _ => Q d δ2) (fun x _ => X x δ2)) X) X := by
  simp only [ev]
  cases hf : Γ.fn f with
  | none => rfl
  | some fs =>
    simp only [Wf_some]
    by_cases hd : fs.dice = false
    · simp only [hd, if_true, true_and]
      rw [We_bind]
      refine We_congr fun v δ1 => ?_
      rw [We_bind]
      refine We_congr fun u δ2 => ?_
      cases v with
      | tup ds =>
        cases u with
        | tup es =>
          simp only [Wt_tup]
          cases hw : fs.pats[pt]? with
          | none => rfl
          | some w =>
            simp only [Option.bind_some, Wy_some]
            cases arrG w.2.2 (ds ++ es) with
            | none => rfl
            | some gs =>
              simp only [Wx_some]
              cases fs.sem gs (0, 0, []) <;> rfl
        | _ => rfl
      | _ => rfl
    · simp [hd]
@[simp] theorem w_calld (f : Str) (pt : Nat) (args kws : Ex) : We (ev Γ (.call f true pt args kws) ρ δ) Q X = Wf (Γ.fn f) true fun fs =>
    We (ev Γ args ρ δ) (fun v δ1 => We (ev Γ kws ρ δ1) (fun u δ2 => Wt v fun ds => Wt u fun es => Wy fs.pats[pt]? fun w => Wx (arrG w.2.2 (ds ++ es)) fun gs => We (fs.sem gs δ2) Q X) X) X := by
  simp only [ev]
  cases hf : Γ.fn f with
  | none => rfl
  | some fs =>
    simp only [Wf_some]
    by_cases hd : fs.dice = true
    · simp only [hd, if_true, true_and]
      rw [We_bind]
      refine We_congr fun v δ1 => ?_
      rw [We_bind]
      refine We_congr fun u δ2 => ?_
      cases v with
      | tup ds =>
        cases u with
        | tup es =>
          simp only [Wt_tup]
          cases hw : fs.pats[pt]? with
          | none => rfl
          | some w =>
            simp only [Option.bind_some, Wy_some]
            cases arrG w.2.2 (ds ++ es) <;> rfl
        | _ => rfl
      | _ => rfl
    · simp [hd]
end
section
variable (Γ : Glo) (md : List Bool) (fr : Bool) (n : Nat) (ρ : En) (δ : Dice) (P : Post)
theorem wp_out (r : Res D) (f : D → Dice → Out) : Wp (r.out f) P = We r (fun d δ1 => Wp (f d δ1) P) P.ex := by cases r <;> rfl
@[simp] theorem wp_skip : Wp (exS Γ md fr n .skip ρ δ) P = P.nx ρ δ := propext Iff.rfl
@[simp] theorem wp_seq (a b : Sm) : Wp (exS Γ md fr n (.seq a b) ρ δ) P = Wp (exS Γ md fr n a ρ δ) ⟨fun ρ' δ' => Wp (exS Γ md fr n b ρ' δ') P, P.ct, P.rt, P.ex⟩ := by
  simp only [exS]
  cases exS Γ md fr n a ρ δ <;> rfl
@[simp] theorem wp_asg (i : Nat) (x : Ex) : Wp (exS Γ md fr n (.asg i x) ρ δ) P = We (ev Γ x ρ δ) (fun d δ1 => Wn (putS Γ md i x d ρ) fun ρ' => P.nx ρ' δ1) P.ex := by
  simp only [exS, wp_out]
  refine We_congr fun d δ1 => ?_
  cases putS Γ md i x d ρ <;> rfl
@[simp] theorem wp_unp (p : Pat) (x : Ex) : Wp (exS Γ md fr n (.unp p x) ρ δ) P = We (ev Γ x ρ δ) (fun d δ1 => (cln md x || d.flat) = true ∧ Wn (bindP p d ρ) fun ρ' => P.nx ρ' δ1) P.ex := by
  simp only [exS, wp_out]
  refine We_congr fun d δ1 => ?_
  by_cases h : (cln md x || d.flat) = true
  · simp only [h, if_true, true_and]; cases bindP p d ρ <;> rfl
  · simp [h, Wp]
@[simp] theorem wp_par (is : List Nat) (x : Ex) : Wp (exS Γ md fr n (.par is x) ρ δ) P = We (ev Γ x ρ δ) (fun d δ1 => Wt d fun ds => Wn (putP Γ md is x ds ρ) fun ρ' => P.nx ρ' δ1) P.ex := by
  simp only [exS, wp_out]
  refine We_congr fun d δ1 => ?_
  cases d with
  | tup ds => simp only [Wt_tup]; cases putP Γ md is x ds ρ <;> rfl
  | _ => rfl
def Wq (o : Option (Option D)) (Q : List D → Prop) : Prop := match o with
  | some (some (.lst ds)) => Q ds
  | _ => False
@[simp] theorem Wq_some (ds : List D) (Q : List D → Prop) : Wq (some (some (.lst ds))) Q = Q ds := propext Iff.rfl
@[simp] theorem wp_app (i : Nat) (x : Ex) : Wp (exS Γ md fr n (.app i x) ρ δ) P = (md.getD i false = true ∧ Wq ρ[i]? fun ds => We (ev Γ x ρ δ) (fun d δ1 => (cln md x || d.flat) = true ∧ ds.length < 16777216 ∧ P.nx (ρ.set i (some (.lst (ds ++ [d])))) δ1) P.ex) := by
  simp only [exS]
  cases hm : md.getD i false with
  | false => simp [Wp]
  | true =>
    simp only [true_and]
    rcases hρ : ρ[i]? with _ | _ | d
    · rfl
    · rfl
    · cases d with
      | lst ds =>
        simp only [Wq_some, wp_out]
        refine We_congr fun d δ1 => ?_
        by_cases h : (cln md x || d.flat) = true <;> by_cases h2 : ds.length < 16777216 <;> simp [h, h2, Wp]
      | _ => rfl
def Wz (o : Option Nat) (Q : Nat → Prop) : Prop := match o with
  | some n => Q n
  | none => False
@[simp] theorem Wz_some (n : Nat) (Q : Nat → Prop) : Wz (some n) Q = Q n := propext Iff.rfl
@[simp] theorem wp_lset (i : Nat) (k x : Ex) : Wp (exS Γ md fr n (.lset i k x) ρ δ) P = We (ev Γ x ρ δ) (fun d δ1 => We (ev Γ k ρ δ1) (fun kk δ2 => md.getD i false = true ∧ Wq ρ[i]? fun ds => Wi kk fun j => Wz (ixN ds.length j) fun m => (cln md x || d.flat) = true ∧ P.nx (ρ.set i (some (.lst (ds.set m d)))) δ2) P.ex) P.ex := by
  simp only [exS, wp_out]
  refine We_congr fun d δ1 => ?_
  refine We_congr fun kk δ2 => ?_
  cases hm : md.getD i false with
  | false => simp [Wp]
  | true =>
    simp only [true_and]
    rcases hρ : ρ[i]? with _ | _ | e
    · rfl
    · rfl
    · cases e with
      | lst ds =>
        cases kk with
        | int j =>
          simp only [Wq_some, Wi_int]
          cases ixN ds.length j with
          | none => rfl
          | some m => simp only [Wz_some]; by_cases h : (cln md x || d.flat) = true <;> simp [h, Wp]
        | _ => rfl
      | _ => cases kk <;> rfl
def Wm (o : Option (List (List Int))) (Q : List (List Int) → Prop) : Prop := match o with
  | some n => Q n
  | none => False
@[simp] theorem Wm_some (n : List (List Int)) (Q : List (List Int) → Prop) : Wm (some n) Q = Q n := propext Iff.rfl
@[simp] theorem wp_tset (a b x : Ex) : Wp (exS Γ md fr n (.tset a b x) ρ δ) P = We (ev Γ x ρ δ) (fun d δ1 => We (ev Γ a ρ δ1) (fun i δ2 => We (ev Γ b ρ δ2) (fun j δ3 => Wi d fun v => Wi i fun i => Wi j fun j => δ3.2.2.length = δ2.2.2.length ∧ Wm (tabS δ3.2.2 i j v) fun t => P.nx ρ (δ3.1, δ3.2.1, t)) P.ex) P.ex) P.ex := by
  simp only [exS, wp_out]
  refine We_congr fun d δ1 => ?_
  refine We_congr fun i δ2 => ?_
  refine We_congr fun j δ3 => ?_
  cases d with
  | int v =>
    cases i with
    | int i =>
      cases j with
      | int j =>
        simp only [Wi_int]
        by_cases h : δ3.2.2.length = δ2.2.2.length
        · simp only [h, if_true, true_and]; cases tabS δ3.2.2 i j v <;> rfl
        · simp [h, Wp]
      | _ => rfl
    | _ => rfl
  | _ => rfl
@[simp] theorem wp_iff (t : Ex) (a b : Sm) : Wp (exS Γ md fr n (.iff t a b) ρ δ) P = We (ev Γ t ρ δ) (fun d δ1 => Wb d (Wp (exS Γ md fr n a ρ δ1) P) (Wp (exS Γ md fr n b ρ δ1) P)) P.ex := by
  simp only [exS, wp_out]
  refine We_congr fun d δ1 => ?_
  cases d with
  | bl k => cases k <;> rfl
  | _ => rfl
@[simp] theorem wp_ret (x : Ex) : Wp (exS Γ md fr n (.ret x) ρ δ) P = (retOk Γ md fr x = true ∧ We (ev Γ x ρ δ) P.rt P.ex) := by
  simp only [exS]
  by_cases h : retOk Γ md fr x = true
  · simp only [h, if_true, true_and, wp_out]; rfl
  · simp [h, Wp]
@[simp] theorem wp_retN : Wp (exS Γ md fr n .retN ρ δ) P = (fr = false ∧ P.rt .non δ) := by
  simp only [exS]
  cases fr <;> simp [Wp]
@[simp] theorem wp_rai (c : Str) : Wp (exS Γ md fr n (.rai c) ρ δ) P = P.ex ⟨c, none⟩ δ := propext Iff.rfl
@[simp] theorem wp_cont : Wp (exS Γ md fr n .cont ρ δ) P = P.ct ρ δ := propext Iff.rfl
@[simp] theorem wp_exp (x : Ex) : Wp (exS Γ md fr n (.exp x) ρ δ) P = We (ev Γ x ρ δ) (fun _ δ1 => P.nx ρ δ1) P.ex := by
  simp only [exS, wp_out]; rfl
@[simp] theorem wp_dset (i : Nat) (x : Ex) : Wp (exS Γ md fr n (.dset i x) ρ δ) P = We (ev Γ x ρ δ) (fun d δ1 => Wi d fun v => P.nx ρ (if i = 0 then (v, δ1.2) else (δ1.1, v, δ1.2.2))) P.ex := by
  simp only [exS, wp_out]
  refine We_congr fun d δ1 => ?_
  cases d <;> rfl
@[simp] theorem Pr_nx (r : D → Dice → Prop) (x : Exc → Dice → Prop) (fr : Bool) : (Pr r x fr).nx = fun _ δ => fr = false ∧ r .non δ := rfl
@[simp] theorem Pr_ct (r : D → Dice → Prop) (x : Exc → Dice → Prop) (fr : Bool) : (Pr r x fr).ct = fun _ _ => False := rfl
@[simp] theorem Pr_rt (r : D → Dice → Prop) (x : Exc → Dice → Prop) (fr : Bool) : (Pr r x fr).rt = r := rfl
@[simp] theorem Pr_ex (r : D → Dice → Prop) (x : Exc → Dice → Prop) (fr : Bool) : (Pr r x fr).ex = x := rfl
end
end DC
set_option Elab.async false
set_option linter.all false
set_option maxRecDepth 100000
set_option maxHeartbeats 400000
namespace DC
open PySem PySem.Spec L2
@[simp] theorem o_add (a b : D) : opv .add [a, b] = dAdd a b := id rfl
@[simp] theorem o_sub (a b : Int) : opv .sub [.int a, .int b] = some (.int (a - b)) := id rfl
@[simp] theorem o_mul (a b : D) : opv .mul [a, b] = dMul a b := id rfl
@[simp] theorem o_pow (a b : Int) : opv .pow [.int a, .int b] = if 0 ≤ b ∧ b ≤ 1000000 ∧ a.natAbs < 18446744073709551616 then some (.int (a ^ b.toNat)) else none := id rfl
@[simp] theorem o_fdiv (a b : Int) : opv .fdiv [.int a, .int b] = if 0 < b ∧ b.natAbs.log2 < 9000 then some (.int (a / b)) else none := id rfl
@[simp] theorem o_mod (a b : Int) : opv .mod [.int a, .int b] = if 0 < b then some (.int (a % b)) else none := id rfl
@[simp] theorem o_neg (a : Int) : opv .neg [.int a] = some (.int (-a)) := id rfl
theorem o_eq (a b : D) : opv .eq [a, b] = if a.shp && b.shp then some (.bl (a.eqv b)) else dEqS a b := rfl
theorem o_ne (a b : D) : opv .ne [a, b] = if a.shp && b.shp then some (.bl (!a.eqv b)) else none := rfl
@[simp] theorem o_lt (a b : D) : opv .lt [a, b] = (dLt a b).map .bl := id rfl
@[simp] theorem o_gt (a b : D) : opv .gt [a, b] = (dLt b a).map .bl := id rfl
@[simp] theorem o_le (a b : D) : opv .le [a, b] = (dLt b a).map fun x => .bl (!x) := id rfl
@[simp] theorem o_ge (a b : D) : opv .ge [a, b] = (dLt a b).map fun x => .bl (!x) := id rfl
@[simp] theorem o_isn (a : D) : opv .isn [a, .non] = some (.bl a.isNon) := id rfl
@[simp] theorem o_notn (a : D) : opv .notn [a, .non] = some (.bl (!a.isNon)) := id rfl
@[simp] theorem o_isin (a b : D) : opv .isin [a, b] = (dIn a b).map .bl := id rfl
@[simp] theorem o_notin (a b : D) : opv .notin [a, b] = (dIn a b).map fun x => .bl (!x) := id rfl
@[simp] theorem o_idx (a b : D) : opv .idx [a, b] = dIdx a b := id rfl
@[simp] theorem o_slc0 (a : D) : opv (.slc false false) [a] = dSlc a none none := id rfl
@[simp] theorem o_slc1 (a : D) (i : Int) : opv (.slc true false) [a, .int i] = dSlc a (some i) none := id rfl
@[simp] theorem o_slc2 (a : D) (j : Int) : opv (.slc false true) [a, .int j] = dSlc a none (some j) := id rfl
@[simp] theorem o_slc3 (a : D) (i j : Int) : opv (.slc true true) [a, .int i, .int j] = dSlc a (some i) (some j) := id rfl
@[simp] theorem o_len (a : D) : opv .len [a] = (dLen a).map fun (n : Nat) => .int (n : Int) := id rfl
theorem o_tupd (ds : List D) : opv .tupd ds = if ds.length ≤ 16777216 then some (.tup ds) else none := rfl
theorem o_lstd (ds : List D) : opv .lstd ds = if ds.length ≤ 16777216 then some (.lst ds) else none := rfl
@[simp] theorem o_tupd0 : opv .tupd [] = some (.tup []) := id rfl
@[simp] theorem o_tupd1 (a : D) : opv .tupd [a] = some (.tup [a]) := id rfl
@[simp] theorem o_tupd2 (a b : D) : opv .tupd [a, b] = some (.tup [a, b]) := id rfl
@[simp] theorem o_tupd3 (a b c : D) : opv .tupd [a, b, c] = some (.tup [a, b, c]) := id rfl
@[simp] theorem o_tupd4 (a b c d : D) : opv .tupd [a, b, c, d] = some (.tup [a, b, c, d]) := id rfl
@[simp] theorem o_lstd0 : opv .lstd [] = some (.lst []) := id rfl
@[simp] theorem o_lstd1 (a : D) : opv .lstd [a] = some (.lst [a]) := id rfl
@[simp] theorem o_lstd2 (a b : D) : opv .lstd [a, b] = some (.lst [a, b]) := id rfl
@[simp] theorem o_list1 (a : List D) : opv .list [.lst a] = some (.lst a) := id rfl
@[simp] theorem o_list2 (a : List D) : opv .list [.tup a] = some (.lst a) := id rfl
@[simp] theorem o_tuple1 (a : List D) : opv .tuple [.lst a] = some (.tup a) := id rfl
@[simp] theorem o_tuple2 (a : List D) : opv .tuple [.tup a] = some (.tup a) := id rfl
@[simp] theorem o_all (a : List D) : opv .all [.lst a] = (blsOf a).map fun bs => .bl (bs.all id) := id rfl
@[simp] theorem o_any (a : List D) : opv .any [.lst a] = (blsOf a).map fun bs => .bl (bs.any id) := id rfl
@[simp] theorem o_sum (a : List D) : opv .sum [.lst a] = (intsOf a).map fun bs => .int bs.sum := id rfl
@[simp] theorem o_max2 (a b : Int) : opv .max2 [.int a, .int b] = some (.int (if b > a then b else a)) := id rfl
@[simp] theorem o_min2 (a b : Int) : opv .min2 [.int a, .int b] = some (.int (if b < a then b else a)) := id rfl
@[simp] theorem o_abs (a : Int) : opv .abs [.int a] = some (.int (if a < 0 then -a else a)) := id rfl
@[simp] theorem o_int1 (a : Int) : opv .int [.int a] = some (.int a) := id rfl
@[simp] theorem o_int2 (a : Bool) : opv .int [.bl a] = some (.int (if a then 1 else 0)) := id rfl
@[simp] theorem o_join (y : List Nat) (a : List D) : opv .join [.str y, .lst a] = (strsOf a).bind fun ss => if (ss.map List.length).sum + ss.length * y.length ≤ 16777216 then some (.str (TL.joinL y ss)) else none := id rfl
@[simp] theorem o_split (a : List Nat) (c : Nat) (r : List Nat) : opv .split [.str a, .str (c :: r)] = if a.length + 2 ≤ 16777216 then some (.lst ((TL.spl (c :: r) 0 [] a).map .str)) else none := id rfl
@[simp] theorem o_upper (a : List Nat) : opv .upper [.str a] = if a.length ≤ 5592405 then some (.str (a.map upC)) else none := id rfl
@[simp] theorem o_strip (a b : List Nat) : opv .strip [.str a, .str b] = some (.str (stripL b a)) := id rfl
@[simp] theorem o_count (a : List Nat) (c : Nat) (r : List Nat) : opv .count [.str a, .str (c :: r)] = some (.int ((TL.spl (c :: r) 0 [] a).length - 1)) := id rfl
@[simp] theorem o_rng (n : Nat) (ds : List D) : opv (.rng n) ds = dRng n ds := id rfl
@[simp] theorem o_rng1 (n : Int) : dRng 1 [.int n] = if small n then some (.lst (rngL 0 n.toNat)) else none := id rfl
@[simp] theorem o_rng2 (a b : Int) : dRng 2 [.int a, .int b] = if small a && small b && decide (b - a ≤ 16777216) then some (.lst (rngL a (b - a).toNat)) else none := id rfl
@[simp] theorem o_rng3 (a b s : Int) : dRng 3 [.int a, .int b, .int s] = if small a && small b && decide (a - b ≤ 16777216) && decide (s = -1) then some (.lst (stpL a (-1) (a - b).toNat)) else none := id rfl
@[simp] theorem o_enm (a : List D) : opv .enm [.lst a] = some (.lst (enmL 0 a)) := id rfl
@[simp] theorem o_enmT (a : List D) : opv .enm [.tup a] = some (.lst (enmL 0 a)) := id rfl
@[simp] theorem o_enmS (s : List Nat) : opv .enm [.str s] = some (.lst (enmL 0 (s.map fun c => .str [c]))) := id rfl
@[simp] theorem o_zip (a b : List D) : opv .zip [.lst a, .lst b] = some (.lst (zipL a b)) := id rfl
@[simp] theorem o_zipT (a b : List D) : opv .zip [.tup a, .tup b] = some (.lst (zipL a b)) := id rfl
@[simp] theorem o_rev (a : List D) : opv .rev [.lst a] = some (.lst a.reverse) := id rfl
@[simp] theorem o_lower (a : List Nat) : opv .lower [.str a] = if a.length ≤ 5592405 then some (.str (a.map lowC)) else none := id rfl
theorem o_minl (x : D) (xs : List D) : opv .minl [.lst (x :: xs)] = if alk (x :: xs) then some (minF x xs) else none := rfl
theorem o_maxl (x : D) (xs : List D) : opv .maxl [.lst (x :: xs)] = if alk (x :: xs) then some (maxF x xs) else none := rfl
@[simp] theorem o_mind0 (d : D) : opv .mind [.lst [], d] = some d := id rfl
@[simp] theorem o_maxd0 (d : D) : opv .maxd [.lst [], d] = some d := id rfl
theorem o_mind (x d : D) (xs : List D) : opv .mind [.lst (x :: xs), d] = if alk (x :: xs) then some (minF x xs) else none := rfl
theorem o_maxd (x d : D) (xs : List D) : opv .maxd [.lst (x :: xs), d] = if alk (x :: xs) then some (maxF x xs) else none := rfl
@[simp] theorem o_lcount (a : List D) (x : D) : opv .lcount [.lst a, x] = if x.scl && a.all D.scl then some (.int ((a.countP fun y => y.eqv x : Nat) : Int)) else none := id rfl
@[simp] theorem o_index (a : List D) (x : D) : opv .index [.lst a, x] = if x.scl && a.all D.scl then (a.findIdx? fun y => y.eqv x).map fun (n : Nat) => .int (n : Int) else none := id rfl
@[simp] theorem o_revs (a : List D) : opv .revs [.lst a] = some (.lst a.reverse) := id rfl
@[simp] theorem add_int (a b : Int) : dAdd (.int a) (.int b) = some (.int (a + b)) := id rfl
@[simp] theorem add_str (a b : List Nat) : dAdd (.str a) (.str b) = if a.length + b.length ≤ 16777216 then some (.str (a ++ b)) else none := id rfl
@[simp] theorem add_lst (a b : List D) : dAdd (.lst a) (.lst b) = if a.length + b.length ≤ 16777216 then some (.lst (a ++ b)) else none := id rfl
@[simp] theorem add_tup (a b : List D) : dAdd (.tup a) (.tup b) = if a.length + b.length ≤ 16777216 then some (.tup (a ++ b)) else none := id rfl
theorem mul_int (a b : Int) : dMul (.int a) (.int b) = if decide (a.natAbs < 18446744073709551616) || decide (b.natAbs < 18446744073709551616) || decide (a.natAbs.log2 + b.natAbs.log2 < 1000000) then some (.int (a * b)) else none := rfl
@[simp] theorem mul_lst (a : List D) (k : Int) : dMul (.lst a) (.int k) = if a.length * k.toNat ≤ 16777216 ∧ k.natAbs < 9223372036854775808 then some (.lst (List.replicate k.toNat a).flatten) else none := id rfl
@[simp] theorem idx_lst (a : List D) (i : Int) : dIdx (.lst a) (.int i) = atI a i := id rfl
@[simp] theorem idx_tup (a : List D) (i : Int) : dIdx (.tup a) (.int i) = atI a i := id rfl
@[simp] theorem idx_str (a : List Nat) (i : Int) : dIdx (.str a) (.int i) = (atI a i).map fun c => .str [c] := id rfl
@[simp] theorem slc_lst (a : List D) (lo hi : Option Int) : dSlc (.lst a) lo hi = some (.lst (cutD a lo hi)) := id rfl
@[simp] theorem slc_str (a : List Nat) (lo hi : Option Int) : dSlc (.str a) lo hi = some (.str (cutD a lo hi)) := id rfl
@[simp] theorem slc_tup (a : List D) (lo hi : Option Int) : dSlc (.tup a) lo hi = some (.tup (cutD a lo hi)) := id rfl
@[simp] theorem lt_int (a b : Int) : dLt (.int a) (.int b) = some (decide (a < b)) := id rfl
@[simp] theorem lt_str1 (a b : Nat) : dLt (.str [a]) (.str [b]) = some (decide (a < b)) := by
  simp only [dLt]
  congr 1
  simp [List.cons_lt_cons_iff]
@[simp] theorem len_lst (a : List D) : dLen (.lst a) = some a.length := id rfl
@[simp] theorem len_tup (a : List D) : dLen (.tup a) = some a.length := id rfl
@[simp] theorem len_str (a : List Nat) : dLen (.str a) = some a.length := id rfl
@[simp] theorem items_lst (a : List D) : (D.lst a).items = some a := id rfl
@[simp] theorem items_tup (a : List D) : (D.tup a).items = some a := id rfl
@[simp] theorem items_str (a : List Nat) : (D.str a).items = some (a.map fun c => .str [c]) := id rfl
@[simp] theorem non_non : D.isNon .non = true := id rfl
@[simp] theorem non_int (i : Int) : D.isNon (.int i) = false := id rfl
@[simp] theorem non_str (i : List Nat) : D.isNon (.str i) = false := id rfl
@[simp] theorem non_lst (i : List D) : D.isNon (.lst i) = false := id rfl
@[simp] theorem non_tup (i : List D) : D.isNon (.tup i) = false := id rfl
@[simp] theorem non_bl (i : Bool) : D.isNon (.bl i) = false := id rfl
@[simp] theorem isi_str (s : List Nat) : opv (.isi "str") [.str s] = some (.bl true) := id rfl
@[simp] theorem isi_str1 : opv (.isi "str") [.non] = some (.bl false) := id rfl
@[simp] theorem isi_str2 (b : Bool) : opv (.isi "str") [.bl b] = some (.bl false) := id rfl
@[simp] theorem isi_str3 (b : Int) : opv (.isi "str") [.int b] = some (.bl false) := id rfl
@[simp] theorem isi_str4 (b : List D) : opv (.isi "str") [.lst b] = some (.bl false) := id rfl
@[simp] theorem isi_str5 (b : List D) : opv (.isi "str") [.tup b] = some (.bl false) := id rfl
@[simp] theorem isi_str6 (k : List L2.Key) (b : List D) : opv (.isi "str") [.dic k b] = some (.bl false) := id rfl
@[simp] theorem isi_str7 (b : List Int) : opv (.isi "str") [.scr b] = some (.bl false) := id rfl
@[simp] theorem isi_lst (s : List Nat) : opv (.isi "list") [.str s] = some (.bl false) := id rfl
@[simp] theorem isi_lst1 : opv (.isi "list") [.non] = some (.bl false) := id rfl
@[simp] theorem isi_lst2 (b : Bool) : opv (.isi "list") [.bl b] = some (.bl false) := id rfl
@[simp] theorem isi_lst3 (b : Int) : opv (.isi "list") [.int b] = some (.bl false) := id rfl
@[simp] theorem isi_lst4 (b : List D) : opv (.isi "list") [.lst b] = some (.bl true) := id rfl
@[simp] theorem isi_lst5 (b : List D) : opv (.isi "list") [.tup b] = some (.bl false) := id rfl
@[simp] theorem isi_lst6 (k : List L2.Key) (b : List D) : opv (.isi "list") [.dic k b] = some (.bl false) := id rfl
@[simp] theorem isi_lst7 (b : List Int) : opv (.isi "list") [.scr b] = some (.bl true) := id rfl
@[simp] theorem isi_tup (s : List Nat) : opv (.isi "tuple") [.str s] = some (.bl false) := id rfl
@[simp] theorem isi_tup1 : opv (.isi "tuple") [.non] = some (.bl false) := id rfl
@[simp] theorem isi_tup2 (b : Bool) : opv (.isi "tuple") [.bl b] = some (.bl false) := id rfl
@[simp] theorem isi_tup3 (b : Int) : opv (.isi "tuple") [.int b] = some (.bl false) := id rfl
@[simp] theorem isi_tup4 (b : List D) : opv (.isi "tuple") [.lst b] = some (.bl false) := id rfl
@[simp] theorem isi_tup5 (b : List D) : opv (.isi "tuple") [.tup b] = some (.bl true) := id rfl
@[simp] theorem isi_tup6 (k : List L2.Key) (b : List D) : opv (.isi "tuple") [.dic k b] = some (.bl false) := id rfl
@[simp] theorem isi_tup7 (b : List Int) : opv (.isi "tuple") [.scr b] = some (.bl false) := id rfl
@[simp] theorem isi_int (s : List Nat) : opv (.isi "int") [.str s] = some (.bl false) := id rfl
@[simp] theorem isi_int1 : opv (.isi "int") [.non] = some (.bl false) := id rfl
@[simp] theorem isi_int2 (b : Bool) : opv (.isi "int") [.bl b] = some (.bl true) := id rfl
@[simp] theorem isi_int3 (b : Int) : opv (.isi "int") [.int b] = some (.bl true) := id rfl
@[simp] theorem isi_int4 (b : List D) : opv (.isi "int") [.lst b] = some (.bl false) := id rfl
@[simp] theorem isi_int5 (b : List D) : opv (.isi "int") [.tup b] = some (.bl false) := id rfl
@[simp] theorem isi_int6 (k : List L2.Key) (b : List D) : opv (.isi "int") [.dic k b] = some (.bl false) := id rfl
@[simp] theorem isi_int7 (b : List Int) : opv (.isi "int") [.scr b] = some (.bl false) := id rfl
@[simp] theorem isi_bool (s : List Nat) : opv (.isi "bool") [.str s] = some (.bl false) := id rfl
@[simp] theorem isi_bool1 : opv (.isi "bool") [.non] = some (.bl false) := id rfl
@[simp] theorem isi_bool2 (b : Bool) : opv (.isi "bool") [.bl b] = some (.bl true) := id rfl
@[simp] theorem isi_bool3 (b : Int) : opv (.isi "bool") [.int b] = some (.bl false) := id rfl
@[simp] theorem isi_bool4 (b : List D) : opv (.isi "bool") [.lst b] = some (.bl false) := id rfl
@[simp] theorem isi_bool5 (b : List D) : opv (.isi "bool") [.tup b] = some (.bl false) := id rfl
@[simp] theorem isi_bool6 (k : List L2.Key) (b : List D) : opv (.isi "bool") [.dic k b] = some (.bl false) := id rfl
@[simp] theorem isi_bool7 (b : List Int) : opv (.isi "bool") [.scr b] = some (.bl false) := id rfl
@[simp] theorem eq_int (a b : Int) : opv .eq [.int a, .int b] = some (.bl (a == b)) := id rfl
@[simp] theorem eq_str (a b : List Nat) : opv .eq [.str a, .str b] = some (.bl (a == b)) := id rfl
@[simp] theorem eq_bl (a b : Bool) : opv .eq [.bl a, .bl b] = some (.bl (a == b)) := id rfl
@[simp] theorem ne_int (a b : Int) : opv .ne [.int a, .int b] = some (.bl (!(a == b))) := id rfl
@[simp] theorem ne_str (a b : List Nat) : opv .ne [.str a, .str b] = some (.bl (!(a == b))) := id rfl
@[simp] theorem ne_bl (a b : Bool) : opv .ne [.bl a, .bl b] = some (.bl (!(a == b))) := id rfl
@[simp] theorem shp_int (i : Int) : (D.int i).shp = true := id rfl
@[simp] theorem shp_str (i : List Nat) : (D.str i).shp = true := id rfl
@[simp] theorem shp_bl (i : Bool) : (D.bl i).shp = true := id rfl
@[simp] theorem shp_non : D.non.shp = true := id rfl
@[simp] theorem scl_int (i : Int) : (D.int i).scl = true := id rfl
@[simp] theorem scl_str (i : List Nat) : (D.str i).scl = true := id rfl
@[simp] theorem eqv_int (a b : Int) : (D.int a).eqv (.int b) = (a == b) := id rfl
@[simp] theorem eqv_str (a b : List Nat) : (D.str a).eqv (.str b) = (a == b) := id rfl
@[simp] theorem eqv_lst (a b : List D) : (D.lst a).eqv (.lst b) = eqvs a b := id rfl
@[simp] theorem eqv_tup (a b : List D) : (D.tup a).eqv (.tup b) = eqvs a b := id rfl
@[simp] theorem eqvs_nil : eqvs [] [] = true := id rfl
@[simp] theorem eqvs_cons (a b : D) (x y : List D) : eqvs (a :: x) (b :: y) = (a.eqv b && eqvs x y) := id rfl
@[simp] theorem eqvs_nc (b : D) (y : List D) : eqvs [] (b :: y) = false := id rfl
@[simp] theorem eqvs_cn (b : D) (y : List D) : eqvs (b :: y) [] = false := id rfl
@[simp] theorem putS_f (Γ : Glo) (md : List Bool) (i : Nat) (x : Ex) (d : D) (ρ : En) : putS Γ md i x d ρ = if md.getD i false = true then (match frs Γ md x, d with | true, .lst _ => some (ρ.set i (some d)) | _, _ => none) else if (cln md x || d.flat) = true then some (ρ.set i (some d)) else none := id rfl
@[simp] theorem putP_nil (Γ : Glo) (md : List Bool) (ρ : En) : putP Γ md [] .nil [] ρ = some ρ := id rfl
@[simp] theorem putP_cons (Γ : Glo) (md : List Bool) (i : Nat) (is : List Nat) (x xs : Ex) (d : D) (ds : List D) (ρ : En) : putP Γ md (i :: is) (.cons x xs) (d :: ds) ρ = (match putS Γ md i x d ρ with | some ρ' => putP Γ md is xs ds ρ' | none => none) := id rfl
@[simp] theorem bindP_nm (i : Nat) (d : D) (ρ : En) : bindP (.nm i) d ρ = some (ρ.set i (some d)) := id rfl
@[simp] theorem bindP_nil (ρ : En) : bindP .nil (.tup []) ρ = some ρ := id rfl
@[simp] theorem bindP_cons (p r : Pat) (d : D) (ds : List D) (ρ : En) : bindP (.cons p r) (.tup (d :: ds)) ρ = (match bindP p d ρ with | some ρ' => bindP r (.tup ds) ρ' | none => none) := id rfl
@[simp] theorem wipeE_nil (ρ : En) : wipeE ρ [] = ρ := id rfl
@[simp] theorem wipeE_cons (ρ : En) (v : Nat) (vs : List Nat) : wipeE ρ (v :: vs) = (wipeE ρ vs).set v none := id rfl
@[simp] theorem arrG_none (ds : List D) : arrG none ds = some ds := id rfl
@[simp] theorem retOk_f (Γ : Glo) (md : List Bool) (x : Ex) : retOk Γ md false x = true := id rfl
@[simp] theorem frs_op (Γ : Glo) (md : List Bool) (o : Op) (a : Ex) : frs Γ md (.op o a) = (o.fr && (if o.kind = 0 then true else if o.kind = 1 then tpc md a else cln md a)) := id rfl
@[simp] theorem frs_ife (Γ : Glo) (md : List Bool) (t a b : Ex) : frs Γ md (.ife t a b) = (frs Γ md a && frs Γ md b) := id rfl
@[simp] theorem frs_comp (Γ : Glo) (md : List Bool) (own : List Nat) (p : Pat) (it c el : Ex) : frs Γ md (.comp own p it c el) = (tpc md it && cln md el) := id rfl
@[simp] theorem cln_cst (md : List Bool) (d : D) : cln md (.cst d) = true := id rfl
@[simp] theorem cln_glb (md : List Bool) (d : Str) : cln md (.glb d) = true := id rfl
@[simp] theorem cln_dget (md : List Bool) (d : Nat) : cln md (.dget d) = true := id rfl
@[simp] theorem cln_nil (md : List Bool) : cln md .nil = true := id rfl
@[simp] theorem cln_cons (md : List Bool) (a r : Ex) : cln md (.cons a r) = (cln md a && cln md r) := id rfl
@[simp] theorem cln_op (md : List Bool) (o : Op) (a : Ex) : cln md (.op o a) = (if o.kind = 0 then true else if o.kind = 1 then tpc md a else cln md a) := id rfl
@[simp] theorem cln_and (md : List Bool) (a r : Ex) : cln md (.and a r) = (cln md a && cln md r) := id rfl
@[simp] theorem cln_or (md : List Bool) (a r : Ex) : cln md (.or a r) = (cln md a && cln md r) := id rfl
@[simp] theorem cln_not (md : List Bool) (a : Ex) : cln md (.not a) = true := id rfl
@[simp] theorem cln_ife (md : List Bool) (t a r : Ex) : cln md (.ife t a r) = (cln md a && cln md r) := id rfl
@[simp] theorem cln_chn (md : List Bool) (o p : Op) (a b c : Ex) : cln md (.chn o p a b c) = true := id rfl
@[simp] theorem cln_comp (md : List Bool) (own : List Nat) (p : Pat) (it c el : Ex) : cln md (.comp own p it c el) = (tpc md it && cln md el) := id rfl
@[simp] theorem cln_call (md : List Bool) (g : Str) (dc : Bool) (pt : Nat) (a k : Ex) : cln md (.call g dc pt a k) = (cln md a && cln md k) := id rfl
@[simp] theorem cln_tget (md : List Bool) (a r : Ex) : cln md (.tget a r) = true := id rfl
@[simp] theorem cln_told (md : List Bool) (a : Ex) : cln md (.told a) = cln md a := id rfl
@[simp] theorem tpc_cst (md : List Bool) (d : D) : tpc md (.cst d) = true := id rfl
@[simp] theorem tpc_glb (md : List Bool) (d : Str) : tpc md (.glb d) = true := id rfl
@[simp] theorem tpc_dget (md : List Bool) (d : Nat) : tpc md (.dget d) = true := id rfl
@[simp] theorem tpc_nil (md : List Bool) : tpc md .nil = true := id rfl
@[simp] theorem tpc_cons (md : List Bool) (a r : Ex) : tpc md (.cons a r) = (tpc md a && tpc md r) := id rfl
@[simp] theorem tpc_op (md : List Bool) (o : Op) (a : Ex) : tpc md (.op o a) = (if o.kind = 0 then true else if o.kind = 1 then tpc md a else cln md a) := id rfl
@[simp] theorem tpc_and (md : List Bool) (a r : Ex) : tpc md (.and a r) = (cln md a && cln md r) := id rfl
@[simp] theorem tpc_or (md : List Bool) (a r : Ex) : tpc md (.or a r) = (cln md a && cln md r) := id rfl
@[simp] theorem tpc_not (md : List Bool) (a : Ex) : tpc md (.not a) = true := id rfl
@[simp] theorem tpc_ife (md : List Bool) (t a r : Ex) : tpc md (.ife t a r) = (tpc md a && tpc md r) := id rfl
@[simp] theorem tpc_chn (md : List Bool) (o p : Op) (a b c : Ex) : tpc md (.chn o p a b c) = true := id rfl
@[simp] theorem tpc_comp (md : List Bool) (own : List Nat) (p : Pat) (it c el : Ex) : tpc md (.comp own p it c el) = (tpc md it && cln md el) := id rfl
@[simp] theorem tpc_call (md : List Bool) (g : Str) (dc : Bool) (pt : Nat) (a k : Ex) : tpc md (.call g dc pt a k) = (cln md a && cln md k) := id rfl
@[simp] theorem tpc_tget (md : List Bool) (a r : Ex) : tpc md (.tget a r) = true := id rfl
@[simp] theorem tpc_told (md : List Bool) (a : Ex) : tpc md (.told a) = cln md a := id rfl
@[simp] theorem cln_var (md : List Bool) (i : Nat) : cln md (.var i) = !(md.getD i false) := id rfl
@[simp] theorem tpc_var (md : List Bool) (i : Nat) : tpc md (.var i) = true := id rfl
@[simp] theorem kind_add : Op.kind .add = 1 := id rfl
@[simp] theorem kind_mul : Op.kind .mul = 1 := id rfl
@[simp] theorem kind_idx : Op.kind .idx = 1 := id rfl
@[simp] theorem kind_list : Op.kind .list = 1 := id rfl
@[simp] theorem kind_tuple : Op.kind .tuple = 1 := id rfl
@[simp] theorem kind_revs : Op.kind .revs = 1 := id rfl
@[simp] theorem kind_enm : Op.kind .enm = 2 := id rfl
@[simp] theorem kind_zip : Op.kind .zip = 2 := id rfl
@[simp] theorem kind_rev : Op.kind .rev = 2 := id rfl
@[simp] theorem kind_tupd : Op.kind .tupd = 2 := id rfl
@[simp] theorem kind_lstd : Op.kind .lstd = 2 := id rfl
@[simp] theorem kind_sub : Op.kind .sub = 0 := id rfl
@[simp] theorem kind_fdiv : Op.kind .fdiv = 0 := id rfl
@[simp] theorem kind_mod : Op.kind .mod = 0 := id rfl
@[simp] theorem kind_neg : Op.kind .neg = 0 := id rfl
@[simp] theorem kind_pow : Op.kind .pow = 0 := id rfl
@[simp] theorem kind_eq : Op.kind .eq = 0 := id rfl
@[simp] theorem kind_ne : Op.kind .ne = 0 := id rfl
@[simp] theorem kind_lt : Op.kind .lt = 0 := id rfl
@[simp] theorem kind_le : Op.kind .le = 0 := id rfl
@[simp] theorem kind_gt : Op.kind .gt = 0 := id rfl
@[simp] theorem kind_ge : Op.kind .ge = 0 := id rfl
@[simp] theorem kind_isn : Op.kind .isn = 0 := id rfl
@[simp] theorem kind_notn : Op.kind .notn = 0 := id rfl
@[simp] theorem kind_isin : Op.kind .isin = 0 := id rfl
@[simp] theorem kind_notin : Op.kind .notin = 0 := id rfl
@[simp] theorem kind_len : Op.kind .len = 0 := id rfl
@[simp] theorem kind_all : Op.kind .all = 0 := id rfl
@[simp] theorem kind_any : Op.kind .any = 0 := id rfl
@[simp] theorem kind_sum : Op.kind .sum = 0 := id rfl
@[simp] theorem kind_max2 : Op.kind .max2 = 0 := id rfl
@[simp] theorem kind_min2 : Op.kind .min2 = 0 := id rfl
@[simp] theorem kind_abs : Op.kind .abs = 0 := id rfl
@[simp] theorem kind_int : Op.kind .int = 0 := id rfl
@[simp] theorem kind_join : Op.kind .join = 0 := id rfl
@[simp] theorem kind_split : Op.kind .split = 0 := id rfl
@[simp] theorem kind_upper : Op.kind .upper = 0 := id rfl
@[simp] theorem kind_lower : Op.kind .lower = 0 := id rfl
@[simp] theorem kind_strip : Op.kind .strip = 0 := id rfl
@[simp] theorem kind_count : Op.kind .count = 0 := id rfl
@[simp] theorem kind_replace : Op.kind .replace = 0 := id rfl
@[simp] theorem kind_str : Op.kind .str = 0 := id rfl
@[simp] theorem kind_lcount : Op.kind .lcount = 0 := id rfl
@[simp] theorem kind_index : Op.kind .index = 0 := id rfl
@[simp] theorem kind_maxl : Op.kind .maxl = 1 := id rfl
@[simp] theorem kind_minl : Op.kind .minl = 1 := id rfl
@[simp] theorem kind_maxd : Op.kind .maxd = 2 := id rfl
@[simp] theorem kind_lstr : Op.kind .lstr = 0 := id rfl
@[simp] theorem kind_mint : Op.kind .mint = 0 := id rfl
@[simp] theorem kind_mind : Op.kind .mind = 2 := id rfl
@[simp] theorem kind_srt : Op.kind .srt = 0 := id rfl
@[simp] theorem kind_slc (a b : Bool) : Op.kind (.slc a b) = 1 := id rfl
@[simp] theorem kind_rng (a : Nat) : Op.kind (.rng a) = 0 := id rfl
@[simp] theorem kind_isi (a : String) : Op.kind (.isi a) = 0 := id rfl
@[simp] theorem kind_isb (a : Bool) : Op.kind (.isb a) = 0 := id rfl
@[simp] theorem fr_revs : Op.fr .revs = true := id rfl
@[simp] theorem fr_lstd : Op.fr .lstd = true := id rfl
@[simp] theorem fr_list : Op.fr .list = true := id rfl
@[simp] theorem fr_split : Op.fr .split = true := id rfl
@[simp] theorem fr_add : Op.fr .add = true := id rfl
@[simp] theorem fr_mul : Op.fr .mul = true := id rfl
@[simp] theorem fr_slc (a b : Bool) : Op.fr (.slc a b) = true := id rfl
theorem wp_cut {Γ : Glo} {md : List Bool} {fr : Bool} {n : Nat} {a b : Sm} {ρ : En} {δ : Dice} {P : Post} (J : En → Dice → Prop) (h1 : Wp (exS Γ md fr n a ρ δ) ⟨J, P.ct, P.rt, P.ex⟩) (h2 : ∀ ρ δ, J ρ δ → Wp (exS Γ md fr n b ρ δ) P) : Wp (exS Γ md fr n (.seq a b) ρ δ) P := by
  rw [wp_seq]
  exact h1.mono h2 (fun _ _ z => z) (fun _ _ z => z) (fun _ _ z => z)
end DC
set_option Elab.async false
set_option linter.all false
namespace DL
section
variable {α : Type} [DecidableEq α]
def lcs : List α → List α → Nat
  | [], _ => 0
  | _ :: _, [] => 0
  | a :: as, b :: bs => if a = b then lcs as bs + 1 else max (lcs as (b :: bs)) (lcs (a :: as) bs)
termination_by a b => a.length + b.length
theorem lcs_nil (b : List α) : lcs [] b = 0 := by unfold lcs; rfl
theorem lcs_nil' (a : List α) : lcs a [] = 0 := by cases a <;> (unfold lcs; rfl)
theorem lcs_cons (a b : α) (as bs : List α) : lcs (a :: as) (b :: bs) = if a = b then lcs as bs + 1 else max (lcs as (b :: bs)) (lcs (a :: as) bs) := by rw [lcs]
theorem lcs_get : ∀ (a b : List α), ∃ s : List α, s.Sublist a ∧ s.Sublist b ∧ s.length = lcs a b
  | [], b => ⟨[], .slnil, List.nil_sublist _, by rw [lcs_nil]; rfl⟩
  | a :: as, [] => ⟨[], List.nil_sublist _, .slnil, by rw [lcs_nil']; rfl⟩
  | a :: as, b :: bs => by
    rw [lcs_cons]
    by_cases h : a = b
    · obtain ⟨s, h1, h2, h3⟩ := lcs_get as bs
      subst h
      exact ⟨a :: s, h1.cons_cons a, h2.cons_cons a, by simp [h3]⟩
    · rw [if_neg h]
      by_cases m : lcs as (b :: bs) ≤ lcs (a :: as) bs
      · obtain ⟨s, h1, h2, h3⟩ := lcs_get (a :: as) bs
        exact ⟨s, h1, h2.cons b, by rw [h3]; omega⟩
      · obtain ⟨s, h1, h2, h3⟩ := lcs_get as (b :: bs)
        exact ⟨s, h1.cons a, h2, by rw [h3]; omega⟩
termination_by a b => a.length + b.length
theorem sub_cons {s : List α} {a : α} {as : List α} (h : s.Sublist (a :: as)) : s.Sublist as ∨ ∃ r, s = a :: r ∧ r.Sublist as := by
  cases h with
  | cons _ h => exact .inl h
  | cons_cons _ h => exact .inr ⟨_, rfl, h⟩
theorem sub_tail {s : α} {r as : List α} (h : (s :: r).Sublist as) : r.Sublist as := (List.sublist_cons_self s r).trans h
theorem sub_step {s : α} {r : List α} {a : α} {as : List α} (h : (s :: r).Sublist (a :: as)) : r.Sublist as := by
  rcases sub_cons h with h | ⟨q, e, h⟩
  · exact sub_tail h
  · cases e; exact h
theorem le_lcs : ∀ (a b s : List α), s.Sublist a → s.Sublist b → s.length ≤ lcs a b
  | [], b, s, h1, h2 => by rw [List.sublist_nil.mp h1]; simp
  | a :: as, [], s, h1, h2 => by rw [List.sublist_nil.mp h2]; simp
  | a :: as, b :: bs, s, h1, h2 => by
    rw [lcs_cons]
    by_cases h : a = b
    · subst h
      rw [if_pos rfl]
      cases s with
      | nil => simp
      | cons x r =>
        have := le_lcs as bs r (sub_step h1) (sub_step h2)
        simp; exact this
    · rw [if_neg h]
      rcases sub_cons h1 with q | ⟨r, e, q⟩
      · have := le_lcs as (b :: bs) s q h2
        omega
      · rcases sub_cons h2 with q2 | ⟨r2, e2, q2⟩
        · have := le_lcs (a :: as) bs s h1 q2
          omega
        · rw [e] at e2; cases e2; exact absurd rfl h
termination_by a b => a.length + b.length
theorem lcs_eq {a b : List α} {n : Nat} (h1 : ∃ s : List α, s.Sublist a ∧ s.Sublist b ∧ s.length = n) (h2 : ∀ s : List α, s.Sublist a → s.Sublist b → s.length ≤ n) : lcs a b = n := by
  obtain ⟨s, q1, q2, q3⟩ := h1
  obtain ⟨t, r1, r2, r3⟩ := lcs_get a b
  have := le_lcs a b s q1 q2
  have := h2 t r1 r2
  omega
theorem lcs_comm (a b : List α) : lcs a b = lcs b a := by
  obtain ⟨t, r1, r2, r3⟩ := lcs_get b a
  exact lcs_eq ⟨t, r2, r1, r3⟩ fun s h1 h2 => le_lcs b a s h2 h1
theorem lcs_reverse (a b : List α) : lcs a.reverse b.reverse = lcs a b := by
  obtain ⟨t, r1, r2, r3⟩ := lcs_get a b
  refine lcs_eq ⟨t.reverse, r1.reverse, r2.reverse, by simp [r3]⟩ fun s h1 h2 => ?_
  have := le_lcs a b s.reverse (by simpa using h1.reverse) (by simpa using h2.reverse)
  simpa using this
theorem lcs_le_left (a b : List α) : lcs a b ≤ a.length := by
  obtain ⟨t, r1, r2, r3⟩ := lcs_get a b
  have := r1.length_le
  omega
theorem lcs_le_right (a b : List α) : lcs a b ≤ b.length := by rw [lcs_comm]; exact lcs_le_left b a
theorem lcs_mono {a a' b b' : List α} (h : a.Sublist a') (h' : b.Sublist b') : lcs a b ≤ lcs a' b' := by
  obtain ⟨t, r1, r2, r3⟩ := lcs_get a b
  have := le_lcs a' b' t (r1.trans h) (r2.trans h')
  omega
theorem lcs_self (a : List α) : lcs a a = a.length := Nat.le_antisymm (lcs_le_left a a) (le_lcs a a a (List.Sublist.refl a) (List.Sublist.refl a))
theorem lcs_cons_le (x : α) (a b : List α) : lcs (x :: a) b ≤ lcs a b + 1 := by
  obtain ⟨t, r1, r2, r3⟩ := lcs_get (x :: a) b
  rcases sub_cons r1 with q | ⟨r, e, q⟩
  · have := le_lcs a b t q r2
    omega
  · subst e
    have := le_lcs a b r q (sub_tail r2)
    simp at r3
    omega
theorem lcs_cons_le' (x : α) (a b : List α) : lcs a (x :: b) ≤ lcs a b + 1 := by rw [lcs_comm a, lcs_comm a]; exact lcs_cons_le x b a
theorem lcs_law (a b : α) (as bs : List α) : lcs (a :: as) (b :: bs) = (if a = b then max (max (lcs as (b :: bs)) (lcs (a :: as) bs)) (lcs as bs + 1) else max (lcs as (b :: bs)) (lcs (a :: as) bs)) := by
  rw [lcs_cons]
  split
  · have := lcs_cons_le a as bs
    have := lcs_cons_le' b as bs
    omega
  · rfl
theorem lcs_full {a b : List α} (h : 2 * lcs a b = a.length + b.length) : a = b := by
  obtain ⟨t, r1, r2, r3⟩ := lcs_get a b
  have h1 := r1.length_le
  have h2 := r2.length_le
  have e1 : t = a := r1.eq_of_length (by omega)
  have e2 : t = b := r2.eq_of_length (by omega)
  rw [← e1, e2]
theorem lcs_prefix : ∀ (c a b : List α), lcs (c ++ a) (c ++ b) = c.length + lcs a b
  | [], a, b => by simp
  | x :: c, a, b => by
    show lcs (x :: (c ++ a)) (x :: (c ++ b)) = _
    rw [lcs_cons, if_pos rfl, lcs_prefix c a b]
    simp; omega
theorem lcs_suffix (c a b : List α) : lcs (a ++ c) (b ++ c) = c.length + lcs a b := by
  rw [← lcs_reverse, List.reverse_append, List.reverse_append, lcs_prefix, lcs_reverse, List.length_reverse]
theorem sub_both : ∀ (m s t : List α), s.Sublist m → t.Sublist m → ∃ u : List α, u.Sublist s ∧ u.Sublist t ∧ s.length + t.length ≤ u.length + m.length
  | [], s, t, h1, h2 => by
    rw [List.sublist_nil.mp h1, List.sublist_nil.mp h2]
    exact ⟨[], .slnil, .slnil, by simp⟩
  | x :: m, s, t, h1, h2 => by
    rcases sub_cons h1 with q1 | ⟨s', e1, q1⟩
    · rcases sub_cons h2 with q2 | ⟨t', e2, q2⟩
      · obtain ⟨u, g1, g2, g3⟩ := sub_both m s t q1 q2
        exact ⟨u, g1, g2, by simp; omega⟩
      · obtain ⟨u, g1, g2, g3⟩ := sub_both m s t' q1 q2
        subst e2
        exact ⟨u, g1, g2.cons x, by simp; omega⟩
    · rcases sub_cons h2 with q2 | ⟨t', e2, q2⟩
      · obtain ⟨u, g1, g2, g3⟩ := sub_both m s' t q1 q2
        subst e1
        exact ⟨u, g1.cons x, g2, by simp; omega⟩
      · obtain ⟨u, g1, g2, g3⟩ := sub_both m s' t' q1 q2
        subst e1 e2
        exact ⟨x :: u, g1.cons_cons x, g2.cons_cons x, by simp; omega⟩
theorem lcs_tri (a m b : List α) : lcs a m + lcs m b ≤ lcs a b + m.length := by
  obtain ⟨s, r1, r2, r3⟩ := lcs_get a m
  obtain ⟨t, q1, q2, q3⟩ := lcs_get m b
  obtain ⟨u, g1, g2, g3⟩ := sub_both m s t r2 q1
  have := le_lcs a b u (g1.trans r1) (g2.trans q2)
  omega
theorem lcs_new {x : α} {p q b : List α} (h : x ∉ b) : lcs (p ++ x :: q) b = lcs (p ++ q) b := by
  apply Nat.le_antisymm
  · obtain ⟨t, r1, r2, r3⟩ := lcs_get (p ++ x :: q) b
    obtain ⟨t1, t2, e, h1, h2⟩ := List.sublist_append_iff.mp r1
    rcases sub_cons h2 with g | ⟨r, e2, g⟩
    · have := le_lcs (p ++ q) b t (by rw [e]; exact h1.append g) r2
      omega
    · have : x ∈ b := r2.subset (by rw [e, e2]; simp)
      exact absurd this h
  · exact lcs_mono (List.Sublist.append (List.Sublist.refl p) (List.sublist_cons_self x q)) (List.Sublist.refl b)
theorem sub_count {s a : List α} (h : s.Sublist a) (x : α) : s.count x ≤ a.count x := h.count_le x
end
end DL
set_option Elab.async false
set_option linter.all false
namespace DL
section
variable {α : Type} [DecidableEq α]
theorem len_counts : ∀ (pot l : List α), pot.Nodup → (∀ x ∈ l, x ∈ pot) → (pot.map fun x => l.count x).sum = l.length
  | pot, [], _, _ => by
    have : ∀ pot : List α, (pot.map fun x => ([] : List α).count x).sum = 0 := fun pot => by
      induction pot with
      | nil => rfl
      | cons a r ih => rw [List.map_cons, List.sum_cons, ih]; rfl
    exact this pot
  | pot, a :: l, nd, h => by
    have ih := len_counts pot l nd fun x hx => h x (List.mem_cons_of_mem _ hx)
    have ha : a ∈ pot := h a (List.mem_cons_self ..)
    have key : ∀ pot : List α, pot.Nodup → (pot.map fun x => (a :: l).count x).sum = (pot.map fun x => l.count x).sum + if a ∈ pot then 1 else 0 := by
      intro pot
      induction pot with
      | nil => intro _; simp
      | cons b r ih =>
        intro nd
        obtain ⟨n1, n2⟩ := List.nodup_cons.mp nd
        have := ih n2
        rw [List.map_cons, List.sum_cons, this, List.map_cons, List.sum_cons, List.count_cons]
        by_cases hb : a = b
        · subst hb
          rw [if_neg n1, if_pos (List.mem_cons_self ..), if_pos (by simp)]
          omega
        · have h2 : (a ∈ b :: r) = (a ∈ r) := by simp [hb]
          rw [if_neg (by simpa using hb)]
          by_cases h3 : a ∈ r
          · rw [if_pos h3, if_pos (by rw [h2]; exact h3)]; omega
          · rw [if_neg h3, if_neg (by rw [h2]; exact h3)]; omega
    rw [key pot nd, ih, if_pos ha]
    rfl
theorem least_counts (pot a b : List α) (nd : pot.Nodup) (ha : ∀ x ∈ a, x ∈ pot) (hb : ∀ x ∈ b, x ∈ pot) :
    ((pot.map fun x => if (a.count x : Int) - b.count x < 0 then -((a.count x : Int) - b.count x) else (a.count x : Int) - b.count x).sum) ≤ (a.length : Int) + b.length - 2 * lcs a b := by
  obtain ⟨s, h1, h2, h3⟩ := lcs_get a b
  have e1 := len_counts pot a nd ha
  have e2 := len_counts pot b nd hb
  have e3 := len_counts pot s nd fun x hx => ha x (h1.subset hx)
  have key : ∀ p : List α, ((p.map fun x => if (a.count x : Int) - b.count x < 0 then -((a.count x : Int) - b.count x) else (a.count x : Int) - b.count x).sum) ≤ ((p.map fun x => a.count x).sum : Int) + (p.map fun x => b.count x).sum - 2 * (p.map fun x => s.count x).sum := by
    intro p
    induction p with
    | nil => simp
    | cons x r ih =>
      have c1 := h1.count_le x
      have c2 := h2.count_le x
      simp only [List.map_cons, List.sum_cons, Int.natCast_add]
      split <;> omega
  have := key pot
  rw [e1, e2, e3, h3] at this
  exact this
end
end DL
set_option Elab.async false
set_option linter.all false
set_option maxRecDepth 100000
set_option maxHeartbeats 200000
namespace DF
open PySem PySem.Spec L2 DC
def sem1 (f : D → Res D) : List D → Res D
  | [a] => f a
  | _ => .stk
def sem2 (f : D → D → Res D) : List D → Res D
  | [a, b] => f a b
  | _ => .stk
def sem3 (f : D → D → D → Res D) : List D → Res D
  | [a, b, c] => f a b c
  | _ => .stk
@[simp] theorem sem1_at (f : D → Res D) (a : D) : sem1 f [a] = f a := rfl
@[simp] theorem sem2_at (f : D → D → Res D) (a b : D) : sem2 f [a, b] = f a b := rfl
@[simp] theorem sem3_at (f : D → D → D → Res D) (a b c : D) : sem3 f [a, b, c] = f a b c := rfl
theorem sem1_of {f : D → Res D} {ds : List D} (h : sem1 f ds ≠ .stk) : ∃ a, ds = [a] := by
  cases ds with
  | nil => exact absurd rfl h
  | cons a r => cases r with
    | nil => exact ⟨a, rfl⟩
    | cons b r => exact absurd rfl h
theorem sem2_of {f : D → D → Res D} {ds : List D} (h : sem2 f ds ≠ .stk) : ∃ a b, ds = [a, b] := by
  cases ds with
  | nil => exact absurd rfl h
  | cons a r => cases r with
    | nil => exact absurd rfl h
    | cons b r => cases r with
      | nil => exact ⟨a, b, rfl⟩
      | cons c r => exact absurd rfl h
theorem sem3_of {f : D → D → D → Res D} {ds : List D} (h : sem3 f ds ≠ .stk) : ∃ a b c, ds = [a, b, c] := by
  cases ds with
  | nil => exact absurd rfl h
  | cons a r => cases r with
    | nil => exact absurd rfl h
    | cons b r => cases r with
      | nil => exact absurd rfl h
      | cons c r => cases r with
        | nil => exact ⟨a, b, c, rfl⟩
        | cons d r => exact absurd rfl h
def Does (Γ : Glo) (md : List Bool) (N : Nat) (s : Sm) (fs : Fs) : Prop := ∀ ds δ, fs.sem ds δ ≠ .stk → ∃ m, runF Γ md fs.fr N fs.dice s m ds δ = fs.sem ds δ
def N_is_row : List Str := ["thing", "sign"]
def md_is_row : List Bool := []
def s_is_row : Sm := (.seq (.iff (.or (.not (.op (.isi "str") (.cons (.var 0) .nil))) (.op .gt (.cons (.op .len (.cons (.var 0) .nil)) (.cons (.glb "MOST_SIGNS") .nil)))) (.seq (.ret (.cst (.bl false))) .skip) .skip) (.seq (.ret (.op .all (.cons (.comp [1] (.nm 1) (.var 0) (.cst (.bl true)) (.chn .le .le (.cst (.str [32])) (.var 1) (.cst (.str [126])))) .nil))) .skip))
def N_are_rows : List Str := ["thing", "one"]
def md_are_rows : List Bool := []
def s_are_rows : Sm := (.seq (.ret (.and (.op (.isi "list") (.cons (.var 0) .nil)) (.and (.op .le (.cons (.op .len (.cons (.var 0) .nil)) (.cons (.glb "MOST_ROWS") .nil))) (.op .all (.cons (.comp [1] (.nm 1) (.var 0) (.cst (.bl true)) (.call "is_row" false 0 (.cons (.var 1) .nil) .nil)) .nil))))) .skip)
def N_need_rows : List Str := ["thing"]
def md_need_rows : List Bool := []
def s_need_rows : Sm := (.seq (.iff (.not (.call "are_rows" false 0 (.cons (.var 0) .nil) .nil)) (.seq (.rai "BadRows") .skip) .skip) .skip)
def N_need_look : List Str := ["thing"]
def md_need_look : List Bool := []
def s_need_look : Sm := (.seq (.iff (.or (.not (.op (.isi "str") (.cons (.var 0) .nil))) (.op .notin (.cons (.var 0) (.cons (.glb "LOOKS") .nil)))) (.seq (.rai "BadLook") .skip) .skip) .skip)
def N_keyed : List Str := ["row", "look", "words", "word"]
def md_keyed : List Bool := []
def s_keyed : Sm := (.seq (.iff (.op .eq (.cons (.var 1) (.cons (.cst (.str [97, 108, 108])) .nil))) (.seq (.ret (.var 0)) .skip) .skip) (.seq (.iff (.op .eq (.cons (.var 1) (.cons (.cst (.str [108, 97, 114, 103, 101])) .nil))) (.seq (.ret (.op .upper (.cons (.var 0) .nil))) .skip) .skip) (.seq (.asg 2 (.comp [3] (.nm 3) (.op .split (.cons (.var 0) (.cons (.cst (.str [32])) .nil))) (.op .ne (.cons (.var 3) (.cons (.cst (.str [])) .nil))) (.var 3))) (.seq (.iff (.op .eq (.cons (.var 1) (.cons (.cst (.str [114, 117, 110, 115])) .nil))) (.seq (.ret (.op .join (.cons (.cst (.str [32])) (.cons (.var 2) .nil)))) .skip) .skip) (.seq (.ret (.ife (.op .eq (.cons (.var 1) (.cons (.cst (.str [110, 111, 110, 101])) .nil))) (.op .join (.cons (.cst (.str [])) (.cons (.var 2) .nil))) (.op .strip (.cons (.var 0) (.cons (.cst (.str [32])) .nil))))) .skip)))))
def N_keys_of : List Str := ["rows", "look", "row"]
def md_keys_of : List Bool := []
def s_keys_of : Sm := (.seq (.ret (.comp [2] (.nm 2) (.var 0) (.cst (.bl true)) (.call "keyed" false 0 (.cons (.var 2) (.cons (.var 1) .nil)) .nil))) .skip)
@[simp] theorem filt_true {α : Type} (l : List α) : l.filter (fun _ => true) = l := List.filter_eq_self.mpr fun _ _ => rfl
theorem stpL_succ (k : Nat) : stpL (k : Int) (-1) (k + 1) = .int k :: stpL ((k : Int) - 1) (-1) k := by
  unfold stpL
  rw [List.range_succ_eq_map, List.map_cons, List.map_map]
  simp
  intro i _
  omega
theorem rngL_succ (lo : Int) (k : Nat) : rngL lo (k + 1) = .int lo :: rngL (lo + 1) k := by
  unfold rngL
  rw [List.range_succ_eq_map, List.map_cons, List.map_map]
  simp
  intro i _
  omega
section
variable {Γ : Glo} {md : List Bool} {fr : Bool} {n : Nat} {P : Post}
theorem for_down {p : Nat} {b : Sm} {k : Nat} {ρ : En} {δ : Dice} (J : Nat → En → Dice → Prop) (j0 : J k ρ δ) (j1 : ∀ ρ δ, J 0 ρ δ → P.nx ρ δ)
    (j2 : ∀ i ρ δ, J (i + 1) ρ δ → Wp (exS Γ md fr n b (ρ.set p (some (.int (i : Int)))) δ) ⟨J i, J i, P.rt, P.ex⟩) : Wp (forL (.nm p) (exS Γ md fr n b) (stpL ((k : Int) - 1) (-1) k) ρ δ) P := by
  induction k generalizing ρ δ with
  | zero => exact j1 ρ δ j0
  | succ k ih =>
    rw [show ((k + 1 : Nat) : Int) - 1 = (k : Int) by omega, stpL_succ]
    simp only [forL, bindP_nm]
    have q := j2 k ρ δ j0
    cases e : exS Γ md fr n b (ρ.set p (some (.int (k : Int)))) δ with
    | nx ρ2 δ2 => rw [e] at q; exact ih q
    | ct ρ2 δ2 => rw [e] at q; exact ih q
    | rt d δ2 => rw [e] at q; exact q
    | ex x δ2 => rw [e] at q; exact q
    | stk => rw [e] at q; exact q
theorem for_up {p : Nat} {b : Sm} {lo : Int} {k : Nat} {ρ : En} {δ : Dice} (J : Nat → En → Dice → Prop) (j0 : J 0 ρ δ) (j1 : ∀ ρ δ, J k ρ δ → P.nx ρ δ)
    (j2 : ∀ i ρ δ, i < k → J i ρ δ → Wp (exS Γ md fr n b (ρ.set p (some (.int (lo + (i : Int))))) δ) ⟨J (i + 1), J (i + 1), P.rt, P.ex⟩) : Wp (forL (.nm p) (exS Γ md fr n b) (rngL lo k) ρ δ) P := by
  have key : ∀ (m j : Nat) (ρ : En) (δ : Dice), j + m = k → J j ρ δ → Wp (forL (.nm p) (exS Γ md fr n b) (rngL (lo + (j : Int)) m) ρ δ) P := by
    intro m
    induction m with
    | zero => intro j ρ δ e h; exact j1 ρ δ (by rw [← e]; exact h)
    | succ m ih =>
      intro j ρ δ e h
      rw [rngL_succ]
      simp only [forL, bindP_nm]
      have q := j2 j ρ δ (by omega) h
      cases e2 : exS Γ md fr n b (ρ.set p (some (.int (lo + (j : Int))))) δ with
      | nx ρ2 δ2 => rw [e2] at q; have := ih (j + 1) ρ2 δ2 (by omega) q; rw [show lo + ((j + 1 : Nat) : Int) = lo + (j : Int) + 1 by omega] at this; exact this
      | ct ρ2 δ2 => rw [e2] at q; have := ih (j + 1) ρ2 δ2 (by omega) q; rw [show lo + ((j + 1 : Nat) : Int) = lo + (j : Int) + 1 by omega] at this; exact this
      | rt d δ2 => rw [e2] at q; exact q
      | ex x δ2 => rw [e2] at q; exact q
      | stk => rw [e2] at q; exact q
  have := key k 0 ρ δ (by omega) j0
  simpa using this
theorem for_list {α : Type} {p : Pat} {b : Sm} (h : α → D) {l : List α} {ρ : En} {δ : Dice} (J : List α → En → Dice → Prop) (j0 : J l ρ δ) (j1 : ∀ ρ δ, J [] ρ δ → P.nx ρ δ)
    (j2 : ∀ a r ρ δ, J (a :: r) ρ δ → ∃ ρ1, bindP p (h a) ρ = some ρ1 ∧ Wp (exS Γ md fr n b ρ1 δ) ⟨J r, J r, P.rt, P.ex⟩) : Wp (forL p (exS Γ md fr n b) (l.map h) ρ δ) P := by
  induction l generalizing ρ δ with
  | nil => exact j1 ρ δ j0
  | cons a r ih =>
    simp only [List.map_cons, forL]
    obtain ⟨ρ1, e1, q⟩ := j2 a r ρ δ j0
    rw [e1]
    simp only
    cases e : exS Γ md fr n b ρ1 δ with
    | nx ρ2 δ2 => rw [e] at q; exact ih q
    | ct ρ2 δ2 => rw [e] at q; exact ih q
    | rt d δ2 => rw [e] at q; exact q
    | ex x δ2 => rw [e] at q; exact q
    | stk => rw [e] at q; exact q
end
@[simp] theorem wp_for (Γ : Glo) (md : List Bool) (fr : Bool) (n : Nat) (ρ : En) (δ : Dice) (P : Post) (p : Pat) (it : Ex) (b : Sm) : Wp (exS Γ md fr n (.fr p it b) ρ δ) P = (cln md it = true ∧ We (ev Γ it ρ δ) (fun d δ1 => Wx d.items fun ds => Wp (forL p (exS Γ md fr n b) ds ρ δ1) P) P.ex) := by
  simp only [exS]
  by_cases h : cln md it = true
  · simp only [h, if_true, true_and, wp_out]
    refine We_congr fun d δ1 => ?_
    cases d.items <;> rfl
  · simp [h, Wp]
def rowB (s : List Nat) : Bool := decide (s.length ≤ 40) && s.all fun c => decide (32 ≤ c) && decide (c ≤ 126)
def isRowD : D → Bool
  | .str s => rowB s
  | _ => false
def fs_is_row : Fs := { np := 1, pats := [(1, [], none)], sem := fun ds δ => sem1 (fun d => .ok (.bl (isRowD d)) δ) ds }
theorem blsOf_map {α : Type} (f : α → Bool) : ∀ l : List α, blsOf (l.map fun a => D.bl (f a)) = some (l.map f)
  | [] => rfl
  | a :: r => by simp [blsOf, blsOf_map f r]
theorem compA {α : Type} {fb : D → En → Option En} {fc fe : En → Dice → Res D} {ρ : En} {δ : Dice} (h : α → D) (g : α → Bool) (f : α → D) {l : List α} {Q : List D → Dice → Prop}
    (hl : ∀ a ∈ l, ∃ ρ', fb (h a) ρ = some ρ' ∧ We (fc ρ' δ) (fun d δ' => d = .bl (g a) ∧ δ' = δ) (fun _ _ => False) ∧ (g a = true → We (fe ρ' δ) (fun d δ' => d = f a ∧ δ' = δ) (fun _ _ => False)))
    (q : Q ((l.filter g).map f) δ) : Wl (compL fb fc fe ρ (l.map h) δ) Q := by
  have key : ∀ l : List α, (∀ a ∈ l, ∃ ρ', fb (h a) ρ = some ρ' ∧ We (fc ρ' δ) (fun d δ' => d = .bl (g a) ∧ δ' = δ) (fun _ _ => False) ∧ (g a = true → We (fe ρ' δ) (fun d δ' => d = f a ∧ δ' = δ) (fun _ _ => False))) →
      compL fb fc fe ρ (l.map h) δ = .ok ((l.filter g).map f) δ := by
    intro l
    induction l with
    | nil => intro _; rfl
    | cons a r ih =>
      intro hl
      obtain ⟨ρ', e1, e2, e3⟩ := hl a (List.mem_cons_self ..)
      have ih := ih fun x hx => hl x (List.mem_cons_of_mem _ hx)
      have e2' : fc ρ' δ = .ok (.bl (g a)) δ := by
        cases e : fc ρ' δ with
        | ok d δ' => rw [e] at e2; obtain ⟨rfl, rfl⟩ := e2; rfl
        | exc _ _ => rw [e] at e2; exact e2.elim
        | stk => rw [e] at e2; exact e2.elim
      simp only [List.map_cons, compL, e1, e2']
      cases hg : g a with
      | true =>
        have e3' : fe ρ' δ = .ok (f a) δ := by
          have e3 := e3 hg
          cases e : fe ρ' δ with
          | ok d δ' => rw [e] at e3; obtain ⟨rfl, rfl⟩ := e3; rfl
          | exc _ _ => rw [e] at e3; exact e3.elim
          | stk => rw [e] at e3; exact e3.elim
        simp [e3', Res.bind, ih, hg]
      | false => simp [ih, hg]
  rw [key l hl]
  exact q
theorem sem_is_row {Γ : Glo} (h1 : Γ.cs "MOST_SIGNS" = some (.int 40)) : Does Γ md_is_row 2 s_is_row fs_is_row := by
  intro ds δ h
  obtain ⟨d, rfl⟩ := sem1_of h
  refine ⟨0, runF_of ?_⟩
  show Wp (exS Γ [] false 0 s_is_row [some d, none] δ) _
  cases d with
  | str s =>
    simp [s_is_row, h1, fs_is_row, isRowD]
    by_cases hl : s.length ≤ 40
    · have hl' : ¬ (40 : Int) < (s.length : Int) := by omega
      simp only [hl', decide_false, Option.map_some, Wo_some, Wb_bl, Bool.false_eq_true, if_false]
      refine compA _ (fun _ => true) (fun c => .bl (decide (32 ≤ c) && decide (c ≤ 126))) (fun c _ => ⟨_, rfl, by simp, fun _ => ?_⟩) ?_
      · simp
        by_cases h1 : c < 32 <;> by_cases h2 : 126 < c <;> simp [h1, h2] <;> omega
      · simp [blsOf_map, rowB, hl, List.all_map]
    · have hl' : (40 : Int) < (s.length : Int) := by omega
      simp [hl', rowB, hl]
  | _ => simp [s_is_row, fs_is_row, isRowD]
def areRowsD : D → Option Bool
  | .lst ds => some (decide (ds.length ≤ 60) && ds.all isRowD)
  | .scr _ => none
  | _ => some false
def rB (o : Option Bool) (f : Bool → Res D) : Res D := match o with
  | some b => f b
  | none => .stk
@[simp] theorem rB_some (b : Bool) (f : Bool → Res D) : rB (some b) f = f b := rfl
def fs_are_rows : Fs := { np := 1, pats := [(1, [], none)], sem := fun ds δ => sem1 (fun d => rB (areRowsD d) fun b => .ok (.bl b) δ) ds }
theorem sem_are_rows {Γ : Glo} (h1 : Γ.cs "MOST_ROWS" = some (.int 60)) (h2 : Γ.fn "is_row" = some fs_is_row) : Does Γ md_are_rows 2 s_are_rows fs_are_rows := by
  intro ds δ h
  obtain ⟨d, rfl⟩ := sem1_of h
  refine ⟨0, runF_of ?_⟩
  show Wp (exS Γ [] false 0 s_are_rows [some d, none] δ) _
  cases d with
  | lst s =>
    simp [s_are_rows, h1, fs_are_rows, areRowsD]
    by_cases hl : s.length ≤ 60
    · have hl' : (s.length : Int) ≤ 60 := by omega
      have hl2 : ¬ (60 : Int) < (s.length : Int) := by omega
      simp only [hl', hl, hl2, true_implies, false_implies, and_true, true_and, decide_true, Bool.true_and]
      rw [show s = s.map id by simp]
      refine compA _ (fun _ => true) (fun c => .bl (isRowD c)) (fun c _ => ⟨_, rfl, by simp, fun _ => ?_⟩) ?_
      · simp [h2, fs_is_row]
      · simp [blsOf_map, List.all_map]
    · have hl' : ¬ (s.length : Int) ≤ 60 := by omega
      simp [hl', hl]
  | scr _ => exact absurd rfl h
  | _ => simp [s_are_rows, fs_are_rows, areRowsD]
def fs_need_rows : Fs := { np := 1, pats := [(1, [], none)], sem := fun ds δ => sem1 (fun d => rB (areRowsD d) fun b => if b = true then .ok .non δ else .exc ⟨"BadRows", none⟩ δ) ds }
theorem sem_need_rows {Γ : Glo} (h1 : Γ.fn "are_rows" = some fs_are_rows) : Does Γ md_need_rows 1 s_need_rows fs_need_rows := by
  intro ds δ h
  obtain ⟨d, rfl⟩ := sem1_of h
  refine ⟨0, runF_of ?_⟩
  show Wp (exS Γ [] false 0 s_need_rows [some d] δ) _
  simp only [fs_need_rows, sem1_at] at h ⊢
  cases e : areRowsD d with
  | none => rw [e] at h; exact absurd rfl h
  | some b => cases b <;> simp [s_need_rows, h1, fs_are_rows, e]
end DF
set_option Elab.async false
set_option linter.all false
set_option maxRecDepth 100000
set_option maxHeartbeats 400000
namespace DF
open PySem PySem.Spec L2 DC
def sAll : List Nat := [97, 108, 108]
def sEnds : List Nat := [101, 110, 100, 115]
def sRuns : List Nat := [114, 117, 110, 115]
def sNone : List Nat := [110, 111, 110, 101]
def sLarge : List Nat := [108, 97, 114, 103, 101]
def looks : List (List Nat) := [sAll, sEnds, sRuns, sNone, sLarge]
def looksD : D := .tup (looks.map .str)
def isLookD : D → Bool
  | .str s => looks.contains s
  | _ => false
def fs_need_look : Fs := { np := 1, pats := [(1, [], none)], sem := fun ds δ => sem1 (fun d => if isLookD d = true then .ok .non δ else .exc ⟨"BadLook", none⟩ δ) ds }
theorem any_str (x : List Nat) : ∀ l : List (List Nat), ((l.map D.str).any fun y => y.eqv (.str x)) = l.contains x
  | [] => rfl
  | a :: r => by
    have := any_str x r
    simp only [List.map_cons, List.any_cons, this, D.eqv, List.contains_cons]
    congr 1
    by_cases h : a = x
    · simp [h]
    · have h' : ¬ x = a := fun z => h z.symm
      rw [beq_eq_false_iff_ne.mpr h, beq_eq_false_iff_ne.mpr h']
theorem looks_in (s : List Nat) : dIn (.str s) looksD = some (looks.contains s) := by
  show (if ((D.str s).scl && (looks.map D.str).all D.scl) = true then some ((looks.map D.str).any fun y => y.eqv (.str s)) else none) = _
  rw [any_str]
  rfl
theorem sem_need_look {Γ : Glo} (h1 : Γ.cs "LOOKS" = some looksD) : Does Γ md_need_look 1 s_need_look fs_need_look := by
  intro ds δ h
  obtain ⟨d, rfl⟩ := sem1_of h
  refine ⟨0, runF_of ?_⟩
  show Wp (exS Γ [] false 0 s_need_look [some d] δ) _
  cases d with
  | str s => cases hc : looks.contains s <;> simp [s_need_look, h1, looks_in, hc, fs_need_look, isLookD]
  | _ => simp [s_need_look, fs_need_look, isLookD]
def okS (s : List Nat) : Bool := decide (s.length ≤ 1000)
def semS2 (f : List Nat → List Nat → Res D) : D → D → Res D
  | .str a, .str b => f a b
  | _, _ => .stk
@[simp] theorem semS2_at (f : List Nat → List Nat → Res D) (a b : List Nat) : semS2 f (.str a) (.str b) = f a b := rfl
theorem semS2_of {f : List Nat → List Nat → Res D} {d e : D} (h : semS2 f d e ≠ .stk) : ∃ a b, d = .str a ∧ e = .str b := by
  cases d with
  | str a => cases e with
    | str b => exact ⟨a, b, rfl, rfl⟩
    | _ => exact absurd rfl h
  | _ => exact absurd rfl h
def wordsOf (s : List Nat) : List (List Nat) := (TL.spl [32] 0 [] s).filter fun w => !(w == [])
def keyF (s look : List Nat) : List Nat := if look = sAll then s else if look = sLarge then s.map upC else if look = sRuns then TL.joinL [32] (wordsOf s) else if look = sNone then TL.joinL [] (wordsOf s) else stripL [32] s
def fs_keyed : Fs := { np := 2, pats := [(2, [], none)], sem := fun ds δ => sem2 (semS2 fun a b => if okS a = true then .ok (.str (keyF a b)) δ else .stk) ds }
theorem strsOf_map (l : List (List Nat)) : strsOf (l.map D.str) = some l := by
  induction l with
  | nil => rfl
  | cons a r ih => simp [strsOf, ih]
theorem spl_sum : ∀ (s acc : List Nat), ((TL.spl [32] 0 acc s).map List.length).sum ≤ acc.length + s.length ∧ (TL.spl [32] 0 acc s).length ≤ s.length + 1
  | [], acc => by simp [TL.spl]
  | c :: r, acc => by
    simp only [TL.spl]
    split
    · have := spl_sum r []
      simp at this ⊢
      omega
    · have := spl_sum r (acc ++ [c])
      simp at this ⊢
      omega
theorem sub_sum {x y : List Nat} (h : x.Sublist y) : x.sum ≤ y.sum := by
  induction h with
  | slnil => simp
  | cons a _ ih => simp; omega
  | cons_cons a _ ih => simp; omega
theorem words_sum (s : List Nat) : ((wordsOf s).map List.length).sum ≤ s.length ∧ (wordsOf s).length ≤ s.length + 1 := by
  have h1 : (wordsOf s).Sublist (TL.spl [32] 0 [] s) := List.filter_sublist
  obtain ⟨h2, h3⟩ := spl_sum s []
  have h4 := h1.length_le
  have h5 : ((wordsOf s).map List.length).sum ≤ ((TL.spl [32] 0 [] s).map List.length).sum := by
    exact sub_sum (h1.map List.length)
  simp at h2
  omega
theorem sem_keyed {Γ : Glo} : Does Γ md_keyed 4 s_keyed fs_keyed := by
  intro ds δ h
  obtain ⟨d, e, rfl⟩ := sem2_of h
  obtain ⟨a, b, rfl, rfl⟩ := semS2_of (show semS2 _ d e ≠ .stk from h)
  refine ⟨0, runF_of ?_⟩
  show Wp (exS Γ [] false 0 s_keyed [some (.str a), some (.str b), none, none] δ) _
  have ha : okS a = true := by
    cases q : okS a with
    | true => rfl
    | false => exact absurd (by simp [fs_keyed, q]) h
  have hl : a.length ≤ 1000 := by simpa [okS] using ha
  obtain ⟨w1, w2⟩ := words_sum a
  have w3 : ((wordsOf a).map List.length).sum + (wordsOf a).length ≤ 16777216 := by omega
  have w4 : ((wordsOf a).map List.length).sum ≤ 16777216 := by omega
  have l1 : a.length ≤ 5592405 := by omega
  have l2 : a.length + 2 ≤ 16777216 := by omega
  simp only [s_keyed, fs_keyed, sem2_at, semS2_at, ha, if_true]
  simp (decide := true)
  split
  · rename_i e; rw [e]; simp [keyF, sAll]
  · rename_i e1
    split
    · rename_i e2; rw [e2]; simp [keyF, sAll, sLarge, l1]
    · rename_i e2
      refine ⟨by omega, ?_⟩
      refine compA D.str (fun w => !(w == [])) D.str (fun w _ => ⟨_, rfl, by simp, fun _ => by simp⟩) ?_
      rw [show (TL.spl [32] 0 [] a).filter (fun w => !(w == [])) = wordsOf a from rfl]
      simp [strsOf_map]
      split
      · rename_i e3; exact ⟨w3, by rw [e3]; simp [keyF, sAll, sLarge, sRuns]⟩
      · rename_i e3
        split
        · rename_i e4; exact ⟨w4, by rw [e4]; simp [keyF, sAll, sLarge, sRuns, sNone]⟩
        · rename_i e4
          simp [keyF, sAll, sLarge, sRuns, sNone, e1, e2, e3, e4]
def rowsD (l : List (List Nat)) : D := .lst (l.map .str)
def semL1 (f : List (List Nat) → D → Res D) : D → D → Res D := fun a b => match a with
  | .lst l => (match strsOf l with
    | some x => f x b
    | none => .stk)
  | _ => .stk
def strsD (d : D) : Option (List (List Nat)) := match d with
  | .lst l => strsOf l
  | _ => none
@[simp] theorem strsD_at (l : List (List Nat)) : strsD (rowsD l) = some l := strsOf_map l
theorem strsOf_eq : ∀ {ds : List D} {l : List (List Nat)}, strsOf ds = some l → ds = l.map .str
  | [], l, h => by cases h; rfl
  | .str s :: r, l, h => by
    simp only [strsOf] at h
    cases e : strsOf r with
    | none => rw [e] at h; cases h
    | some x => rw [e] at h; cases h; rw [strsOf_eq e]; rfl
  | .non :: r, l, h => by cases h
  | .bl _ :: r, l, h => by cases h
  | .int _ :: r, l, h => by cases h
  | .lst _ :: r, l, h => by cases h
  | .tup _ :: r, l, h => by cases h
  | .dic _ _ :: r, l, h => by cases h
  | .scr _ :: r, l, h => by cases h
theorem strsD_eq {d : D} {l : List (List Nat)} (h : strsD d = some l) : d = rowsD l := by
  cases d with
  | lst ds => rw [strsOf_eq (show strsOf ds = some l from h)]; rfl
  | _ => cases h
def rO {α : Type} (o : Option α) (f : α → Res D) : Res D := match o with
  | some a => f a
  | none => .stk
@[simp] theorem rO_some {α : Type} (a : α) (f : α → Res D) : rO (some a) f = f a := rfl
theorem rO_of {α : Type} {o : Option α} {f : α → Res D} (h : rO o f ≠ .stk) : ∃ a, o = some a := by
  cases o with
  | none => exact absurd rfl h
  | some a => exact ⟨a, rfl⟩
def strD (d : D) : Option (List Nat) := match d with
  | .str s => some s
  | _ => none
@[simp] theorem strD_at (s : List Nat) : strD (.str s) = some s := rfl
theorem strD_eq {d : D} {s : List Nat} (h : strD d = some s) : d = .str s := by
  cases d with
  | str x => cases h; rfl
  | _ => cases h
def okR (l : List (List Nat)) : Bool := l.all okS && decide (l.length ≤ 1000)
def fs_keys_of : Fs := { np := 2, pats := [(2, [], none)], sem := fun ds δ => sem2 (fun a b => rO (strsD a) fun x => rO (strD b) fun y => if okR x = true then .ok (rowsD (x.map fun r => keyF r y)) δ else .stk) ds }
theorem sem_keys_of {Γ : Glo} (h1 : Γ.fn "keyed" = some fs_keyed) : Does Γ md_keys_of 3 s_keys_of fs_keys_of := by
  intro ds δ h
  obtain ⟨d, e, rfl⟩ := sem2_of h
  obtain ⟨x, e1⟩ := rO_of (show rO (strsD d) _ ≠ .stk from h)
  have h2 := h
  simp only [fs_keys_of, sem2_at, e1, rO_some] at h2
  obtain ⟨y, e2⟩ := rO_of h2
  cases strsD_eq e1
  cases strD_eq e2
  simp only [strD_at, rO_some] at h2
  have hx : okR x = true := by
    cases q : okR x with
    | true => rfl
    | false => rw [q] at h2; exact absurd rfl h2
  have hx' : ∀ r ∈ x, okS r = true := by
    simp only [okR, Bool.and_eq_true, List.all_eq_true] at hx
    exact hx.1
  refine ⟨0, runF_of ?_⟩
  show Wp (exS Γ [] false 0 s_keys_of [some (.lst (x.map .str)), some (.str y), none] δ) _
  simp [s_keys_of, fs_keys_of, hx]
  refine compA D.str (fun w => true) (fun r => .str (keyF r y)) (fun w hw => ⟨_, rfl, by simp, fun _ => by simp [h1, fs_keyed, hx' w hw]⟩) ?_
  simp [rowsD]
end DF
set_option Elab.async false
set_option linter.all false
set_option maxRecDepth 100000
set_option maxHeartbeats 400000
namespace DF
open PySem PySem.Spec L2 DC
def N_kept_table : List Str := ["rows", "other", "found", "row", "i", "j"]
def cmp_kept_table : Ex := (.comp [3] (.nm 3) (.op (.rng 1) (.cons (.op .add (.cons (.op .len (.cons (.var 0) .nil)) (.cons (.cst (.int 1)) .nil))) .nil)) (.cst (.bl true)) (.op .mul (.cons (.op .lstd (.cons (.cst (.int 0)) .nil)) (.cons (.op .add (.cons (.op .len (.cons (.var 1) .nil)) (.cons (.cst (.int 1)) .nil))) .nil))))
def s_kept_table : Sm := (.fr (.nm 4) (.op (.rng 3) (.cons (.op .sub (.cons (.op .len (.cons (.var 0) .nil)) (.cons (.cst (.int 1)) .nil))) (.cons (.op .neg (.cons (.cst (.int 1)) .nil)) (.cons (.op .neg (.cons (.cst (.int 1)) .nil)) .nil)))) (.seq (.fr (.nm 5) (.op (.rng 3) (.cons (.op .sub (.cons (.op .len (.cons (.var 1) .nil)) (.cons (.cst (.int 1)) .nil))) (.cons (.op .neg (.cons (.cst (.int 1)) .nil)) (.cons (.op .neg (.cons (.cst (.int 1)) .nil)) .nil)))) (.seq (.iff (.op .eq (.cons (.op .idx (.cons (.var 0) (.cons (.var 4) .nil))) (.cons (.op .idx (.cons (.var 1) (.cons (.var 5) .nil))) .nil))) (.seq (.tset (.var 4) (.var 5) (.op .add (.cons (.tget (.op .add (.cons (.var 4) (.cons (.cst (.int 1)) .nil))) (.op .add (.cons (.var 5) (.cons (.cst (.int 1)) .nil)))) (.cons (.cst (.int 1)) .nil)))) .skip) (.seq (.tset (.var 4) (.var 5) (.op .max2 (.cons (.tget (.op .add (.cons (.var 4) (.cons (.cst (.int 1)) .nil))) (.var 5)) (.cons (.tget (.var 4) (.op .add (.cons (.var 5) (.cons (.cst (.int 1)) .nil)))) .nil)))) .skip)) .skip)) .skip))
def N_cost_of : List Str := ["rows", "other"]
def md_cost_of : List Bool := []
def s_cost_of : Sm := (.seq (.ret (.op .sub (.cons (.op .add (.cons (.op .len (.cons (.var 0) .nil)) (.cons (.op .len (.cons (.var 1) .nil)) .nil))) (.cons (.op .mul (.cons (.cst (.int 2)) (.cons (.op .idx (.cons (.op .idx (.cons (.call "kept_table" false 0 (.cons (.var 0) (.cons (.var 1) .nil)) .nil) (.cons (.cst (.int 0)) .nil))) (.cons (.cst (.int 0)) .nil))) .nil))) .nil)))) .skip)
def N_need_both : List Str := ["rows", "other", "look"]
def md_need_both : List Bool := []
def s_need_both : Sm := (.seq (.exp (.call "need_rows" false 0 (.cons (.var 0) .nil) .nil)) (.seq (.exp (.call "need_rows" false 0 (.cons (.var 1) .nil) .nil)) (.seq (.exp (.call "need_look" false 0 (.cons (.var 2) .nil) .nil)) .skip)))
def N_least_cost : List Str := ["rows", "other", "look"]
def md_least_cost : List Bool := []
def s_least_cost : Sm := (.seq (.exp (.call "need_both" false 0 (.cons (.var 0) (.cons (.var 1) (.cons (.var 2) .nil))) .nil)) (.seq (.ret (.call "cost_of" false 0 (.cons (.call "keys_of" false 0 (.cons (.var 0) (.cons (.var 2) .nil)) .nil) (.cons (.call "keys_of" false 0 (.cons (.var 1) (.cons (.var 2) .nil)) .nil) .nil)) .nil)) .skip))
def mkT (n m : Nat) (f : Nat → Nat → Int) : List (List Int) := (List.range (n + 1)).map fun r => (List.range (m + 1)).map fun c => f r c
theorem mkT_len (n m : Nat) (f : Nat → Nat → Int) : (mkT n m f).length = n + 1 := by simp [mkT]
theorem mkT_row {n m : Nat} {f : Nat → Nat → Int} {i : Nat} (h : i ≤ n) : (mkT n m f)[i]? = some ((List.range (m + 1)).map fun c => f i c) := by
  unfold mkT
  rw [List.getElem?_map, List.getElem?_range (by omega)]
  rfl
theorem mkT_get {n m : Nat} {f : Nat → Nat → Int} {i j : Nat} (h : i ≤ n) (h' : j ≤ m) : tabG (mkT n m f) (i : Int) (j : Int) = some (f i j) := by
  unfold tabG
  rw [atI_nat (mkT_row h)]
  show atI _ _ = _
  apply atI_nat
  rw [List.getElem?_map, List.getElem?_range (by omega)]
  rfl
theorem ixN_nat {n i : Nat} (h : i < n) : ixN n (i : Int) = some i := by
  unfold ixN
  simp [h]
theorem mkT_set {n m : Nat} {f : Nat → Nat → Int} {i j : Nat} {v : Int} (h : i ≤ n) (h' : j ≤ m) : tabS (mkT n m f) (i : Int) (j : Int) v = some (mkT n m fun r c => if r = i ∧ c = j then v else f r c) := by
  unfold tabS
  rw [mkT_len, ixN_nat (by omega)]
  simp only [mkT_row h, List.length_map, List.length_range]
  rw [ixN_nat (by omega)]
  simp only [Option.some.injEq]
  apply List.ext_getElem?
  intro r
  by_cases hr : r = i
  · subst hr
    rw [List.getElem?_set_self (by rw [mkT_len]; omega), mkT_row h]
    congr 1
    apply List.ext_getElem?
    intro c
    by_cases hc : c = j
    · subst hc
      rw [List.getElem?_set_self (by simp; omega), List.getElem?_map, List.getElem?_range (by omega)]
      simp
    · rw [List.getElem?_set_ne (Ne.symm hc), List.getElem?_map, List.getElem?_map]
      by_cases hm : c < m + 1
      · rw [List.getElem?_range hm]; simp [hc]
      · rw [List.getElem?_eq_none (by simpa using hm)]; rfl
  · rw [List.getElem?_set_ne (Ne.symm hr)]
    by_cases hn : r ≤ n
    · rw [mkT_row hn, mkT_row hn]; simp [hr]
    · rw [List.getElem?_eq_none (by rw [mkT_len]; omega), List.getElem?_eq_none (by rw [mkT_len]; omega)]
theorem mkT_congr {n m : Nat} {f g : Nat → Nat → Int} (h : ∀ r c, r ≤ n → c ≤ m → f r c = g r c) : mkT n m f = mkT n m g := by
  unfold mkT
  apply List.map_congr_left
  intro r hr
  apply List.map_congr_left
  intro c hc
  simp at hr hc
  exact h r c (by omega) (by omega)
def LL (a b : List (List Nat)) (i j : Nat) : Int := (DL.lcs (a.drop i) (b.drop j) : Nat)
def keptT (a b : List (List Nat)) : List (List Int) := mkT a.length b.length (LL a b)
theorem LL_end (a b : List (List Nat)) (j : Nat) : LL a b a.length j = 0 := by simp [LL, DL.lcs_nil]
theorem LL_end' (a b : List (List Nat)) (i : Nat) : LL a b i b.length = 0 := by simp [LL, DL.lcs_nil']
theorem drop_at {α : Type} {a : List α} {i : Nat} {x : α} (h : a[i]? = some x) : a.drop i = x :: a.drop (i + 1) := by
  obtain ⟨h1, h2⟩ := List.getElem?_eq_some_iff.mp h
  rw [← h2]
  exact List.drop_eq_getElem_cons h1
theorem LL_step {a b : List (List Nat)} {i j : Nat} {x y : List Nat} (hx : a[i]? = some x) (hy : b[j]? = some y) : LL a b i j = if x = y then LL a b (i + 1) (j + 1) + 1 else max (LL a b (i + 1) j) (LL a b i (j + 1)) := by
  unfold LL
  rw [drop_at hx, drop_at hy, DL.lcs_cons]
  split
  · simp
  · omega
def fs_kept_table : Fs := { np := 2, pats := [(2, [], none)], sem := fun ds δ => sem2 (fun a b => rO (strsD a) fun x => rO (strsD b) fun y => if decide (x.length ≤ 1000) && decide (y.length ≤ 1000) then .ok (tabD (keptT x y)) δ else .stk) ds }
theorem tab_sem {Γ : Glo} {N : Nat} {own : List Nat} {pt : Pat} {it cd el : Ex} {s : Sm} {fs : Fs} {ds : List D} {δ : Dice} {m : Nat}
    (h : We (ev Γ it (ds.map some ++ List.replicate (N - ds.length) none) (0, 0, [])) (fun d δ1 => Wx d.items fun is => Wl (compL (bindP pt) (ev Γ cd) (ev Γ el) (wipeE (ds.map some ++ List.replicate (N - ds.length) none) own) is δ1) fun xs _ =>
      ∃ t : List (List Int), xs = (t.map fun r : List Int => D.lst (r.map .int)) ∧ t.length ≤ sizeLine ∧ Wp (exS Γ [] false m s (ds.map some ++ List.replicate (N - ds.length) none) (0, 0, t)) ⟨fun _ δ3 => ∃ δ', fs.sem ds δ = .ok (tabD δ3.2.2) δ', fun _ _ => False, fun _ _ => False, fun _ _ => False⟩) (fun _ _ => False)) :
    ∃ m d δ1 is t δ2 ρ2 δ3, ev Γ it (ds.map some ++ List.replicate (N - ds.length) none) (0, 0, []) = .ok d δ1 ∧ d.items = some is ∧
      compL (bindP pt) (ev Γ cd) (ev Γ el) (wipeE (ds.map some ++ List.replicate (N - ds.length) none) own) is δ1 = .ok (t.map fun r : List Int => D.lst (r.map .int)) δ2 ∧
      exS Γ [] false m s (ds.map some ++ List.replicate (N - ds.length) none) (0, 0, t) = .nx ρ2 δ3 ∧ (∃ δ', fs.sem ds δ = .ok (tabD δ3.2.2) δ') ∧ t.length ≤ sizeLine := by
  cases e1 : ev Γ it (ds.map some ++ List.replicate (N - ds.length) none) (0, 0, []) with
  | ok d δ1 =>
    rw [e1] at h
    cases e2 : d.items with
    | none => rw [We_ok', e2] at h; exact h.elim
    | some is =>
      rw [We_ok', e2] at h
      have h : Wl (compL (bindP pt) (ev Γ cd) (ev Γ el) (wipeE (ds.map some ++ List.replicate (N - ds.length) none) own) is δ1) _ := h
      cases e3 : compL (bindP pt) (ev Γ cd) (ev Γ el) (wipeE (ds.map some ++ List.replicate (N - ds.length) none) own) is δ1 with
      | ok xs δ2 =>
        rw [e3] at h
        obtain ⟨t, rfl, hl, hw⟩ := h
        cases e4 : exS Γ [] false m s (ds.map some ++ List.replicate (N - ds.length) none) (0, 0, t) with
        | nx ρ2 δ3 =>
          rw [e4] at hw
          exact ⟨m, d, δ1, is, t, δ2, ρ2, δ3, rfl, e2, e3, e4, hw, hl⟩
        | ct _ _ => rw [e4] at hw; exact hw.elim
        | rt _ _ => rw [e4] at hw; exact hw.elim
        | ex _ _ => rw [e4] at hw; exact hw.elim
        | stk => rw [e4] at hw; exact hw.elim
      | exc _ _ => rw [e3] at h; exact h.elim
      | stk => rw [e3] at h; exact h.elim
  | exc _ _ => rw [e1] at h; exact h.elim
  | stk => rw [e1] at h; exact h.elim
theorem atI_str {a : List (List Nat)} {i : Nat} {x : List Nat} (h : a[i]? = some x) : atI (a.map D.str) (i : Int) = some (.str x) := by
  apply atI_nat
  rw [List.getElem?_map, h]; rfl
theorem rng_const {n : Nat} {fb : D → En → Option En} {fc fe : En → Dice → Res D} {ρ : En} {δ : Dice} {x : D} {lo : Int} {Q : List D → Dice → Prop} (hl : ∀ i : Int, ∃ ρ', fb (.int i) ρ = some ρ' ∧ We (fc ρ' δ) (fun d δ' => d = .bl true ∧ δ' = δ) (fun _ _ => False) ∧ We (fe ρ' δ) (fun d δ' => d = x ∧ δ' = δ) (fun _ _ => False))
    (q : Q (List.replicate n x) δ) : Wl (compL fb fc fe ρ (rngL lo n) δ) Q := by
  unfold rngL
  refine compA _ (fun _ => true) (fun _ => x) (fun i _ => ?_) ?_
  · obtain ⟨ρ', e1, e2, e3⟩ := hl (lo + (i : Int))
    exact ⟨ρ', e1, e2, fun _ => e3⟩
  · rw [filt_true, List.map_const', List.length_range]
    exact q
theorem sem_kept_table {Γ : Glo} (ds : List D) (δ : Dice) (h : fs_kept_table.sem ds δ ≠ .stk) :
    We (ev Γ (.op (.rng 1) (.cons (.op .add (.cons (.op .len (.cons (.var 0) .nil)) (.cons (.cst (.int 1)) .nil))) .nil)) (ds.map some ++ List.replicate (6 - ds.length) none) (0, 0, [])) (fun d δ1 => Wx d.items fun is => Wl (compL (bindP (.nm 3)) (ev Γ (.cst (.bl true))) (ev Γ (.op .mul (.cons (.op .lstd (.cons (.cst (.int 0)) .nil)) (.cons (.op .add (.cons (.op .len (.cons (.var 1) .nil)) (.cons (.cst (.int 1)) .nil))) .nil)))) (wipeE (ds.map some ++ List.replicate (6 - ds.length) none) [3]) is δ1) fun xs _ =>
      ∃ t : List (List Int), xs = (t.map fun r : List Int => D.lst (r.map .int)) ∧ t.length ≤ sizeLine ∧ Wp (exS Γ [] false 0 s_kept_table (ds.map some ++ List.replicate (6 - ds.length) none) (0, 0, t)) ⟨fun _ δ3 => ∃ δ', fs_kept_table.sem ds δ = .ok (tabD δ3.2.2) δ', fun _ _ => False, fun _ _ => False, fun _ _ => False⟩) (fun _ _ => False) := by
  obtain ⟨d, e, rfl⟩ := sem2_of h
  obtain ⟨x, e1⟩ := rO_of (show rO (strsD d) _ ≠ .stk from h)
  have h2 := h
  simp only [fs_kept_table, sem2_at, e1, rO_some] at h2
  obtain ⟨y, e2⟩ := rO_of h2
  cases strsD_eq e1
  cases strsD_eq e2
  simp only [strsD_at, rO_some] at h2
  have hx : (decide (x.length ≤ 1000) && decide (y.length ≤ 1000)) = true := by
    cases q : (decide (x.length ≤ 1000) && decide (y.length ≤ 1000)) with
    | true => rfl
    | false => rw [q] at h2; exact absurd rfl h2
  have hxy : x.length ≤ 1000 ∧ y.length ≤ 1000 := by simpa using hx
  have r1 : small ((x.length : Int) + 1) = true := by simp [small]; omega
  have l1 : ((x.length : Int) + 1).toNat = x.length + 1 := by omega
  have hρ : (([rowsD x, rowsD y].map some ++ List.replicate (6 - [rowsD x, rowsD y].length) none : En)) = [some (rowsD x), some (rowsD y), none, none, none, none] := rfl
  rw [hρ]
  simp [rowsD, r1, l1]
  refine rng_const (x := .lst ((List.replicate (y.length + 1) (0 : Int)).map .int)) (fun i => ⟨_, rfl, by simp, ?_⟩) ?_
  · simp
    omega
  · refine ⟨List.replicate (x.length + 1) (List.replicate (y.length + 1) 0), by simp, by rw [szl]; simp; omega, ?_⟩
    rw [show List.replicate (x.length + 1) (List.replicate (y.length + 1) (0 : Int)) = mkT x.length y.length (fun r c => if x.length ≤ r then LL x y r c else 0) from ?_]
    · have sm : small (-1) = true := by decide
      have r2 : small ((x.length : Int) - 1) = true := by simp [small]; omega
      have r3 : small ((y.length : Int) - 1) = true := by simp [small]; omega
      have l3 : ((x.length : Int) - 1 - -1).toNat = x.length := by omega
      have l4 : ((y.length : Int) - 1 - -1).toNat = y.length := by omega
      have l5 : (x.length : Int) - 1 - -1 ≤ 16777216 := by omega
      have l6 : (y.length : Int) - 1 - -1 ≤ 16777216 := by omega
      unfold s_kept_table
      simp (decide := true) [sm, r2, l3, l5]
      refine ⟨by omega, for_down (k := x.length) (fun k ρ δ => ∃ a b, ρ = [some (rowsD x), some (rowsD y), none, none, a, b] ∧ k ≤ x.length ∧ δ = (0, 0, mkT x.length y.length fun r c => if k ≤ r then LL x y r c else 0)) ⟨none, none, rfl, Nat.le_refl _, rfl⟩ ?_ ?_⟩
      · rintro ρ δ' ⟨a, b, rfl, _, rfl⟩
        refine ⟨δ.1, δ.2.1, δ.2.2, ?_⟩
        show fs_kept_table.sem [rowsD x, rowsD y] δ = _
        simp only [fs_kept_table, sem2_at, strsD_at, rO_some, hx, if_true, keptT, Nat.zero_le]
      · rintro i ρ δ' ⟨a, b, rfl, hi, rfl⟩
        simp (decide := true) [rowsD, sm, r3, l4, l6]
        refine ⟨by omega, for_down (k := y.length) (fun l ρ δ => ∃ b, ρ = [some (rowsD x), some (rowsD y), none, none, some (.int (i : Int)), b] ∧ l ≤ y.length ∧ δ = (0, 0, mkT x.length y.length fun r c => if i + 1 ≤ r ∨ (r = i ∧ l ≤ c) then LL x y r c else 0)) ⟨b, rfl, Nat.le_refl _, ?_⟩ ?_ ?_⟩
        · refine congrArg (fun t => ((0 : Int), (0 : Int), t)) (mkT_congr fun r c hr hc => ?_)
          by_cases h1 : i + 1 ≤ r
          · simp [h1]
          · by_cases h2 : r = i ∧ y.length ≤ c
            · obtain ⟨rfl, h2⟩ := h2
              have : c = y.length := by omega
              subst this
              simp [LL_end']
            · simp [h1, h2]
        · rintro ρ δ' ⟨b, rfl, _, rfl⟩
          simp [rowsD]
          refine ⟨by omega, mkT_congr fun r c hr hc => ?_⟩
          by_cases h1 : i ≤ r
          · have : i + 1 ≤ r ∨ r = i := by omega
            simp [h1, this]
          · have h2 : ¬ (i + 1 ≤ r ∨ r = i) := by omega
            simp [h1, h2]
        · rintro j ρ δ' ⟨b, rfl, hj, rfl⟩
          obtain ⟨u, hu⟩ : ∃ u, x[i]? = some u := ⟨_, List.getElem?_eq_getElem (by omega)⟩
          obtain ⟨v, hv⟩ : ∃ v, y[j]? = some v := ⟨_, List.getElem?_eq_getElem (by omega)⟩
          have g1 : ∀ f : Nat → Nat → Int, tabG (mkT x.length y.length f) ((i : Int) + 1) ((j : Int) + 1) = some (f (i + 1) (j + 1)) := fun f => mkT_get (i := i + 1) (j := j + 1) (by omega) (by omega)
          have g2 : ∀ f : Nat → Nat → Int, tabG (mkT x.length y.length f) ((i : Int) + 1) (j : Int) = some (f (i + 1) j) := fun f => mkT_get (i := i + 1) (j := j) (by omega) (by omega)
          have g3 : ∀ f : Nat → Nat → Int, tabG (mkT x.length y.length f) (i : Int) ((j : Int) + 1) = some (f i (j + 1)) := fun f => mkT_get (i := i) (j := j + 1) (by omega) (by omega)
          have g4 : ∀ (f : Nat → Nat → Int) (w : Int), tabS (mkT x.length y.length f) (i : Int) (j : Int) w = some (mkT x.length y.length fun r c => if r = i ∧ c = j then w else f r c) := fun f w => mkT_set (by omega) (by omega)
          have st := LL_step hu hv
          simp [rowsD, atI_str hu, atI_str hv, g1, g2, g3, g4]
          have fin : ∀ w : Int, w = LL x y i j → (mkT x.length y.length fun r c => if r = i ∧ c = j then w else if i + 1 ≤ r ∨ (r = i ∧ j + 1 ≤ c) then LL x y r c else 0) = mkT x.length y.length fun r c => if i + 1 ≤ r ∨ (r = i ∧ j ≤ c) then LL x y r c else 0 := fun w hw => mkT_congr fun r c hr hc => by
            by_cases h1 : r = i ∧ c = j
            · obtain ⟨rfl, rfl⟩ := h1
              simp [hw]
            · by_cases h2 : i + 1 ≤ r ∨ r = i ∧ j + 1 ≤ c
              · have h3 : i + 1 ≤ r ∨ r = i ∧ j ≤ c := by omega
                simp [h1, h2, h3]
              · have h3 : ¬ (i + 1 ≤ r ∨ r = i ∧ j ≤ c) := by omega
                simp [h1, h2, h3]
          split
          · rename_i huv
            rw [if_pos huv] at st
            exact ⟨by omega, fin _ st.symm⟩
          · rename_i huv
            rw [if_neg huv] at st
            refine ⟨by omega, fin _ ?_⟩
            rw [st]
            split <;> omega
    · rw [show mkT x.length y.length (fun r c => if x.length ≤ r then LL x y r c else 0) = mkT x.length y.length fun _ _ => 0 from mkT_congr fun r c hr hc => ?_]
      · unfold mkT
        simp [List.map_const']
      · by_cases h1 : x.length ≤ r
        · have : r = x.length := by omega
          subst this
          simp [LL_end]
        · simp [h1]
def leastF (a b : List (List Nat)) : Int := (a.length : Int) + b.length - 2 * DL.lcs a b
def ok1000 (x y : List (List Nat)) : Bool := decide (x.length ≤ 1000) && decide (y.length ≤ 1000)
def fs_cost_of : Fs := { np := 2, pats := [(2, [], none)], sem := fun ds δ => sem2 (fun a b => rO (strsD a) fun x => rO (strsD b) fun y => if ok1000 x y = true then .ok (.int (leastF x y)) δ else .stk) ds }
theorem atI_zero {α : Type} (a : α) (l : List α) : atI (a :: l) 0 = some a := atI_nat (j := 0) rfl
theorem tab_zero (x y : List (List Nat)) : ∃ r t, (keptT x y).map (fun r : List Int => D.lst (r.map .int)) = D.lst (.int (LL x y 0 0) :: r) :: t := by
  unfold keptT mkT
  rw [List.range_succ_eq_map, List.range_succ_eq_map]
  simp
theorem sem_cost_of {Γ : Glo} (h1 : Γ.fn "kept_table" = some fs_kept_table) : Does Γ md_cost_of 2 s_cost_of fs_cost_of := by
  intro ds δ h
  obtain ⟨d, e, rfl⟩ := sem2_of h
  obtain ⟨x, e1⟩ := rO_of (show rO (strsD d) _ ≠ .stk from h)
  have h2 := h
  simp only [fs_cost_of, sem2_at, e1, rO_some] at h2
  obtain ⟨y, e2⟩ := rO_of h2
  cases strsD_eq e1
  cases strsD_eq e2
  simp only [strsD_at, rO_some] at h2
  have hx : ok1000 x y = true := by
    cases q : ok1000 x y with
    | true => rfl
    | false => rw [q] at h2; exact absurd rfl h2
  have hx' : x.length ≤ 1000 ∧ y.length ≤ 1000 := by simpa [ok1000] using hx
  refine ⟨0, runF_of ?_⟩
  show Wp (exS Γ [] false 0 s_cost_of [some (rowsD x), some (rowsD y)] δ) _
  obtain ⟨r, t, e3⟩ := tab_zero x y
  have e4 : strsD (.lst (x.map D.str)) = some x := strsOf_map x
  have e5 : strsD (.lst (y.map D.str)) = some y := strsOf_map y
  simp [s_cost_of, h1, fs_cost_of, fs_kept_table, rowsD, e4, e5, hx, hx', tabD, e3, atI_zero, mul_int]
  simp [LL, leastF]
def fs_need_both : Fs := { np := 3, pats := [(3, [], none)], sem := fun ds δ => sem3 (fun a b c => rB (areRowsD a) fun x => if x = true then (rB (areRowsD b) fun y => if y = true then (if isLookD c = true then .ok .non δ else .exc ⟨"BadLook", none⟩ δ) else .exc ⟨"BadRows", none⟩ δ) else .exc ⟨"BadRows", none⟩ δ) ds }
theorem sem_need_both {Γ : Glo} (h1 : Γ.fn "need_rows" = some fs_need_rows) (h2 : Γ.fn "need_look" = some fs_need_look) : Does Γ md_need_both 3 s_need_both fs_need_both := by
  intro ds δ h
  obtain ⟨a, b, c, rfl⟩ := sem3_of h
  refine ⟨0, runF_of ?_⟩
  show Wp (exS Γ [] false 0 s_need_both [some a, some b, some c] δ) _
  simp only [fs_need_both, sem3_at] at h ⊢
  cases e : areRowsD a with
  | none => rw [e] at h; exact absurd rfl h
  | some x =>
    cases x with
    | false => simp [s_need_both, h1, fs_need_rows, e]
    | true =>
      simp only [e, rB_some, if_true] at h
      cases e2 : areRowsD b with
      | none => rw [e2] at h; exact absurd rfl h
      | some y => cases y <;> cases e3 : isLookD c <;> simp [s_need_both, h1, h2, fs_need_rows, fs_need_look, e, e2, e3]
theorem rowB_len {s : List Nat} (h : rowB s = true) : s.length ≤ 40 := by
  simp [rowB] at h; exact h.1
theorem rows_ok {x : List (List Nat)} (h : areRowsD (rowsD x) = some true) : okR x = true ∧ x.length ≤ 60 := by
  simp only [areRowsD, rowsD, Option.some.injEq, Bool.and_eq_true, decide_eq_true_eq, List.length_map, List.all_map, List.all_eq_true, Function.comp] at h
  refine ⟨?_, h.1⟩
  simp only [okR, Bool.and_eq_true, List.all_eq_true, decide_eq_true_eq]
  refine ⟨fun r hr => ?_, by omega⟩
  have := rowB_len (h.2 r hr)
  simp [okS]; omega
def fs_least_cost : Fs := { np := 3, pats := [(2, [], some [.inl 0, .inl 1, .inr (.str sAll)]), (2, ["look"], none)], sem := fun ds δ => sem3 (fun a b c => rO (strsD a) fun x => rO (strsD b) fun y => rO (strD c) fun z => if areRowsD (rowsD x) = some true ∧ areRowsD (rowsD y) = some true ∧ looks.contains z = true then .ok (.int (leastF (x.map fun r => keyF r z) (y.map fun r => keyF r z))) δ else .stk) ds }
theorem sem_least_cost {Γ : Glo} (h1 : Γ.fn "need_both" = some fs_need_both) (h2 : Γ.fn "keys_of" = some fs_keys_of) (h3 : Γ.fn "cost_of" = some fs_cost_of) : Does Γ md_least_cost 3 s_least_cost fs_least_cost := by
  intro ds δ h
  obtain ⟨d, e, c, rfl⟩ := sem3_of h
  obtain ⟨x, e1⟩ := rO_of (show rO (strsD d) _ ≠ .stk from h)
  have h4 := h
  simp only [fs_least_cost, sem3_at, e1, rO_some] at h4
  obtain ⟨y, e2⟩ := rO_of h4
  rw [e2, rO_some] at h4
  obtain ⟨z, e3⟩ := rO_of h4
  cases strsD_eq e1
  cases strsD_eq e2
  cases strD_eq e3
  rw [e3, rO_some] at h4
  by_cases hc : areRowsD (rowsD x) = some true ∧ areRowsD (rowsD y) = some true ∧ looks.contains z = true
  case neg => rw [if_neg hc] at h4; exact absurd rfl h4
  obtain ⟨c1, c2, c3⟩ := hc
  obtain ⟨o1, o2⟩ := rows_ok c1
  obtain ⟨o3, o4⟩ := rows_ok c2
  have o5 : ok1000 (x.map fun r => keyF r z) (y.map fun r => keyF r z) = true := by simp [ok1000]; omega
  refine ⟨0, runF_of ?_⟩
  show Wp (exS Γ [] false 0 s_least_cost [some (rowsD x), some (rowsD y), some (.str z)] δ) _
  have c3' : isLookD (.str z) = true := c3
  simp [s_least_cost, h1, h2, h3, fs_least_cost, fs_need_both, fs_keys_of, fs_cost_of, c1, c2, c3, c3', o1, o3, o5]
  simpa using c3
end DF
set_option Elab.async false
set_option linter.all false
set_option maxRecDepth 100000
set_option maxHeartbeats 400000
namespace DF
open PySem PySem.Spec L2 DC
def N__law_drawn : List Str := ["cell", "k", "more"]
def md__law_drawn : List Bool := []
def s__law_drawn : Sm := (.seq (.asg 2 (.op .mod (.cons (.op .add (.cons (.op .mul (.cons (.var 0) (.cons (.cst (.int 6364136223846793005)) .nil))) (.cons (.op .mul (.cons (.op .add (.cons (.var 1) (.cons (.cst (.int 1)) .nil))) (.cons (.cst (.int 1442695040888963407)) .nil))) .nil))) (.cons (.cst (.int 340282366920938463463374607431768211507)) .nil)))) (.seq (.asg 2 (.op .mod (.cons (.op .mul (.cons (.var 2) (.cons (.var 2) .nil))) (.cons (.cst (.int 340282366920938463463374607431768211297)) .nil)))) (.seq (.asg 2 (.op .mul (.cons (.op .mul (.cons (.op .add (.cons (.op .mod (.cons (.var 2) (.cons (.cst (.int 18446744073709551557)) .nil))) (.cons (.cst (.int 1)) .nil))) (.cons (.op .add (.cons (.op .fdiv (.cons (.var 2) (.cons (.cst (.int 18446744073709551557)) .nil))) (.cons (.cst (.int 1)) .nil))) .nil))) (.cons (.var 2) .nil)))) (.seq (.ret (.op .mod (.cons (.var 2) (.cons (.cst (.int 340282366920938463463374607431768211507)) .nil)))) .skip))))
def N__law_roll : List Str := ["dice", "many", "told"]
def md__law_roll : List Bool := []
def s__law_roll : Sm := (.seq (.iff (.op .ge (.cons (.dget 0) (.cons (.op .pow (.cons (.cst (.int 10)) (.cons (.cst (.int 18)) .nil))) .nil))) (.seq (.asg 2 (.op .mod (.cons (.dget 0) (.cons (.var 1) .nil)))) (.seq (.dset 0 (.op .fdiv (.cons (.dget 0) (.cons (.var 1) .nil)))) (.seq (.ret (.var 2)) .skip))) .skip) (.seq (.dset 1 (.op .add (.cons (.dget 1) (.cons (.cst (.int 1)) .nil)))) (.seq (.ret (.op .mod (.cons (.op .fdiv (.cons (.call "_law_drawn" false 0 (.cons (.dget 0) (.cons (.dget 1) .nil)) .nil) (.cons (.cst (.int 8)) .nil))) (.cons (.var 1) .nil)))) .skip)))
def N__law_pot : List Str := ["dice", "pots"]
def md__law_pot : List Bool := [false, true]
def s__law_pot : Sm := (.seq (.asg 1 (.op .lstd (.cons (.op .lstd (.cons (.cst (.str [97])) (.cons (.cst (.str [98])) .nil))) (.cons (.op .lstd (.cons (.cst (.str [97])) (.cons (.cst (.str [98])) (.cons (.cst (.str [99])) (.cons (.cst (.str [100])) .nil))))) .nil)))) (.seq (.asg 1 (.op .add (.cons (.var 1) (.cons (.op .lstd (.cons (.op .lstd (.cons (.cst (.str [97])) (.cons (.cst (.str [98])) (.cons (.cst (.str [99])) (.cons (.cst (.str [100])) (.cons (.cst (.str [101])) (.cons (.cst (.str [102])) (.cons (.cst (.str [103])) (.cons (.cst (.str [104])) (.cons (.cst (.str [105])) (.cons (.cst (.str [106])) (.cons (.cst (.str [107])) (.cons (.cst (.str [109])) .nil))))))))))))) .nil)) .nil)))) (.seq (.app 1 (.op .lstd (.cons (.cst (.str [97, 32, 98])) (.cons (.cst (.str [97, 32, 32, 98])) (.cons (.cst (.str [32, 97, 32, 98])) (.cons (.cst (.str [65, 32, 66])) (.cons (.cst (.str [97, 98])) (.cons (.cst (.str [120])) (.cons (.cst (.str [])) (.cons (.cst (.str [32])) .nil)))))))))) (.seq (.ret (.op .idx (.cons (.var 1) (.cons (.call "_law_roll" true 0 (.cons (.cst (.int 4)) .nil) .nil) .nil)))) .skip))))
def N__law_draw : List Str := ["dice", "pot", "most", "turn"]
def md__law_draw : List Bool := []
def s__law_draw : Sm := (.seq (.ret (.comp [3] (.nm 3) (.op (.rng 1) (.cons (.call "_law_roll" true 0 (.cons (.op .add (.cons (.var 2) (.cons (.cst (.int 1)) .nil))) .nil) .nil) .nil)) (.cst (.bl true)) (.op .idx (.cons (.var 1) (.cons (.call "_law_roll" true 0 (.cons (.op .len (.cons (.var 1) .nil)) .nil) .nil) .nil))))) .skip)
def N__law_near : List Str := ["dice", "rows", "pot", "found", "turn", "kind", "at", "end", "block", "rest", "to"]
def md__law_near : List Bool := []
def s__law_near : Sm := (.seq (.asg 3 (.op .list (.cons (.var 1) .nil))) (.seq (.fr (.nm 4) (.op (.rng 1) (.cons (.op .add (.cons (.cst (.int 1)) (.cons (.call "_law_roll" true 0 (.cons (.cst (.int 4)) .nil) .nil) .nil))) .nil)) (.seq (.par [5, 6] (.cons (.call "_law_roll" true 0 (.cons (.cst (.int 4)) .nil) .nil) (.cons (.call "_law_roll" true 0 (.cons (.op .add (.cons (.op .len (.cons (.var 3) .nil)) (.cons (.cst (.int 1)) .nil))) .nil) .nil) .nil))) (.seq (.iff (.op .lt (.cons (.var 5) (.cons (.cst (.int 2)) .nil))) (.seq (.asg 3 (.op .add (.cons (.op (.slc false true) (.cons (.var 3) (.cons (.var 6) .nil))) (.cons (.op (.slc true false) (.cons (.var 3) (.cons (.op .add (.cons (.op .add (.cons (.var 6) (.cons (.cst (.int 1)) .nil))) (.cons (.call "_law_roll" true 0 (.cons (.cst (.int 2)) .nil) .nil) .nil))) .nil))) .nil)))) .skip) .skip) (.seq (.iff (.and (.op .eq (.cons (.var 5) (.cons (.cst (.int 2)) .nil))) (.op .lt (.cons (.op .len (.cons (.var 3) .nil)) (.cons (.cst (.int 14)) .nil)))) (.seq (.asg 3 (.op .add (.cons (.op .add (.cons (.op (.slc false true) (.cons (.var 3) (.cons (.var 6) .nil))) (.cons (.op .lstd (.cons (.op .idx (.cons (.var 2) (.cons (.call "_law_roll" true 0 (.cons (.op .len (.cons (.var 2) .nil)) .nil) .nil) .nil))) .nil)) .nil))) (.cons (.op (.slc true false) (.cons (.var 3) (.cons (.var 6) .nil))) .nil)))) .skip) .skip) (.seq (.iff (.op .eq (.cons (.var 5) (.cons (.cst (.int 3)) .nil))) (.seq (.asg 7 (.op .add (.cons (.op .add (.cons (.var 6) (.cons (.cst (.int 1)) .nil))) (.cons (.call "_law_roll" true 0 (.cons (.cst (.int 3)) .nil) .nil) .nil)))) (.seq (.asg 8 (.op (.slc true true) (.cons (.var 3) (.cons (.var 6) (.cons (.var 7) .nil))))) (.seq (.asg 9 (.op .add (.cons (.op (.slc false true) (.cons (.var 3) (.cons (.var 6) .nil))) (.cons (.op (.slc true false) (.cons (.var 3) (.cons (.var 7) .nil))) .nil)))) (.seq (.asg 10 (.call "_law_roll" true 0 (.cons (.op .add (.cons (.op .len (.cons (.var 9) .nil)) (.cons (.cst (.int 1)) .nil))) .nil) .nil)) (.seq (.asg 3 (.op .add (.cons (.op .add (.cons (.op (.slc false true) (.cons (.var 9) (.cons (.var 10) .nil))) (.cons (.var 8) .nil))) (.cons (.op (.slc true false) (.cons (.var 9) (.cons (.var 10) .nil))) .nil)))) .skip))))) .skip) .skip))))) (.seq (.ret (.var 3)) .skip)))
theorem log_lt {a : Int} (h : a.natAbs < 2 ^ 400) : a.natAbs.log2 < 400 := by
  by_cases h0 : a.natAbs = 0
  · rw [h0]; decide
  · exact (Nat.log2_lt h0).mpr h
theorem mul_ok {a b : Int} (ha : a.natAbs < 2 ^ 400) (hb : b.natAbs < 2 ^ 400) : dMul (.int a) (.int b) = some (.int (a * b)) := by
  rw [mul_int, if_pos]
  have := log_lt ha
  have := log_lt hb
  simp only [Bool.or_eq_true, decide_eq_true_eq]
  exact .inr (by omega)
theorem mul_right {a b : Int} (hb : b.natAbs < 18446744073709551616) : dMul (.int a) (.int b) = some (.int (a * b)) := by
  rw [mul_int, if_pos]
  simp only [Bool.or_eq_true, decide_eq_true_eq]
  exact .inl (.inr hb)
def dA : Int := 6364136223846793005
def dB : Int := 1442695040888963407
def dP : Int := 340282366920938463463374607431768211507
def dR : Int := 340282366920938463463374607431768211297
def dQ : Int := 18446744073709551557
def dr1 (a b : Int) : Int := (a * dA + (b + 1) * dB) % dP
def dr2 (a b : Int) : Int := dr1 a b * dr1 a b % dR
def dr3 (a b : Int) : Int := (dr2 a b % dQ + 1) * (dr2 a b / dQ + 1) * dr2 a b
def drawnF (a b : Int) : Int := dr3 a b % dP
def intD (d : D) : Option Int := match d with
  | .int s => some s
  | _ => none
@[simp] theorem intD_at (s : Int) : intD (.int s) = some s := rfl
theorem intD_eq {d : D} {s : Int} (h : intD d = some s) : d = .int s := by
  cases d with
  | int x => cases h; rfl
  | _ => cases h
def fs__law_drawn : Fs := { np := 2, pats := [(2, [], none)], sem := fun ds δ => sem2 (fun a b => rO (intD a) fun x => rO (intD b) fun y => .ok (.int (drawnF x y)) δ) ds }
theorem sem__law_drawn {Γ : Glo} : Does Γ md__law_drawn 3 s__law_drawn fs__law_drawn := by
  intro ds δ h
  obtain ⟨d, e, rfl⟩ := sem2_of h
  obtain ⟨x, e1⟩ := rO_of (show rO (intD d) _ ≠ .stk from h)
  have h2 := h
  simp only [fs__law_drawn, sem2_at, e1, rO_some] at h2
  obtain ⟨y, e2⟩ := rO_of h2
  cases intD_eq e1
  cases intD_eq e2
  refine ⟨0, runF_of ?_⟩
  show Wp (exS Γ [] false 0 s__law_drawn [some (.int x), some (.int y), none] δ) _
  have b1 : 0 ≤ dr1 x y ∧ dr1 x y < dP := ⟨Int.emod_nonneg _ (by decide), Int.emod_lt_of_pos _ (by decide)⟩
  have b2 : 0 ≤ dr2 x y ∧ dr2 x y < dR := ⟨Int.emod_nonneg _ (by decide), Int.emod_lt_of_pos _ (by decide)⟩
  have b3 : 0 ≤ dr2 x y % dQ ∧ dr2 x y % dQ < dQ := ⟨Int.emod_nonneg _ (by decide), Int.emod_lt_of_pos _ (by decide)⟩
  have b4 : 0 ≤ dr2 x y / dQ ∧ dr2 x y / dQ < dR := ⟨Int.ediv_nonneg b2.1 (by decide), by
    have : dr2 x y / dQ ≤ dr2 x y := Int.ediv_le_self _ b2.1
    omega⟩
  have m1 : dMul (.int x) (.int 6364136223846793005) = some (.int (x * dA)) := mul_right (by decide)
  have m2 : dMul (.int (y + 1)) (.int 1442695040888963407) = some (.int ((y + 1) * dB)) := mul_right (by decide)
  have c1 : (dr1 x y).natAbs < 2 ^ 400 := by
    have : (dr1 x y).natAbs < 2 ^ 130 := by have := b1; unfold dP at this; omega
    exact Nat.lt_of_lt_of_le this (Nat.pow_le_pow_right (by decide) (by decide))
  have c2 : (dr2 x y).natAbs < 2 ^ 400 := by
    have : (dr2 x y).natAbs < 2 ^ 130 := by have := b2; unfold dR at this; omega
    exact Nat.lt_of_lt_of_le this (Nat.pow_le_pow_right (by decide) (by decide))
  have c3 : (dr2 x y % dQ + 1).natAbs < 2 ^ 130 := by have := b3; unfold dQ at this ⊢; omega
  have c4 : (dr2 x y / dQ + 1).natAbs < 2 ^ 130 := by have := b4; unfold dR at this; omega
  have c3' : (dr2 x y % dQ + 1).natAbs < 2 ^ 400 := Nat.lt_of_lt_of_le c3 (Nat.pow_le_pow_right (by decide) (by decide))
  have c4' : (dr2 x y / dQ + 1).natAbs < 2 ^ 400 := Nat.lt_of_lt_of_le c4 (Nat.pow_le_pow_right (by decide) (by decide))
  have c5 : ((dr2 x y % dQ + 1) * (dr2 x y / dQ + 1)).natAbs < 2 ^ 400 := by
    rw [Int.natAbs_mul]
    refine Nat.lt_of_lt_of_le (Nat.mul_lt_mul'' c3 c4) ?_
    rw [← Nat.pow_add]
    exact Nat.pow_le_pow_right (by decide) (by decide)
  have m3 := mul_ok c1 c1
  have m4 := mul_ok c3' c4'
  have m5 := mul_ok c5 c2
  have e1 : (x * dA + (y + 1) * dB) % 340282366920938463463374607431768211507 = dr1 x y := rfl
  have e2 : dr1 x y * dr1 x y % 340282366920938463463374607431768211297 = dr2 x y := rfl
  have e3 : dr2 x y % 18446744073709551557 = dr2 x y % dQ := rfl
  have e4 : dr2 x y / 18446744073709551557 = dr2 x y / dQ := rfl
  have lg : Nat.log2 18446744073709551557 < 9000 := by
    have := (Nat.log2_lt (n := 18446744073709551557) (k := 64) (by decide)).mpr (by decide)
    omega
  simp (decide := true) [s__law_drawn, m1, m2, e1, m3, e2, e3, e4, m4, m5, lg, fs__law_drawn]
  rfl
def rollR (δ : Dice) (many : Int) : Res D := if 10 ^ 18 ≤ δ.1 then .ok (.int (δ.1 % many)) (δ.1 / many, δ.2) else .ok (.int (drawnF δ.1 (δ.2.1 + 1) / 8 % many)) (δ.1, δ.2.1 + 1, δ.2.2)
def fs__law_roll : Fs := { dice := true, np := 2, pats := [(2, [], none)], sem := fun ds δ => sem1 (fun m => rO (intD m) fun many => if 0 < many ∧ many < 1000000000000 then rollR δ many else .stk) ds }
@[simp] theorem roll_dice : fs__law_roll.dice = true := id rfl
@[simp] theorem roll_pats : fs__law_roll.pats = [(2, [], none)] := id rfl
theorem roll_we {many : Int} {δ : Dice} {Q : D → Dice → Prop} {X : Exc → Dice → Prop} (h0 : 0 < many) (h1 : many < 1000000000000) (h : ∀ (n : Nat) δ', (n : Int) < many → Q (.int n) δ') : We (fs__law_roll.sem [.int many] δ) Q X := by
  simp only [fs__law_roll, sem1_at, intD_at, rO_some, h0, h1, and_self, if_true, rollR]
  split
  · have a1 := Int.emod_nonneg δ.1 (show many ≠ 0 by omega)
    have a2 := Int.emod_lt_of_pos δ.1 h0
    have := h (δ.1 % many).toNat (δ.1 / many, δ.2) (by omega)
    rw [Int.toNat_of_nonneg a1] at this
    exact this
  · have a1 := Int.emod_nonneg (drawnF δ.1 (δ.2.1 + 1) / 8) (show many ≠ 0 by omega)
    have a2 := Int.emod_lt_of_pos (drawnF δ.1 (δ.2.1 + 1) / 8) h0
    have := h (drawnF δ.1 (δ.2.1 + 1) / 8 % many).toNat (δ.1, δ.2.1 + 1, δ.2.2) (by omega)
    rw [Int.toNat_of_nonneg a1] at this
    exact this
theorem sem__law_roll {Γ : Glo} (h1 : Γ.fn "_law_drawn" = some fs__law_drawn) : Does Γ md__law_roll 3 s__law_roll fs__law_roll := by
  intro ds δ h
  obtain ⟨d, rfl⟩ := sem1_of h
  obtain ⟨many, e1⟩ := rO_of (show rO (intD d) _ ≠ .stk from h)
  have h2 := h
  simp only [fs__law_roll, sem1_at, e1, rO_some] at h2
  cases intD_eq e1
  by_cases hc : 0 < many ∧ many < 1000000000000
  case neg => rw [if_neg hc] at h2; exact absurd rfl h2
  refine ⟨0, runF_of ?_⟩
  show Wp (exS Γ [] false 0 s__law_roll [none, some (.int many), none] δ) _
  have lg : many.natAbs.log2 < 9000 := by
    have := (Nat.log2_lt (n := many.natAbs) (k := 40) (by omega)).mpr (by omega)
    omega
  have lg8 : Nat.log2 8 < 9000 := by decide
  have hp : (10 : Int) ^ 18 = 1000000000000000000 := by decide
  by_cases hd : (1000000000000000000 : Int) ≤ δ.1
  · simp (decide := true) [s__law_roll, fs__law_roll, hc, rollR, hp, hd, lg]
  · have hd' : δ.1 < 1000000000000000000 := by omega
    simp (decide := true) [s__law_roll, fs__law_roll, hc, rollR, hp, hd, hd', lg, h1, fs__law_drawn, lg8]
def pots : List (List (List Nat)) := [[[97], [98]], [[97], [98], [99], [100]], [[97], [98], [99], [100], [101], [102], [103], [104], [105], [106], [107], [109]], [[97, 32, 98], [97, 32, 32, 98], [32, 97, 32, 98], [65, 32, 66], [97, 98], [120], [], [32]]]
def fs__law_pot (Γ : Glo) : Fs := { dice := true, np := 1, pats := [(1, [], none)], sem := fun ds δ => runF Γ md__law_pot false 2 true s__law_pot 0 ds δ }
@[simp] theorem pot_dice (Γ : Glo) : (fs__law_pot Γ).dice = true := id rfl
@[simp] theorem pot_pats (Γ : Glo) : (fs__law_pot Γ).pats = [(1, [], none)] := id rfl
theorem pot_we {Γ : Glo} (h1 : Γ.fn "_law_roll" = some fs__law_roll) {δ : Dice} {Q : D → Dice → Prop} {X : Exc → Dice → Prop} (h : ∀ pot δ', pot ∈ pots → Q (rowsD pot) δ') : We ((fs__law_pot Γ).sem [] δ) Q X := by
  refine runF_we ?_
  show Wp (exS Γ [false, true] false 0 s__law_pot [none, none] δ) _
  have hl : ∀ ds : List D, ds.length ≤ 12 → opv .lstd ds = some (.lst ds) := fun ds h => by rw [o_lstd, if_pos (by omega)]
  simp [s__law_pot, hl, h1]
  refine roll_we (many := 4) (by decide) (by decide) fun n δ' hn => ?_
  have : n < 4 := by omega
  match n, this with
  | 0, _ => exact h (pots.getD 0 []) δ' (by decide)
  | 1, _ => exact h (pots.getD 1 []) δ' (by decide)
  | 2, _ => exact h (pots.getD 2 []) δ' (by decide)
  | 3, _ => exact h (pots.getD 3 []) δ' (by decide)
def fs__law_draw (Γ : Glo) : Fs := { dice := true, np := 3, pats := [(3, [], none)], sem := fun ds δ => runF Γ md__law_draw false 4 true s__law_draw 0 ds δ }
@[simp] theorem draw_dice (Γ : Glo) : (fs__law_draw Γ).dice = true := id rfl
@[simp] theorem draw_pats (Γ : Glo) : (fs__law_draw Γ).pats = [(3, [], none)] := id rfl
theorem rngL_len (lo : Int) (n : Nat) : (rngL lo n).length = n := by simp [rngL]
theorem atI_mem {pot : List (List Nat)} {n : Nat} (h : n < pot.length) : ∃ r ∈ pot, atI (pot.map D.str) (n : Int) = some (.str r) :=
  ⟨pot[n], List.getElem_mem h, atI_nat (by rw [List.getElem?_map, List.getElem?_eq_getElem h]; rfl)⟩
theorem rows_of {pot : List (List Nat)} : ∀ {xs : List D}, (∀ x ∈ xs, ∃ r ∈ pot, x = .str r) → ∃ l : List (List Nat), xs = l.map .str ∧ ∀ r ∈ l, r ∈ pot
  | [], _ => ⟨[], rfl, fun r hr => by cases hr⟩
  | x :: xs, h => by
    obtain ⟨r, hr, rfl⟩ := h x (List.mem_cons_self ..)
    obtain ⟨l, e, hl⟩ := rows_of (xs := xs) fun x hx => h x (List.mem_cons_of_mem _ hx)
    exact ⟨r :: l, by rw [e]; rfl, fun r' h' => by rcases List.mem_cons.mp h' with rfl | h'; exact hr; exact hl r' h'⟩
theorem draw_we {Γ : Glo} (h1 : Γ.fn "_law_roll" = some fs__law_roll) {δ : Dice} {Q : D → Dice → Prop} {X : Exc → Dice → Prop} {pot : List (List Nat)} {most : Nat} (h0 : 0 < pot.length) (hp : pot.length ≤ 100) (hm : most ≤ 100)
    (h : ∀ l δ', l.length ≤ most → (∀ r ∈ l, r ∈ pot) → Q (rowsD l) δ') : We ((fs__law_draw Γ).sem [rowsD pot, .int most] δ) Q X := by
  refine runF_we ?_
  show Wp (exS Γ [] false 0 s__law_draw [none, some (.lst (pot.map .str)), some (.int most), none] δ) _
  simp [s__law_draw, h1]
  refine roll_we (by omega) (by omega) fun n δ' hn => ?_
  have sm : small (n : Int) = true := by simp [small]; omega
  simp [sm]
  refine compL_dice (fun _ x => ∃ r ∈ pot, x = .str r) _ _ _ (fun d _ δ => ⟨_, rfl, rfl, ?_⟩) fun xs δ2 hl ha => ?_
  · simp [h1]
    refine roll_we (by omega) (by omega) fun n δ' hn => ?_
    obtain ⟨r, hr, e⟩ := atI_mem (pot := pot) (n := n) (by omega)
    simp [e]
    exact hr
  · rw [rngL_len] at hl
    obtain ⟨l, rfl, hm⟩ := rows_of (pot := pot) (xs := xs) fun x hx => by
      obtain ⟨i, hi, e⟩ := List.getElem_of_mem hx
      exact ha i ((rngL 0 n)[i]'(by rw [rngL_len]; omega)) x (List.getElem?_eq_getElem _) (by rw [List.getElem?_eq_getElem hi, e])
    rw [List.length_map] at hl
    exact h l δ2 (by omega) hm
def fs__law_near (Γ : Glo) : Fs := { dice := true, np := 3, pats := [(3, [], none)], sem := fun ds δ => runF Γ md__law_near false 11 true s__law_near 0 ds δ }
@[simp] theorem near_dice (Γ : Glo) : (fs__law_near Γ).dice = true := id rfl
@[simp] theorem near_pats (Γ : Glo) : (fs__law_near Γ).pats = [(3, [], none)] := id rfl
theorem cut_map {α β : Type} (f : α → β) (l : List α) (lo hi : Option Int) : cutD (l.map f) lo hi = (cutD l lo hi).map f := by
  unfold cutD
  rw [List.length_map, ← List.map_drop, ← List.map_take]
theorem cut_lo {α : Type} (l : List α) (a : Nat) : cutD l (some (a : Int)) none = l.drop a := by
  unfold cutD
  rw [HT.sIx_nat, HT.sIx_none]
  by_cases h : a ≤ l.length
  · rw [Nat.min_eq_left h, List.take_of_length_le (by simp)]
  · rw [Nat.min_eq_right (by omega), List.drop_eq_nil_of_le (Nat.le_refl _), List.drop_eq_nil_of_le (by omega)]
    simp
theorem cut_hi {α : Type} (l : List α) (b : Nat) : cutD l none (some (b : Int)) = l.take b := by
  unfold cutD
  rw [HT.sIx_nat, HT.sIx_none, List.drop_zero, Nat.sub_zero]
  by_cases h : b ≤ l.length
  · rw [Nat.min_eq_left h]
  · rw [Nat.min_eq_right (by omega), List.take_of_length_le (Nat.le_refl _), List.take_of_length_le (by omega)]
theorem cut_both {α : Type} (l : List α) (a b : Nat) : cutD l (some (a : Int)) (some (b : Int)) = (l.drop a).take (b - a) := by
  unfold cutD
  rw [HT.sIx_nat, HT.sIx_nat]
  by_cases ha : a ≤ l.length
  · rw [Nat.min_eq_left ha]
    by_cases hb : b ≤ l.length
    · rw [Nat.min_eq_left hb]
    · rw [Nat.min_eq_right (show l.length ≤ b by omega), List.take_of_length_le (by simp), List.take_of_length_le (by simp; omega)]
  · rw [Nat.min_eq_right (show l.length ≤ a by omega), List.drop_eq_nil_of_le (Nat.le_refl _), List.drop_eq_nil_of_le (show l.length ≤ a by omega)]
    simp
theorem cut_sub {α : Type} (l : List α) (lo hi : Option Int) : (cutD l lo hi).Sublist l := (List.take_sublist _ _).trans (List.drop_sublist _ _)
def nearJ (m : Nat) (rows pot : List (List Nat)) (ρ : En) : Prop := ∃ (l : List (List Nat)) (b : Option D) (kind at_ : Nat) (e f g i : Option D), ρ = [none, some (rowsD rows), some (rowsD pot), some (rowsD l), b, some (.int kind), some (.int at_), e, f, g, i] ∧ l.length ≤ m ∧ ∀ r ∈ l, r ∈ pot ∨ r ∈ rows
def nearK (m : Nat) (rows pot : List (List Nat)) (ρ : En) : Prop := ∃ (l : List (List Nat)) (b c d e f g i : Option D), ρ = [none, some (rowsD rows), some (rowsD pot), some (rowsD l), b, c, d, e, f, g, i] ∧ l.length ≤ m ∧ ∀ r ∈ l, r ∈ pot ∨ r ∈ rows
theorem near_we {Γ : Glo} (h1 : Γ.fn "_law_roll" = some fs__law_roll) {δ : Dice} {Q : D → Dice → Prop} {X : Exc → Dice → Prop} {pot rows : List (List Nat)} {m : Nat} (h0 : 0 < pot.length) (hp : pot.length ≤ 100) (hm : rows.length ≤ m) (hm2 : 14 ≤ m) (hm3 : m ≤ 1000)
    (h : ∀ l δ', l.length ≤ m → (∀ r ∈ l, r ∈ pot ∨ r ∈ rows) → Q (rowsD l) δ') : We ((fs__law_near Γ).sem [rowsD rows, rowsD pot] δ) Q X := by
  refine runF_we ?_
  show Wp (exS Γ [] false 0 s__law_near [none, some (.lst (rows.map .str)), some (.lst (pot.map .str)), none, none, none, none, none, none, none, none] δ) _
  unfold s__law_near
  refine wp_cut (fun ρ _ => ρ = [none, some (rowsD rows), some (rowsD pot), some (rowsD rows), none, none, none, none, none, none, none]) (by simp [rowsD]) ?_
  rintro ρ δ rfl
  refine wp_cut (fun ρ _ => nearK m rows pot ρ) ?_ ?_
  · simp [h1]
    refine roll_we (by omega) (by omega) fun n δ' hn => ?_
    have sm : small (1 + (n : Int)) = true := by simp [small]; omega
    simp only [add_int, Wo_some, o_rng1, sm, if_true, items_lst, Wx_some]
    refine for_up (fun _ ρ _ => nearK m rows pot ρ) ⟨rows, _, _, _, _, _, _, _, rfl, hm, fun r hr => .inr hr⟩ (fun _ _ z => z) ?_
    rintro i ρ δ hi ⟨l, _, _, _, _, _, _, _, rfl, h2, h3⟩
    refine wp_cut (fun ρ _ => nearJ m rows pot ρ) ?_ ?_
    · simp [h1, rowsD]
      refine roll_we (by omega) (by omega) fun kind δ1 hk => ?_
      refine roll_we (by omega) (by omega) fun at_ δ2 ha => ?_
      exact ⟨l, _, kind, at_, _, _, _, _, rfl, h2, h3⟩
    rintro ρ δ ⟨l, _, kind, at_, _, _, _, _, rfl, h2, h3⟩
    refine wp_cut (fun ρ _ => nearJ m rows pot ρ) ?_ ?_
    · simp [h1, rowsD]
      split
      · refine roll_we (by omega) (by omega) fun n1 δ1 hn1 => ?_
        simp only [add_int, Wo_some, o_slc1, slc_lst, add_lst]
        rw [show (at_ : Int) + 1 + (n1 : Int) = ((at_ + 1 + n1 : Nat) : Int) by omega, cut_map, cut_map, cut_hi, cut_lo, if_pos (by simp; omega), Wo_some, ← List.map_append]
        refine ⟨_, _, kind, at_, _, _, _, _, rfl, by simp; omega, fun r hr => ?_⟩
        rcases List.mem_append.mp hr with hr | hr
        · exact h3 r (List.mem_of_mem_take hr)
        · exact h3 r (List.mem_of_mem_drop hr)
      · exact ⟨l, _, kind, at_, _, _, _, _, rfl, h2, h3⟩
    rintro ρ δ ⟨l, _, kind, at_, _, _, _, _, rfl, h2, h3⟩
    refine wp_cut (fun ρ _ => nearJ m rows pot ρ) ?_ ?_
    · simp only [rowsD, wp_iff, w_and, w_op, w_cons, w_nil, w_var, w_cst, List.getElem?_cons_zero, List.getElem?_cons_succ, Wv_some, Wt_tup, eq_int, Wo_some, Wb_bl, o_len, len_lst, Option.map_some, List.length_map, o_lt, lt_int, beq_iff_eq, decide_eq_true_eq]
      split
      · split
        · rename_i hk hl
          simp [h1]
          refine roll_we (by omega) (by omega) fun n1 δ1 hn1 => ?_
          obtain ⟨r, hr, e⟩ := atI_mem (pot := pot) (n := n1) (by omega)
          simp only [idx_lst, e, Wo_some]
          rw [cut_map, cut_map, cut_hi, cut_lo]
          refine ⟨by simp; omega, by simp; omega, ?_⟩
          rw [show (l.take at_).map D.str ++ D.str r :: (l.drop at_).map D.str = (l.take at_ ++ r :: l.drop at_).map D.str by simp]
          refine ⟨_, _, kind, at_, _, _, _, _, rfl, by simp; omega, fun r' hr' => ?_⟩
          rcases List.mem_append.mp hr' with hr' | hr'
          · exact h3 r' (List.mem_of_mem_take hr')
          · rcases List.mem_cons.mp hr' with rfl | hr'
            · exact .inl hr
            · exact h3 r' (List.mem_of_mem_drop hr')
        · simp
          exact ⟨l, _, kind, at_, _, _, _, _, rfl, h2, h3⟩
      · simp
        exact ⟨l, _, kind, at_, _, _, _, _, rfl, h2, h3⟩
    rintro ρ δ ⟨l, _, kind, at_, _, _, _, _, rfl, h2, h3⟩
    simp only [rowsD, wp_seq, wp_iff, w_op, w_cons, w_nil, w_var, w_cst, List.getElem?_cons_zero, List.getElem?_cons_succ, Wv_some, Wt_tup, eq_int, Wo_some, Wb_bl, beq_iff_eq]
    split
    · simp [h1]
      refine roll_we (by omega) (by omega) fun n1 δ1 hn1 => ?_
      simp [h1]
      rw [show (at_ : Int) + 1 + (n1 : Int) = ((at_ + 1 + n1 : Nat) : Int) by omega]
      simp only [cut_map, cut_hi, cut_lo, cut_both]
      refine ⟨by simp; omega, ?_⟩
      refine roll_we (by simp; omega) (by simp; omega) fun to δ2 hto => ?_
      simp only [o_slc2, slc_lst, Wo_some, add_lst, o_slc1, cut_hi, cut_lo]
      rw [if_pos (by simp; omega), Wo_some, add_lst, if_pos (by simp; omega), Wo_some]
      rw [show D.lst (List.take to (List.take at_ (List.map D.str l) ++ List.drop (at_ + 1 + n1) (List.map D.str l)) ++ List.take (at_ + 1 + n1 - at_) (List.drop at_ (List.map D.str l)) ++ List.drop to (List.take at_ (List.map D.str l) ++ List.drop (at_ + 1 + n1) (List.map D.str l))) = rowsD (((l.take at_ ++ l.drop (at_ + 1 + n1)).take to ++ (l.drop at_).take (at_ + 1 + n1 - at_)) ++ (l.take at_ ++ l.drop (at_ + 1 + n1)).drop to) by simp [rowsD, List.map_take, List.map_drop]]
      refine ⟨_, _, _, _, _, _, _, _, rfl, ?_, fun r hr => ?_⟩
      · simp; omega
      · have hR : ∀ r, r ∈ l.take at_ ++ l.drop (at_ + 1 + n1) → r ∈ pot ∨ r ∈ rows := fun r hr => by
          rcases List.mem_append.mp hr with hr | hr
          · exact h3 r (List.mem_of_mem_take hr)
          · exact h3 r (List.mem_of_mem_drop hr)
        rcases List.mem_append.mp hr with hr | hr
        · rcases List.mem_append.mp hr with hr | hr
          · exact hR r (List.mem_of_mem_take hr)
          · exact h3 r (List.mem_of_mem_drop (List.mem_of_mem_take hr))
        · exact hR r (List.mem_of_mem_drop hr)
    · simp
      exact ⟨l, _, _, _, _, _, _, _, rfl, h2, h3⟩
  · rintro ρ δ ⟨l, _, _, _, _, _, _, _, rfl, h2, h3⟩
    simp
    exact h l δ h2 h3
end DF
set_option Elab.async false
set_option linter.all false
set_option maxRecDepth 100000
set_option maxHeartbeats 400000
namespace DF
open PySem PySem.Spec L2 DC
def N__law_cell : List Str := ["script", "k"]
def md__law_cell : List Bool := []
def s__law_cell : Sm := (.seq (.iff (.op .eq (.cons (.var 0) (.cons (.op .lstd .nil) .nil))) (.seq (.ret (.op .mul (.cons (.var 1) (.cons (.cst (.int 7919)) .nil)))) .skip) .skip) (.seq (.ret (.op .add (.cons (.op .idx (.cons (.var 0) (.cons (.op .mod (.cons (.var 1) (.cons (.op .len (.cons (.var 0) .nil)) .nil))) .nil))) (.cons (.op .mul (.cons (.op .fdiv (.cons (.var 1) (.cons (.op .len (.cons (.var 0) .nil)) .nil))) (.cons (.cst (.int 104729)) .nil))) .nil)))) .skip))
def N__law_rounds : List Str := ["script", "most", "k"]
def md__law_rounds : List Bool := []
def s__law_rounds : Sm := (.seq (.ret (.comp [2] (.nm 2) (.op (.rng 1) (.cons (.op .max2 (.cons (.cst (.int 1)) (.cons (.op .min2 (.cons (.var 1) (.cons (.op .len (.cons (.var 0) .nil)) .nil))) .nil))) .nil)) (.cst (.bl true)) (.op .lstd (.cons (.call "_law_cell" false 0 (.cons (.var 0) (.cons (.var 2) .nil)) .nil) (.cons (.cst (.int 0)) .nil))))) .skip)

def scrD (d : D) : Option (List Int) := match d with
  | .scr s => some s
  | _ => none
@[simp] theorem scrD_at (s : List Int) : scrD (.scr s) = some s := rfl
theorem scrD_eq {d : D} {s : List Int} (h : scrD d = some s) : d = .scr s := by
  cases d with
  | scr x => cases h; rfl
  | _ => cases h
def cellF (ns : List Int) (k : Int) : Int := if ns = [] then k * 7919 else ns.getD (k % ns.length).toNat 0 + k / ns.length * 104729
def fs__law_cell : Fs := { np := 2, pats := [(2, [], none)], sem := fun ds δ => sem2 (fun a b => rO (scrD a) fun x => rO (intD b) fun y => if x.length ≤ 16777216 then .ok (.int (cellF x y)) δ else .stk) ds }
theorem sem__law_cell {Γ : Glo} : Does Γ md__law_cell 2 s__law_cell fs__law_cell := by
  intro ds δ h
  obtain ⟨d, e, rfl⟩ := sem2_of h
  obtain ⟨x, e1⟩ := rO_of (show rO (scrD d) _ ≠ .stk from h)
  have h2 := h
  simp only [fs__law_cell, sem2_at, e1, rO_some] at h2
  obtain ⟨y, e2⟩ := rO_of h2
  cases scrD_eq e1
  cases intD_eq e2
  simp only [intD_at, rO_some] at h2
  by_cases hl : x.length ≤ 16777216
  case neg => rw [if_neg hl] at h2; exact absurd rfl h2
  refine ⟨0, runF_of ?_⟩
  show Wp (exS Γ [] false 0 s__law_cell [some (.scr x), some (.int y)] δ) _
  have q : opv .eq [.scr x, .lst []] = some (.bl x.isEmpty) := rfl
  have m1 : ∀ a : Int, dMul (.int a) (.int 7919) = some (.int (a * 7919)) := fun a => mul_right (by decide)
  have m2 : ∀ a : Int, dMul (.int a) (.int 104729) = some (.int (a * 104729)) := fun a => mul_right (by decide)
  have ln : dLen (.scr x) = some x.length := rfl
  cases x with
  | nil => simp [s__law_cell, q, m1, fs__law_cell, cellF]
  | cons a r =>
    have hpos : (0 : Int) < ((a :: r).length : Int) := by simp only [List.length_cons]; omega
    have lg : (((a :: r).length : Int)).natAbs.log2 < 9000 := by
      have := (Nat.log2_lt (n := ((a :: r).length : Int).natAbs) (k := 40) (by omega)).mpr (by omega)
      omega
    have b1 := Int.emod_nonneg y (show ((a :: r).length : Int) ≠ 0 by omega)
    have b2 := Int.emod_lt_of_pos y hpos
    have hi : (y % ((a :: r).length : Int)).toNat < (a :: r).length := by omega
    have ix : dIdx (.scr (a :: r)) (.int (y % ((a :: r).length : Int))) = some (.int ((a :: r).getD (y % ((a :: r).length : Int)).toNat 0)) := by
      show (atI (a :: r) (y % ((a :: r).length : Int))).map D.int = _
      have := atI_nat (xs := a :: r) (j := (y % ((a :: r).length : Int)).toNat) (List.getElem?_eq_getElem hi)
      rw [Int.toNat_of_nonneg b1] at this
      rw [this, List.getD_eq_getElem?_getD, List.getElem?_eq_getElem hi]
      rfl
    have q' : opv .eq [.scr (a :: r), .lst []] = some (.bl false) := rfl
    simp only [s__law_cell, wp_seq, wp_iff, w_op, w_cons, w_nil, w_var, w_cst, List.getElem?_cons_zero, List.getElem?_cons_succ, Wv_some, Wt_tup, o_lstd0, Wo_some, q', Wb_bl, Bool.false_eq_true, if_false, wp_skip, wp_ret, retOk_f, true_and, o_idx, o_mod, o_len, ln, Option.map_some, hpos, if_true, ix, o_mul, o_fdiv, lg, and_self, m2, o_add, add_int, Pr_rt]
    simp [fs__law_cell, cellF] at hl ⊢
    omega
theorem rounds_sem {Γ : Glo} (h1 : Γ.fn "_law_cell" = some fs__law_cell) (ns : List Int) (most : Int) (hl : ns.length ≤ sizeLine) : ∃ d δ1, ev Γ (.op (.rng 1) (.cons (.op .max2 (.cons (.cst (.int 1)) (.cons (.op .min2 (.cons (.var 1) (.cons (.op .len (.cons (.var 0) .nil)) .nil))) .nil))) .nil)) ([some (.scr ns), some (.int most)] ++ List.replicate (3 - 2) none) (0, 0, []) = .ok d δ1 ∧
      ∃ (ds : List D) (cells : List Int) (δ2 : Dice), d.items = some ds ∧ compL (bindP (.nm 2)) (ev Γ (.cst (.bl true))) (ev Γ (.op .lstd (.cons (.call "_law_cell" false 0 (.cons (.var 0) (.cons (.var 2) .nil)) .nil) (.cons (.cst (.int 0)) .nil)))) (wipeE ([some (.scr ns), some (.int most)] ++ List.replicate (3 - 2) none) [2]) ds δ1 = .ok (cells.map fun i : Int => D.lst [.int i, .int 0]) δ2 := by
  rw [szl] at hl
  have ln : dLen (.scr ns) = some ns.length := rfl
  have hρ : ([some (.scr ns), some (.int most)] ++ List.replicate (3 - 2) none : En) = [some (.scr ns), some (.int most), none] := rfl
  rw [hρ]
  let a : Int := if (ns.length : Int) < most then (ns.length : Int) else most
  let b : Int := if a > 1 then a else 1
  have hb : small b = true := by
    have : b ≤ 16777216 ∧ 1 ≤ b := by simp only [a, b]; split <;> (try split) <;> omega
    simp [small]; omega
  have e1 : We (ev Γ (.op (.rng 1) (.cons (.op .max2 (.cons (.cst (.int 1)) (.cons (.op .min2 (.cons (.var 1) (.cons (.op .len (.cons (.var 0) .nil)) .nil))) .nil))) .nil)) [some (.scr ns), some (.int most), none] (0, 0, [])) (fun d δ => d = .lst (rngL 0 b.toNat) ∧ δ = (0, 0, [])) (fun _ _ => False) := by
    simp only [w_op, w_cons, w_nil, w_var, w_cst, List.getElem?_cons_zero, List.getElem?_cons_succ, Wv_some, Wt_tup, o_len, ln, Option.map_some, Wo_some, o_min2, o_max2, o_rng, o_rng1]
    rw [show (if (if (ns.length : Int) < most then (ns.length : Int) else most) > 1 then (if (ns.length : Int) < most then (ns.length : Int) else most) else 1) = b from rfl, hb]
    simp
  have key : ∀ {r : Res D} {v : D} {δ : Dice}, We r (fun d δ' => d = v ∧ δ' = δ) (fun _ _ => False) → r = .ok v δ := fun {r v δ} h => by
    cases r with
    | ok d δ' => obtain ⟨rfl, rfl⟩ := h; rfl
    | exc _ _ => exact h.elim
    | stk => exact h.elim
  refine ⟨_, _, key e1, _, (List.range b.toNat).map fun i : Nat => cellF ns (0 + (i : Int)), (0, 0, []), rfl, ?_⟩
  have w : Wl (compL (bindP (.nm 2)) (ev Γ (.cst (.bl true))) (ev Γ (.op .lstd (.cons (.call "_law_cell" false 0 (.cons (.var 0) (.cons (.var 2) .nil)) .nil) (.cons (.cst (.int 0)) .nil)))) (wipeE [some (.scr ns), some (.int most), none] [2]) (rngL 0 b.toNat) (0, 0, [])) fun xs δ => xs = (List.range b.toNat).map (fun i : Nat => D.lst [.int (cellF ns (0 + (i : Int))), .int 0]) ∧ δ = (0, 0, []) := by
    unfold rngL
    refine compA _ (fun _ => true) (fun i : Nat => D.lst [.int (cellF ns (0 + (i : Int))), .int 0]) (fun i _ => ⟨_, rfl, by simp, fun _ => ?_⟩) ⟨by rw [filt_true], rfl⟩
    simp [h1, fs__law_cell, hl]
  rw [List.map_map]
  cases e : compL (bindP (.nm 2)) (ev Γ (.cst (.bl true))) (ev Γ (.op .lstd (.cons (.call "_law_cell" false 0 (.cons (.var 0) (.cons (.var 2) .nil)) .nil) (.cons (.cst (.int 0)) .nil)))) (wipeE [some (.scr ns), some (.int most), none] [2]) (rngL 0 b.toNat) (0, 0, []) with
  | ok xs δ => rw [e] at w; obtain ⟨rfl, rfl⟩ := w; rfl
  | exc _ _ => rw [e] at w; exact w.elim
  | stk => rw [e] at w; exact w.elim
end DF
set_option Elab.async false
set_option linter.all false
set_option maxRecDepth 100000
set_option maxHeartbeats 400000
namespace DF
open PySem PySem.Spec L2 DC
theorem hrun_of {Γ : Glo} {md : List Bool} {s : Sm} {ρ : En} {δ : Dice} {m : Nat} (h : Wp (exS Γ md false m s ρ δ) ⟨fun _ _ => True, fun _ _ => True, fun _ _ => False, fun _ _ => False⟩) : ∃ m ρ' δ', exS Γ md false m s ρ δ = .nx ρ' δ' ∨ exS Γ md false m s ρ δ = .ct ρ' δ' := by
  cases e : exS Γ md false m s ρ δ with
  | nx ρ' δ' => exact ⟨m, ρ', δ', .inl e⟩
  | ct ρ' δ' => exact ⟨m, ρ', δ', .inr e⟩
  | rt d δ' => rw [e] at h; exact h.elim
  | ex x δ' => rw [e] at h; exact h.elim
  | stk => rw [e] at h; exact h.elim
theorem ar_of {x : List (List Nat)} (h : ∀ r ∈ x, rowB r = true) (hl : x.length ≤ 60) : areRowsD (rowsD x) = some true := by
  simp [areRowsD, rowsD, hl, List.all_map]
  intro r hr
  exact h r hr
theorem pot_rows {pot : List (List Nat)} (h : pot ∈ pots) : (∀ r ∈ pot, rowB r = true) ∧ pot.Nodup ∧ 0 < pot.length ∧ pot.length ≤ 100 ∧ [110, 101, 119] ∉ pot := by
  revert pot
  decide
theorem strsOf_app (a b : List D) : strsOf (a ++ b) = (strsOf a).bind fun x => (strsOf b).map fun y => x ++ y := by
  induction a with
  | nil => simp [strsOf]
  | cons d r ih =>
    cases d with
    | str s => simp only [List.cons_append, strsOf, ih]; cases strsOf r <;> cases strsOf b <;> rfl
    | _ => rfl
@[simp] theorem keyF_all (s : List Nat) : keyF s sAll = s := by simp [keyF]
theorem least_at {x y : List (List Nat)} {δ : Dice} (h1 : areRowsD (rowsD x) = some true) (h2 : areRowsD (rowsD y) = some true) : fs_least_cost.sem [rowsD x, rowsD y, .str sAll] δ = .ok (.int (leastF x y)) δ := by
  have h3 : looks.contains sAll = true := by decide
  simp only [fs_least_cost, sem3_at, strsD_at, strD_at, rO_some, h1, h2, h3, and_self, if_true, keyF_all, List.map_id']
@[simp] theorem lc_dice : fs_least_cost.dice = false := id rfl
@[simp] theorem lc_pats : fs_least_cost.pats = [(2, [], some [Sum.inl 0, Sum.inl 1, Sum.inr (D.str sAll)]), (2, [("look" : Str)], none)] := id rfl
theorem draw_weI {Γ : Glo} (h1 : Γ.fn "_law_roll" = some fs__law_roll) {δ : Dice} {Q : D → Dice → Prop} {X : Exc → Dice → Prop} {pot : List (List Nat)} {most : Int} (h0 : 0 < pot.length) (hp : pot.length ≤ 100) (hm0 : 0 ≤ most) (hm : most ≤ 100)
    (h : ∀ l δ', (l.length : Int) ≤ most → (∀ r ∈ l, r ∈ pot) → Q (rowsD l) δ') : We ((fs__law_draw Γ).sem [rowsD pot, .int most] δ) Q X := by
  obtain ⟨n, rfl⟩ := Int.eq_ofNat_of_zero_le hm0
  exact draw_we h1 h0 hp (by omega) fun l δ' hl hr => h l δ' (by omega) hr
@[simp] theorem arrG_lc (a b : D) : arrG (some [Sum.inl 0, Sum.inl 1, Sum.inr (D.str sAll)]) [a, b] = some [a, b, .str sAll] := id rfl
end DF
set_option Elab.async false
set_option linter.all false
set_option maxRecDepth 100000
set_option maxHeartbeats 400000
namespace DF
open PySem PySem.Spec L2 DC
theorem wp_if {Γ : Glo} {md : List Bool} {fr : Bool} {n : Nat} {t : Ex} {a b : Sm} {ρ : En} {δ : Dice} {P : Post} (G : Bool → Dice → Prop) (hc : We (ev Γ t ρ δ) (fun d δ1 => ∃ k, d = .bl k ∧ G k δ1) P.ex) (ht : ∀ δ1, G true δ1 → Wp (exS Γ md fr n a ρ δ1) P) (hf : ∀ δ1, G false δ1 → Wp (exS Γ md fr n b ρ δ1) P) : Wp (exS Γ md fr n (.iff t a b) ρ δ) P := by
  rw [wp_iff]
  refine hc.mono (fun d δ1 q => ?_) fun _ _ z => z
  obtain ⟨k, rfl, q⟩ := q
  cases k
  · exact hf δ1 q
  · exact ht δ1 q
theorem eqvs_rows : ∀ (x y : List (List Nat)), eqvs (x.map D.str) (y.map D.str) = decide (x = y)
  | [], [] => rfl
  | [], b :: y => by simp
  | a :: x, [] => by simp
  | a :: x, b :: y => by
    simp only [List.map_cons, eqvs_cons, eqv_str, eqvs_rows x y]
    by_cases h : a = b <;> by_cases h' : x = y <;> simp [h, h']
theorem deps_rows : ∀ (x : List (List Nat)), deps (x.map D.str) = some 0
  | [] => rfl
  | a :: x => by simp [deps, deps_rows x, D.dep]
@[simp] theorem eq_rows (x y : List (List Nat)) : opv .eq [rowsD x, rowsD y] = some (.bl (decide (x = y))) := by
  have h : ∀ x : List (List Nat), (D.lst (x.map D.str)).shp = true := fun x => by simp [D.shp, D.dep, deps_rows]
  show (if ((D.lst (x.map D.str)).shp && (D.lst (y.map D.str)).shp) = true then some (D.bl (eqvs (x.map D.str) (y.map D.str))) else _) = _
  rw [h, h, eqvs_rows]; rfl
@[simp] theorem ne_rows (x y : List (List Nat)) : opv .ne [rowsD x, rowsD y] = some (.bl (!decide (x = y))) := by
  have h : ∀ x : List (List Nat), (D.lst (x.map D.str)).shp = true := fun x => by simp [D.shp, D.dep, deps_rows]
  show (if ((D.lst (x.map D.str)).shp && (D.lst (y.map D.str)).shp) = true then some (D.bl (!eqvs (x.map D.str) (y.map D.str))) else _) = _
  rw [h, h, eqvs_rows]; rfl

@[simp] theorem len_rows (x : List (List Nat)) : dLen (rowsD x) = some x.length := by simp [rowsD]
@[simp] theorem revs_rows (x : List (List Nat)) : opv .revs [rowsD x] = some (rowsD x.reverse) := by
  show some (D.lst (x.map D.str).reverse) = _
  rw [← List.map_reverse]; rfl
@[simp] theorem items_rows (x : List (List Nat)) : (rowsD x).items = some (x.map D.str) := rfl
@[simp] theorem add_rows (x y : List (List Nat)) : dAdd (rowsD x) (rowsD y) = if x.length + y.length ≤ 16777216 then some (rowsD (x ++ y)) else none := by
  show (if (x.map D.str).length + (y.map D.str).length ≤ 16777216 then some (D.lst (x.map D.str ++ y.map D.str)) else none) = _
  rw [← List.map_append, List.length_map, List.length_map]; rfl
theorem atI_map {α β : Type} (f : α → β) (l : List α) (i : Int) : atI (l.map f) i = (atI l i).map f := by
  unfold atI
  rw [List.length_map]
  cases ixN l.length i with
  | none => rfl
  | some j => simp
@[simp] theorem idx_rows (x : List (List Nat)) (i : Int) : dIdx (rowsD x) (.int i) = (atI x i).map .str := atI_map _ _ _
@[simp] theorem list_rows (x : List (List Nat)) : opv .list [rowsD x] = some (rowsD x) := rfl
@[simp] theorem tuple_rows (x : List (List Nat)) : opv .tuple [rowsD x] = some (.tup (x.map .str)) := rfl
@[simp] theorem slc_rows (x : List (List Nat)) (lo hi : Option Int) : dSlc (rowsD x) lo hi = some (rowsD (cutD x lo hi)) := by
  show some (D.lst (cutD (x.map D.str) lo hi)) = _
  rw [cut_map]; rfl
end DF
set_option Elab.async false
set_option linter.all false
set_option maxRecDepth 100000
set_option maxHeartbeats 400000
namespace DF
open PySem PySem.Spec L2 DC
def fl (acc : List Nat) : List (List Nat) := if acc = [] then [] else [acc]
def ws : List Nat → List Nat → List (List Nat)
  | acc, [] => fl acc
  | acc, c :: r => if c = 32 then fl acc ++ ws [] r else ws (acc ++ [c]) r
def RR : List Nat → List Nat
  | [] => []
  | [c] => [c]
  | c :: d :: r => if c = 32 ∧ d = 32 then 32 :: RR r else c :: RR (d :: r)
def DD : List Nat → Bool
  | [] => false
  | [c] => false
  | c :: d :: r => if c = 32 ∧ d = 32 then true else DD (d :: r)
theorem words_ws : ∀ (s acc : List Nat), (TL.spl [32] 0 acc s).filter (fun w => !(w == [])) = ws acc s
  | [], acc => by
    rw [TL.spl_nil]
    unfold ws fl
    by_cases h : acc = [] <;> simp [h]
  | c :: r, acc => by
    by_cases h : c = 32
    · subst h
      rw [TL.spl_hit (by simp [TL.pre])]
      simp only [ws, if_true, List.filter_cons]
      rw [show ([32] : List Nat).length - 1 = 0 from rfl, words_ws r []]
      unfold fl
      by_cases h : acc = [] <;> simp [h]
    · rw [TL.spl_miss (by simp [TL.pre, h])]
      simp only [ws, h, if_false]
      exact words_ws r (acc ++ [c])
theorem wordsOf_ws (s : List Nat) : wordsOf s = ws [] s := words_ws s []
theorem pre2 (c d : Nat) (r : List Nat) : TL.pre [32, 32] (c :: d :: r) = decide (c = 32 ∧ d = 32) := by
  simp only [TL.pre, List.length_cons, List.length_nil, List.take_succ_cons, List.take_zero]
  by_cases h1 : c = 32 <;> by_cases h2 : d = 32 <;> simp [h1, h2]
theorem spl_ne (S : List Nat) : ∀ (s acc : List Nat) (k : Nat), TL.spl S k acc s ≠ []
  | [], acc, k => by rw [TL.spl_nil]; simp
  | c :: r, acc, 0 => by
    simp only [TL.spl]
    split
    · simp
    · exact spl_ne S r _ 0
  | c :: r, acc, k + 1 => by
    simp only [TL.spl]
    exact spl_ne S r _ k
theorem join_cons (S p : List Nat) {L : List (List Nat)} (h : L ≠ []) : TL.joinL S (p :: L) = p ++ (S ++ TL.joinL S L) := by
  cases L with
  | nil => exact absurd rfl h
  | cons q r => rfl
theorem spl_two (acc : List Nat) (r : List Nat) : TL.spl [32, 32] 0 acc (32 :: 32 :: r) = acc :: TL.spl [32, 32] 0 [] r := by
  rw [TL.spl_hit (by rw [pre2]; rfl)]
  rfl
theorem spl_two' {c d : Nat} (acc : List Nat) (r : List Nat) (h : ¬ (c = 32 ∧ d = 32)) : TL.spl [32, 32] 0 acc (c :: d :: r) = TL.spl [32, 32] 0 (acc ++ [c]) (d :: r) := by
  rw [TL.spl_miss (by rw [pre2]; simpa using h)]
theorem spl_one (acc : List Nat) (c : Nat) : TL.spl [32, 32] 0 acc [c] = [acc ++ [c]] := by
  rw [TL.spl_miss (by simp [TL.pre]), TL.spl_nil]
theorem join_RR (s acc : List Nat) : TL.joinL [32] (TL.spl [32, 32] 0 acc s) = acc ++ RR s := by
  induction s using RR.induct generalizing acc with
  | case1 => rw [TL.spl_nil]; simp [TL.joinL, RR]
  | case2 c => rw [spl_one]; rfl
  | case3 c d r h ih =>
    obtain ⟨rfl, rfl⟩ := h
    rw [spl_two, join_cons _ _ (spl_ne _ _ _ _), ih]
    simp [RR]
  | case4 c d r h ih =>
    rw [spl_two' _ _ h, ih]
    simp [RR, h]
theorem spl_DD (s acc : List Nat) : decide (2 ≤ (TL.spl [32, 32] 0 acc s).length) = DD s := by
  induction s using RR.induct generalizing acc with
  | case1 => rw [TL.spl_nil]; rfl
  | case2 c => rw [spl_one]; rfl
  | case3 c d r h ih =>
    obtain ⟨rfl, rfl⟩ := h
    rw [spl_two]
    have := List.length_pos_iff.mpr (spl_ne [32, 32] r [] 0)
    simp [DD]
    omega
  | case4 c d r h ih =>
    rw [spl_two' _ _ h, ih]
    simp [DD, h]
theorem RR_le (s : List Nat) : (RR s).length ≤ s.length := by
  induction s using RR.induct with
  | case1 => simp [RR]
  | case2 c => simp [RR]
  | case3 c d r h ih => simp [RR, h]; omega
  | case4 c d r h ih => simp [RR, h] at ih ⊢; omega
theorem RR_lt (s : List Nat) (h : DD s = true) : (RR s).length < s.length := by
  induction s using RR.induct with
  | case1 => cases h
  | case2 c => cases h
  | case3 c d r h1 ih => have := RR_le r; simp [RR, h1]; omega
  | case4 c d r h1 ih =>
    simp [DD, h1] at h
    have := ih h
    simp [RR, h1] at this ⊢; omega
theorem ws_RR (s acc : List Nat) : ws acc (RR s) = ws acc s := by
  induction s using RR.induct generalizing acc with
  | case1 => rfl
  | case2 c => rfl
  | case3 c d r h ih =>
    obtain ⟨rfl, rfl⟩ := h
    simp [RR, ws, ih, fl]
  | case4 c d r h ih =>
    simp only [RR, h, if_false]
    simp only [ws]
    split
    · have := ih []
      simp only [ws] at this
      rw [this]
    · have := ih (acc ++ [c])
      simp only [ws] at this
      rw [this]
theorem RR_head (s : List Nat) : (RR s).head? = s.head? := by
  cases s with
  | nil => rfl
  | cons c s =>
    cases s with
    | nil => rfl
    | cons d r =>
      unfold RR
      split
      · rename_i h; rw [h.1]; rfl
      · rfl
theorem RR_last (s : List Nat) : (RR s).getLast? = s.getLast? := by
  induction s using RR.induct with
  | case1 => rfl
  | case2 c => rfl
  | case3 c d r h ih =>
    obtain ⟨rfl, rfl⟩ := h
    simp only [RR, and_self, if_true]
    rw [List.getLast?_cons, List.getLast?_cons, List.getLast?_cons, ih]
    cases r.getLast? <;> rfl
  | case4 c d r h ih =>
    simp only [RR, h, if_false]
    rw [List.getLast?_cons, List.getLast?_cons, ih]
theorem join_ws : ∀ (s acc : List Nat), DD s = false → s.getLast? ≠ some 32 → (acc ≠ [] ∨ s.head? ≠ some 32) → TL.joinL [32] (ws acc s) = acc ++ s
  | [], acc, _, _, _ => by
    unfold ws fl
    by_cases h : acc = [] <;> simp [h, TL.joinL]
  | c :: r, acc, h1, h2, h3 => by
    by_cases hc : c = 32
    · subst hc
      have ha : acc ≠ [] := by
        rcases h3 with h | h
        · exact h
        · exact absurd rfl h
      cases r with
      | nil => exact absurd rfl h2
      | cons d r =>
        have hd : d ≠ 32 := by
          intro z
          subst z
          simp [DD] at h1
        have ih := join_ws (d :: r) [] (by simpa [DD, hd] using h1) (by simpa [List.getLast?_cons] using h2) (.inr (by simpa using hd))
        have hn : ws [] (d :: r) ≠ [] := by
          intro z
          rw [z] at ih
          simp [TL.joinL] at ih
        have e : ws acc (32 :: d :: r) = acc :: ws [] (d :: r) := by
          rw [ws.eq_def acc]
          simp [fl, ha]
        rw [e, join_cons _ _ hn, ih]
        simp
    · have ih := join_ws r (acc ++ [c]) (by
        cases r with
        | nil => rfl
        | cons d r => simpa [DD, hc] using h1) (by
        cases r with
        | nil => simp
        | cons d r => simpa [List.getLast?_cons] using h2) (.inl (by simp))
      have e : ws acc (c :: r) = ws (acc ++ [c]) r := by
        rw [ws.eq_def acc]
        simp [hc]
      rw [e, ih]
      simp
theorem ws_end : ∀ (s acc : List Nat), ws acc (s ++ [32]) = ws acc s
  | [], acc => by simp [ws, fl]
  | c :: r, acc => by
    simp only [List.cons_append, ws]
    rw [ws_end r [], ws_end r (acc ++ [c])]
theorem ws_front : ∀ s : List Nat, ws [] (s.dropWhile ([32] : List Nat).contains) = ws [] s
  | [] => rfl
  | c :: r => by
    by_cases h : c = 32
    · subst h
      rw [List.dropWhile_cons_of_pos (by simp), ws_front r]
      simp [ws, fl]
    · rw [List.dropWhile_cons_of_neg (by simpa using h)]
theorem ws_back : ∀ s : List Nat, ws [] (s.dropWhile ([32] : List Nat).contains).reverse = ws [] s.reverse
  | [] => rfl
  | c :: r => by
    by_cases h : c = 32
    · subst h
      rw [List.dropWhile_cons_of_pos (by simp), ws_back r, List.reverse_cons, ws_end]
    · rw [List.dropWhile_cons_of_neg (by simpa using h)]
theorem ws_strip (s : List Nat) : ws [] (stripL [32] s) = ws [] s := by
  unfold stripL
  rw [ws_back, List.reverse_reverse, ws_front]
theorem drop_head (s : List Nat) : (s.dropWhile ([32] : List Nat).contains).head? ≠ some 32 := by
  induction s with
  | nil => simp
  | cons c r ih =>
    by_cases h : c = 32
    · subst h
      rw [List.dropWhile_cons_of_pos (by simp)]
      exact ih
    · rw [List.dropWhile_cons_of_neg (by simpa using h)]
      simpa using h
theorem strip_last (s : List Nat) : (stripL [32] s).getLast? ≠ some 32 := by
  unfold stripL
  rw [List.getLast?_reverse]
  exact drop_head _
theorem strip_head (s : List Nat) : (stripL [32] s).head? ≠ some 32 := by
  unfold stripL
  intro h
  have h1 : ((s.dropWhile ([32] : List Nat).contains).reverse.dropWhile ([32] : List Nat).contains).reverse <+: s.dropWhile ([32] : List Nat).contains := by
    have := List.dropWhile_suffix (([32] : List Nat).contains) (l := (s.dropWhile ([32] : List Nat).contains).reverse)
    rw [← List.reverse_prefix] at this
    simpa using this
  obtain ⟨t, e⟩ := h1
  refine drop_head s ?_
  rw [← e, List.head?_append, h]
  rfl
theorem join_nil : ∀ L : List (List Nat), TL.joinL [] L = L.flatten
  | [] => rfl
  | [p] => by simp [TL.joinL]
  | p :: q :: r => by
    rw [join_cons _ _ (by simp), join_nil (q :: r)]
    simp
theorem flat_ws : ∀ (s acc : List Nat), (ws acc s).flatten = acc ++ s.filter (fun c => !(c == 32))
  | [], acc => by
    unfold ws fl
    by_cases h : acc = [] <;> simp [h]
  | c :: r, acc => by
    by_cases h : c = 32
    · subst h
      simp only [ws, if_true, List.flatten_append, flat_ws r []]
      unfold fl
      by_cases h : acc = [] <;> simp [h]
    · simp only [ws, h, if_false, flat_ws r (acc ++ [c])]
      simp [h]
theorem flat_spl : ∀ (s acc : List Nat), (TL.spl [32] 0 acc s).flatten = acc ++ s.filter (fun c => !(c == 32))
  | [], acc => by rw [TL.spl_nil]; simp
  | c :: r, acc => by
    by_cases h : c = 32
    · subst h
      rw [TL.spl_hit (by simp [TL.pre]), List.flatten_cons, show ([32] : List Nat).length - 1 = 0 from rfl, flat_spl r []]
      simp
    · rw [TL.spl_miss (by simp [TL.pre, h]), flat_spl r (acc ++ [c])]
      simp [h]
theorem none_key (s : List Nat) : TL.joinL [] (TL.spl [32] 0 [] (stripL [32] s)) = TL.joinL [] (wordsOf s) := by
  rw [join_nil, join_nil, flat_spl, wordsOf_ws, ← ws_strip, flat_ws]
theorem runs_key {s t : List Nat} (h1 : ws [] t = ws [] s) (h2 : DD t = false) (h3 : t.head? ≠ some 32) (h4 : t.getLast? ≠ some 32) : t = TL.joinL [32] (wordsOf s) := by
  rw [wordsOf_ws, ← h1, join_ws t [] h2 h4 (.inr h3)]
  rfl
end DF
set_option Elab.async false
set_option linter.all false
set_option maxRecDepth 100000
set_option maxHeartbeats 400000
namespace DF
open PySem PySem.Spec L2 DC
def N__law_key : List Str := ["row", "eye"]
def md__law_key : List Bool := []
def s__law_key : Sm := (.seq (.iff (.op .eq (.cons (.var 1) (.cons (.cst (.str [97, 108, 108])) .nil))) (.seq (.ret (.var 0)) .skip) .skip) (.seq (.iff (.op .eq (.cons (.var 1) (.cons (.cst (.str [108, 97, 114, 103, 101])) .nil))) (.seq (.ret (.op .upper (.cons (.var 0) .nil))) .skip) .skip) (.seq (.whl (.op .eq (.cons (.op (.slc false true) (.cons (.var 0) (.cons (.cst (.int 1)) .nil))) (.cons (.cst (.str [32])) .nil))) (.seq (.asg 0 (.op (.slc true false) (.cons (.var 0) (.cons (.cst (.int 1)) .nil)))) .skip)) (.seq (.whl (.op .eq (.cons (.op (.slc true false) (.cons (.var 0) (.cons (.op .neg (.cons (.cst (.int 1)) .nil)) .nil))) (.cons (.cst (.str [32])) .nil))) (.seq (.asg 0 (.op (.slc false true) (.cons (.var 0) (.cons (.op .neg (.cons (.cst (.int 1)) .nil)) .nil)))) .skip)) (.seq (.whl (.and (.op .eq (.cons (.var 1) (.cons (.cst (.str [114, 117, 110, 115])) .nil))) (.op .isin (.cons (.cst (.str [32, 32])) (.cons (.var 0) .nil)))) (.seq (.asg 0 (.op .replace (.cons (.var 0) (.cons (.cst (.str [32, 32])) (.cons (.cst (.str [32])) .nil))))) .skip)) (.seq (.ret (.ife (.op .eq (.cons (.var 1) (.cons (.cst (.str [110, 111, 110, 101])) .nil))) (.op .replace (.cons (.var 0) (.cons (.cst (.str [32])) (.cons (.cst (.str [])) .nil)))) (.var 0))) .skip))))))

def N__law_keys : List Str := ["rows", "eye", "row"]
def md__law_keys : List Bool := []
def s__law_keys : Sm := (.seq (.ret (.comp [2] (.nm 2) (.var 0) (.cst (.bl true)) (.call "_law_key" false 0 (.cons (.var 2) (.cons (.var 1) .nil)) .nil))) .skip)

def fs__law_key : Fs := { np := 2, pats := [(2, [], none)], sem := fun ds δ => sem2 (semS2 fun a b => if okS a = true then .ok (.str (keyF a b)) δ else .stk) ds }
theorem cut_last (l : List Nat) : cutD l (some (-1)) none = l.drop (l.length - 1) := by
  unfold cutD
  have e : HT.sIx l.length 0 (some (-1)) = l.length - 1 := by
    unfold HT.sIx
    simp
    try omega
  rw [e]
  have e2 : HT.sIx l.length l.length none = l.length := rfl
  rw [e2]
  exact List.take_of_length_le (by simp)
theorem cut_init (l : List Nat) : cutD l none (some (-1)) = l.take (l.length - 1) := by
  unfold cutD
  have e : HT.sIx l.length l.length (some (-1)) = l.length - 1 := by
    unfold HT.sIx
    simp
    try omega
  have e2 : HT.sIx l.length 0 none = 0 := rfl
  rw [e, e2]
  rfl
theorem cut_one (l : List Nat) : cutD l none (some 1) = l.take 1 := cut_hi l 1
theorem cut_tail (l : List Nat) : cutD l (some 1) none = l.drop 1 := cut_lo l 1
theorem take_one (l : List Nat) : (l.take 1 = [32]) ↔ l.head? = some 32 := by
  cases l with
  | nil => simp
  | cons a r => simp
theorem drop_one (l : List Nat) : (l.drop (l.length - 1) = [32]) ↔ l.getLast? = some 32 := by
  rcases List.eq_nil_or_concat l with rfl | ⟨r, a, rfl⟩
  · simp
  · simp
theorem sem__law_key {Γ : Glo} : Does Γ md__law_key 2 s__law_key fs__law_key := by
  intro ds δ h
  obtain ⟨d, e, rfl⟩ := sem2_of h
  obtain ⟨a, b, rfl, rfl⟩ := semS2_of (show semS2 _ d e ≠ .stk from h)
  refine ⟨3000, runF_of ?_⟩
  show Wp (exS Γ [] false 3000 s__law_key [some (.str a), some (.str b)] δ) _
  have ha : okS a = true := by
    cases q : okS a with
    | true => rfl
    | false => exact absurd (by simp [fs__law_key, q]) h
  have hl : a.length ≤ 1000 := by simpa [okS] using ha
  have l1 : a.length ≤ 5592405 := by omega
  simp only [s__law_key, fs__law_key, sem2_at, semS2_at, ha, if_true]
  simp only [wp_seq, wp_iff]
  simp (decide := true)
  split
  · rename_i e; rw [e]; simp [keyF, sAll]
  · rename_i e1
    split
    · rename_i e2; rw [e2]; simp [keyF, sAll, sLarge, l1]
    · rename_i e2
      refine Wp_whl (fun m ρ δ' => ∃ r : List Nat, ρ = [some (.str r), some (.str b)] ∧ r.length = m ∧ δ' = δ ∧ m ≤ 1000 ∧ r.dropWhile ([32] : List Nat).contains = a.dropWhile ([32] : List Nat).contains) ⟨a.length, by omega, a, rfl, rfl, rfl, hl, rfl⟩ ?_
      rintro m ρ δ' ⟨r, rfl, rfl, rfl, hm, hr⟩
      simp [cut_one, cut_tail]
      cases q : (List.take 1 r == [32]) with
      | true =>
        have q' : r.head? = some 32 := (take_one r).mp (by simpa using q)
        cases r with
        | nil => cases q'
        | cons c r =>
          simp only [List.head?_cons, Option.some.injEq] at q'
          subst q'
          rw [List.dropWhile_cons_of_pos (by simp)] at hr
          exact ⟨r.length, by simp, by simp, by simp at hm; omega, hr⟩
      | false =>
        have q' : r.head? ≠ some 32 := fun z => by rw [(take_one r).mpr z] at q; simp at q
        have hr' : r = a.dropWhile ([32] : List Nat).contains := by
          rw [← hr]
          cases r with
          | nil => rfl
          | cons c r => rw [List.dropWhile_cons_of_neg (by simpa using q')]
        refine Wp_whl (fun m ρ δ2 => ∃ t : List Nat, ρ = [some (.str t), some (.str b)] ∧ t.length = m ∧ δ2 = δ' ∧ m ≤ 1000 ∧ t.reverse.dropWhile ([32] : List Nat).contains = r.reverse.dropWhile ([32] : List Nat).contains) ⟨r.length, by omega, r, rfl, rfl, rfl, hm, rfl⟩ ?_
        rintro m ρ δ2 ⟨t, rfl, rfl, rfl, hm2, ht⟩
        simp [cut_last, cut_init]
        cases q2 : (List.drop (t.length - 1) t == [32]) with
        | true =>
          have q3 : t.getLast? = some 32 := (drop_one t).mp (by simpa using q2)
          rcases List.eq_nil_or_concat t with rfl | ⟨u, c, rfl⟩
          · cases q3
          · simp at q3
            subst q3
            rw [List.concat_eq_append, List.reverse_append] at ht
            rw [show ([32] : List Nat).reverse ++ u.reverse = 32 :: u.reverse from rfl, List.dropWhile_cons_of_pos (by simp)] at ht
            simp at hm2 ⊢
            exact ⟨u.length, by omega, rfl, by omega, ht⟩
        | false =>
          have q3 : t.getLast? ≠ some 32 := fun z => by rw [(drop_one t).mpr z] at q2; simp at q2
          have ht' : t = stripL [32] a := by
            unfold stripL
            rw [← hr', ← ht]
            rcases List.eq_nil_or_concat t with rfl | ⟨u, c, rfl⟩
            · rfl
            · simp at q3
              rw [List.concat_eq_append, List.reverse_append]
              rw [show ([c] : List Nat).reverse ++ u.reverse = c :: u.reverse from rfl, List.dropWhile_cons_of_neg (by simpa using q3)]
              simp
          have tl : t.length ≤ 1000 := hm2
          have hw : ws [] t = ws [] a := by rw [ht', ws_strip]
          have hh : t.head? ≠ some 32 := by rw [ht']; exact strip_head a
          show Wp _ _
          have fin : ∀ (u : List Nat), u.length ≤ 1000 → (if b = sRuns then u = keyF a b else u = stripL [32] a) →
              (if b = [110, 111, 110, 101] then Wo (opv .replace [.str u, .str [32], .str []]) fun d => d = D.str (keyF a b) else u = keyF a b) := by
            intro u hu hk
            by_cases e4 : b = sNone
            · have e3 : ¬ b = sRuns := by rw [e4]; decide
              have e4' : b = [110, 111, 110, 101] := e4
              rw [if_neg e3] at hk
              have lu : u.length ≤ 16777216 := by omega
              have rp : opv .replace [.str u, .str [32], .str []] = some (.str (TL.joinL [] (TL.spl [32] 0 [] u))) := by
                show (if (decide (([32] : List Nat) ≠ []) && decide (u.length + (u.length + 1) * ([] : List Nat).length ≤ 16777216)) = true then _ else _) = _
                rw [if_pos (by simp; omega)]
              rw [if_pos e4', rp, hk, none_key]
              rw [e4]
              simp [keyF, sAll, sLarge, sRuns, sNone]
            · have e4' : ¬ b = [110, 111, 110, 101] := e4
              rw [if_neg e4']
              by_cases e3 : b = sRuns
              · rw [if_pos e3] at hk; exact hk
              · rw [if_neg e3] at hk
                have e3' : ¬ b = [114, 117, 110, 115] := e3
                rw [hk]
                simp [keyF, sAll, sLarge, sRuns, sNone, e1, e2, e3', e4']
          by_cases e3 : b = sRuns
          · refine Wp_whl (fun m ρ δ3 => ∃ u : List Nat, ρ = [some (.str u), some (.str b)] ∧ u.length = m ∧ δ3 = δ2 ∧ m ≤ 1000 ∧ ws [] u = ws [] a ∧ u.head? ≠ some 32 ∧ u.getLast? ≠ some 32) ⟨t.length, by omega, t, rfl, rfl, rfl, hm2, hw, hh, q3⟩ ?_
            rintro m ρ δ3 ⟨u, rfl, rfl, rfl, hu, hw2, hh2, hl2⟩
            have di : dIn (.str [32, 32]) (.str u) = some (DD u) := by
              show some (decide (2 ≤ (TL.spl [32, 32] 0 [] u).length)) = _
              rw [spl_DD]
            have rp : opv .replace [.str u, .str [32, 32], .str [32]] = some (.str (RR u)) := by
              show (if (decide (([32, 32] : List Nat) ≠ [32]) && decide (u.length + (u.length + 1) * ([32] : List Nat).length ≤ 16777216)) = true then some (D.str (TL.joinL [32] (TL.spl [32, 32] 0 [] u))) else _) = _
              rw [if_pos (by simp; omega), join_RR]
              rfl
            have e3' : b = [114, 117, 110, 115] := e3
            have ee : (b == [114, 117, 110, 115]) = true := by rw [e3']; rfl
            simp [di, rp, ee]
            cases q4 : DD u with
            | true =>
              have := RR_lt u q4
              exact ⟨(RR u).length, this, rfl, by omega, by rw [ws_RR]; exact hw2, by rw [RR_head]; exact hh2, by rw [RR_last]; exact hl2⟩
            | false =>
              refine fin u hu ?_
              rw [if_pos e3]
              have := runs_key hw2 q4 hh2 hl2
              rw [e3]
              simpa [keyF, sAll, sLarge, sRuns] using this
          · refine Wp_whl (fun m ρ δ3 => ρ = [some (.str t), some (.str b)] ∧ δ3 = δ2) ⟨0, by omega, rfl, rfl⟩ ?_
            rintro m ρ δ3 ⟨rfl, rfl⟩
            have e3' : ¬ b = [114, 117, 110, 115] := e3
            have ee : (b == [114, 117, 110, 115]) = false := by simpa using e3'
            simp [ee]
            exact fin t hm2 (by rw [if_neg e3]; exact ht')
end DF
set_option Elab.async false
set_option linter.all false
set_option maxRecDepth 100000
set_option maxHeartbeats 400000
namespace DF
open PySem PySem.Spec L2 DC
def N__law_eye : List Str := ["dice"]
def md__law_eye : List Bool := []
def s__law_eye : Sm := (.seq (.ret (.op .idx (.cons (.op .lstd (.cons (.cst (.str [97, 108, 108])) (.cons (.cst (.str [101, 110, 100, 115])) (.cons (.cst (.str [114, 117, 110, 115])) (.cons (.cst (.str [110, 111, 110, 101])) (.cons (.cst (.str [108, 97, 114, 103, 101])) .nil)))))) (.cons (.call "_law_roll" true 0 (.cons (.cst (.int 5)) .nil) .nil) .nil)))) .skip)
def N__law_two : List Str := ["dice", "most", "pot", "rows"]
def md__law_two : List Bool := []
def s__law_two : Sm := (.seq (.asg 2 (.call "_law_pot" true 0 .nil .nil)) (.seq (.asg 3 (.call "_law_draw" true 0 (.cons (.var 2) (.cons (.var 1) .nil)) .nil)) (.seq (.iff (.op .gt (.cons (.call "_law_roll" true 0 (.cons (.cst (.int 3)) .nil) .nil) (.cons (.cst (.int 0)) .nil))) (.seq (.ret (.op .tupd (.cons (.var 3) (.cons (.op (.slc false true) (.cons (.call "_law_near" true 0 (.cons (.var 3) (.cons (.var 2) .nil)) .nil) (.cons (.var 1) .nil))) .nil)))) .skip) .skip) (.seq (.ret (.op .tupd (.cons (.var 3) (.cons (.call "_law_draw" true 0 (.cons (.var 2) (.cons (.var 1) .nil)) .nil) .nil)))) .skip))))
def N__law_kept : List Str := ["keys", "others", "found", "row", "i", "j"]
def cmp__law_kept : Ex := (.comp [3] (.nm 3) (.op (.rng 1) (.cons (.op .add (.cons (.op .len (.cons (.var 0) .nil)) (.cons (.cst (.int 1)) .nil))) .nil)) (.cst (.bl true)) (.op .mul (.cons (.op .lstd (.cons (.cst (.int 0)) .nil)) (.cons (.op .add (.cons (.op .len (.cons (.var 1) .nil)) (.cons (.cst (.int 1)) .nil))) .nil))))
def s__law_kept : Sm := (.fr (.nm 4) (.op (.rng 3) (.cons (.op .sub (.cons (.op .len (.cons (.var 0) .nil)) (.cons (.cst (.int 1)) .nil))) (.cons (.op .neg (.cons (.cst (.int 1)) .nil)) (.cons (.op .neg (.cons (.cst (.int 1)) .nil)) .nil)))) (.seq (.fr (.nm 5) (.op (.rng 3) (.cons (.op .sub (.cons (.op .len (.cons (.var 1) .nil)) (.cons (.cst (.int 1)) .nil))) (.cons (.op .neg (.cons (.cst (.int 1)) .nil)) (.cons (.op .neg (.cons (.cst (.int 1)) .nil)) .nil)))) (.seq (.tset (.var 4) (.var 5) (.op .max2 (.cons (.tget (.op .add (.cons (.var 4) (.cons (.cst (.int 1)) .nil))) (.var 5)) (.cons (.tget (.var 4) (.op .add (.cons (.var 5) (.cons (.cst (.int 1)) .nil)))) .nil)))) (.seq (.iff (.op .eq (.cons (.op .idx (.cons (.var 0) (.cons (.var 4) .nil))) (.cons (.op .idx (.cons (.var 1) (.cons (.var 5) .nil))) .nil))) (.seq (.tset (.var 4) (.var 5) (.op .max2 (.cons (.tget (.var 4) (.var 5)) (.cons (.op .add (.cons (.tget (.op .add (.cons (.var 4) (.cons (.cst (.int 1)) .nil))) (.op .add (.cons (.var 5) (.cons (.cst (.int 1)) .nil)))) (.cons (.cst (.int 1)) .nil))) .nil)))) .skip) .skip) .skip))) .skip))
def N__law_least : List Str := ["keys", "others"]
def md__law_least : List Bool := []
def s__law_least : Sm := (.seq (.ret (.op .sub (.cons (.op .add (.cons (.op .len (.cons (.var 0) .nil)) (.cons (.op .len (.cons (.var 1) .nil)) .nil))) (.cons (.op .mul (.cons (.cst (.int 2)) (.cons (.op .idx (.cons (.op .idx (.cons (.call "_law_kept" false 0 (.cons (.var 0) (.cons (.var 1) .nil)) .nil) (.cons (.cst (.int 0)) .nil))) (.cons (.cst (.int 0)) .nil))) .nil))) .nil)))) .skip)
def fs__law_kept : Fs := { np := 2, pats := [(2, [], none)], sem := fun ds δ => sem2 (fun a b => rO (strsD a) fun x => rO (strsD b) fun y => if decide (x.length ≤ 1000) && decide (y.length ≤ 1000) then .ok (tabD (keptT x y)) δ else .stk) ds }
theorem sem__law_kept {Γ : Glo} (ds : List D) (δ : Dice) (h : fs__law_kept.sem ds δ ≠ .stk) :
    We (ev Γ (.op (.rng 1) (.cons (.op .add (.cons (.op .len (.cons (.var 0) .nil)) (.cons (.cst (.int 1)) .nil))) .nil)) (ds.map some ++ List.replicate (6 - ds.length) none) (0, 0, [])) (fun d δ1 => Wx d.items fun is => Wl (compL (bindP (.nm 3)) (ev Γ (.cst (.bl true))) (ev Γ (.op .mul (.cons (.op .lstd (.cons (.cst (.int 0)) .nil)) (.cons (.op .add (.cons (.op .len (.cons (.var 1) .nil)) (.cons (.cst (.int 1)) .nil))) .nil)))) (wipeE (ds.map some ++ List.replicate (6 - ds.length) none) [3]) is δ1) fun xs _ =>
      ∃ t : List (List Int), xs = (t.map fun r : List Int => D.lst (r.map .int)) ∧ t.length ≤ sizeLine ∧ Wp (exS Γ [] false 0 s__law_kept (ds.map some ++ List.replicate (6 - ds.length) none) (0, 0, t)) ⟨fun _ δ3 => ∃ δ', fs__law_kept.sem ds δ = .ok (tabD δ3.2.2) δ', fun _ _ => False, fun _ _ => False, fun _ _ => False⟩) (fun _ _ => False) := by
  obtain ⟨d, e, rfl⟩ := sem2_of h
  obtain ⟨x, e1⟩ := rO_of (show rO (strsD d) _ ≠ .stk from h)
  have h2 := h
  simp only [fs__law_kept, sem2_at, e1, rO_some] at h2
  obtain ⟨y, e2⟩ := rO_of h2
  cases strsD_eq e1
  cases strsD_eq e2
  simp only [strsD_at, rO_some] at h2
  have hx : (decide (x.length ≤ 1000) && decide (y.length ≤ 1000)) = true := by
    cases q : (decide (x.length ≤ 1000) && decide (y.length ≤ 1000)) with
    | true => rfl
    | false => rw [q] at h2; exact absurd rfl h2
  have hxy : x.length ≤ 1000 ∧ y.length ≤ 1000 := by simpa using hx
  have r1 : small ((x.length : Int) + 1) = true := by simp [small]; omega
  have l1 : ((x.length : Int) + 1).toNat = x.length + 1 := by omega
  have hρ : (([rowsD x, rowsD y].map some ++ List.replicate (6 - [rowsD x, rowsD y].length) none : En)) = [some (rowsD x), some (rowsD y), none, none, none, none] := rfl
  rw [hρ]
  simp [rowsD, r1, l1]
  refine rng_const (x := .lst ((List.replicate (y.length + 1) (0 : Int)).map .int)) (fun i => ⟨_, rfl, by simp, ?_⟩) ?_
  · simp
    omega
  · refine ⟨List.replicate (x.length + 1) (List.replicate (y.length + 1) 0), by simp, by rw [szl]; simp; omega, ?_⟩
    rw [show List.replicate (x.length + 1) (List.replicate (y.length + 1) (0 : Int)) = mkT x.length y.length (fun r c => if x.length ≤ r then LL x y r c else 0) from ?_]
    · have sm : small (-1) = true := by decide
      have r2 : small ((x.length : Int) - 1) = true := by simp [small]; omega
      have r3 : small ((y.length : Int) - 1) = true := by simp [small]; omega
      have l3 : ((x.length : Int) - 1 - -1).toNat = x.length := by omega
      have l4 : ((y.length : Int) - 1 - -1).toNat = y.length := by omega
      have l5 : (x.length : Int) - 1 - -1 ≤ 16777216 := by omega
      have l6 : (y.length : Int) - 1 - -1 ≤ 16777216 := by omega
      unfold s__law_kept
      simp (decide := true) [sm, r2, l3, l5]
      refine ⟨by omega, for_down (k := x.length) (fun k ρ δ => ∃ a b, ρ = [some (rowsD x), some (rowsD y), none, none, a, b] ∧ k ≤ x.length ∧ δ = (0, 0, mkT x.length y.length fun r c => if k ≤ r then LL x y r c else 0)) ⟨none, none, rfl, Nat.le_refl _, rfl⟩ ?_ ?_⟩
      · rintro ρ δ' ⟨a, b, rfl, _, rfl⟩
        refine ⟨δ.1, δ.2.1, δ.2.2, ?_⟩
        show fs__law_kept.sem [rowsD x, rowsD y] δ = _
        simp only [fs__law_kept, sem2_at, strsD_at, rO_some, hx, if_true, keptT, Nat.zero_le]
      · rintro i ρ δ' ⟨a, b, rfl, hi, rfl⟩
        simp (decide := true) [rowsD, sm, r3, l4, l6]
        refine ⟨by omega, for_down (k := y.length) (fun l ρ δ => ∃ b, ρ = [some (rowsD x), some (rowsD y), none, none, some (.int (i : Int)), b] ∧ l ≤ y.length ∧ δ = (0, 0, mkT x.length y.length fun r c => if i + 1 ≤ r ∨ (r = i ∧ l ≤ c) then LL x y r c else 0)) ⟨b, rfl, Nat.le_refl _, ?_⟩ ?_ ?_⟩
        · refine congrArg (fun t => ((0 : Int), (0 : Int), t)) (mkT_congr fun r c hr hc => ?_)
          by_cases h1 : i + 1 ≤ r
          · simp [h1]
          · by_cases h2 : r = i ∧ y.length ≤ c
            · obtain ⟨rfl, h2⟩ := h2
              have : c = y.length := by omega
              subst this
              simp [LL_end']
            · simp [h1, h2]
        · rintro ρ δ' ⟨b, rfl, _, rfl⟩
          simp [rowsD]
          refine ⟨by omega, mkT_congr fun r c hr hc => ?_⟩
          by_cases h1 : i ≤ r
          · have : i + 1 ≤ r ∨ r = i := by omega
            simp [h1, this]
          · have h2 : ¬ (i + 1 ≤ r ∨ r = i) := by omega
            simp [h1, h2]
        · rintro j ρ δ' ⟨b, rfl, hj, rfl⟩
          obtain ⟨u, hu⟩ : ∃ u, x[i]? = some u := ⟨_, List.getElem?_eq_getElem (by omega)⟩
          obtain ⟨v, hv⟩ : ∃ v, y[j]? = some v := ⟨_, List.getElem?_eq_getElem (by omega)⟩
          have g1 : ∀ f : Nat → Nat → Int, tabG (mkT x.length y.length f) ((i : Int) + 1) ((j : Int) + 1) = some (f (i + 1) (j + 1)) := fun f => mkT_get (i := i + 1) (j := j + 1) (by omega) (by omega)
          have g2 : ∀ f : Nat → Nat → Int, tabG (mkT x.length y.length f) ((i : Int) + 1) (j : Int) = some (f (i + 1) j) := fun f => mkT_get (i := i + 1) (j := j) (by omega) (by omega)
          have g3 : ∀ f : Nat → Nat → Int, tabG (mkT x.length y.length f) (i : Int) ((j : Int) + 1) = some (f i (j + 1)) := fun f => mkT_get (i := i) (j := j + 1) (by omega) (by omega)
          have g4 : ∀ (f : Nat → Nat → Int) (w : Int), tabS (mkT x.length y.length f) (i : Int) (j : Int) w = some (mkT x.length y.length fun r c => if r = i ∧ c = j then w else f r c) := fun f w => mkT_set (by omega) (by omega)
          have st2 : LL x y i j = if u = v then max (max (LL x y (i + 1) j) (LL x y i (j + 1))) (LL x y (i + 1) (j + 1) + 1) else max (LL x y (i + 1) j) (LL x y i (j + 1)) := by
            unfold LL
            rw [drop_at hu, drop_at hv, DL.lcs_law]
            split <;> omega
          have g5 : ∀ f : Nat → Nat → Int, tabG (mkT x.length y.length f) (i : Int) (j : Int) = some (f i j) := fun f => mkT_get (i := i) (j := j) (by omega) (by omega)
          have fin : ∀ w : Int, w = LL x y i j → (mkT x.length y.length fun r c => if r = i ∧ c = j then w else if i + 1 ≤ r ∨ (r = i ∧ j + 1 ≤ c) then LL x y r c else 0) = mkT x.length y.length fun r c => if i + 1 ≤ r ∨ (r = i ∧ j ≤ c) then LL x y r c else 0 := fun w hw => mkT_congr fun r c hr hc => by
            by_cases h1 : r = i ∧ c = j
            · obtain ⟨rfl, rfl⟩ := h1
              simp [hw]
            · by_cases h2 : i + 1 ≤ r ∨ r = i ∧ j + 1 ≤ c
              · have h3 : i + 1 ≤ r ∨ r = i ∧ j ≤ c := by omega
                simp [h1, h2, h3]
              · have h3 : ¬ (i + 1 ≤ r ∨ r = i ∧ j ≤ c) := by omega
                simp [h1, h2, h3]
          have fin2 : ∀ w w' : Int, w' = LL x y i j → (mkT x.length y.length fun r c => if r = i ∧ c = j then w' else if r = i ∧ c = j then w else if i + 1 ≤ r ∨ (r = i ∧ j + 1 ≤ c) then LL x y r c else 0) = mkT x.length y.length fun r c => if i + 1 ≤ r ∨ (r = i ∧ j ≤ c) then LL x y r c else 0 := fun w w' hw => by
            rw [← fin w' hw]
            exact mkT_congr fun r c _ _ => by by_cases h : r = i ∧ c = j <;> simp [h]
          simp [rowsD, atI_str hu, atI_str hv, g1, g2, g3, g4, g5]
          split
          · rename_i huv
            rw [if_pos huv] at st2
            refine ⟨by omega, fin2 _ _ ?_⟩
            rw [st2]
            split <;> split <;> omega
          · rename_i huv
            rw [if_neg huv] at st2
            refine ⟨by omega, fin _ ?_⟩
            rw [st2]
            split <;> omega
    · rw [show mkT x.length y.length (fun r c => if x.length ≤ r then LL x y r c else 0) = mkT x.length y.length fun _ _ => 0 from mkT_congr fun r c hr hc => ?_]
      · unfold mkT
        simp [List.map_const']
      · by_cases h1 : x.length ≤ r
        · have : r = x.length := by omega
          subst this
          simp [LL_end]
        · simp [h1]

def fs__law_least : Fs := { np := 2, pats := [(2, [], none)], sem := fun ds δ => sem2 (fun a b => rO (strsD a) fun x => rO (strsD b) fun y => if ok1000 x y = true then .ok (.int (leastF x y)) δ else .stk) ds }
theorem sem__law_least {Γ : Glo} (h1 : Γ.fn "_law_kept" = some fs__law_kept) : Does Γ md__law_least 2 s__law_least fs__law_least := by
  intro ds δ h
  obtain ⟨d, e, rfl⟩ := sem2_of h
  obtain ⟨x, e1⟩ := rO_of (show rO (strsD d) _ ≠ .stk from h)
  have h2 := h
  simp only [fs__law_least, sem2_at, e1, rO_some] at h2
  obtain ⟨y, e2⟩ := rO_of h2
  cases strsD_eq e1
  cases strsD_eq e2
  simp only [strsD_at, rO_some] at h2
  have hx : ok1000 x y = true := by
    cases q : ok1000 x y with
    | true => rfl
    | false => rw [q] at h2; exact absurd rfl h2
  have hx' : x.length ≤ 1000 ∧ y.length ≤ 1000 := by simpa [ok1000] using hx
  refine ⟨0, runF_of ?_⟩
  show Wp (exS Γ [] false 0 s__law_least [some (rowsD x), some (rowsD y)] δ) _
  obtain ⟨r, t, e3⟩ := tab_zero x y
  have e4 : strsD (.lst (x.map D.str)) = some x := strsOf_map x
  have e5 : strsD (.lst (y.map D.str)) = some y := strsOf_map y
  simp [s__law_least, h1, fs__law_least, fs__law_kept, rowsD, e4, e5, hx, hx', tabD, e3, atI_zero, mul_int]
  simp [LL, leastF]
def fs__law_keys : Fs := { np := 2, pats := [(2, [], none)], sem := fun ds δ => sem2 (fun a b => rO (strsD a) fun x => rO (strD b) fun z => if okR x = true then .ok (rowsD (x.map fun r => keyF r z)) δ else .stk) ds }
theorem sem__law_keys {Γ : Glo} (h1 : Γ.fn "_law_key" = some fs__law_key) : Does Γ md__law_keys 3 s__law_keys fs__law_keys := by
  intro ds δ h
  obtain ⟨d, e, rfl⟩ := sem2_of h
  obtain ⟨x, e1⟩ := rO_of (show rO (strsD d) _ ≠ .stk from h)
  have h2 := h
  simp only [fs__law_keys, sem2_at, e1, rO_some] at h2
  obtain ⟨y, e2⟩ := rO_of h2
  cases strsD_eq e1
  cases strD_eq e2
  simp only [strD_at, rO_some] at h2
  have hx : okR x = true := by
    cases q : okR x with
    | true => rfl
    | false => rw [q] at h2; exact absurd rfl h2
  have hx' : ∀ r ∈ x, okS r = true := by
    simp only [okR, Bool.and_eq_true, List.all_eq_true] at hx
    exact hx.1
  refine ⟨0, runF_of ?_⟩
  show Wp (exS Γ [] false 0 s__law_keys [some (.lst (x.map .str)), some (.str y), none] δ) _
  simp [s__law_keys, fs__law_keys, hx]
  refine compA D.str (fun w => true) (fun r => .str (keyF r y)) (fun w hw => ⟨_, rfl, by simp, fun _ => by simp [h1, fs__law_key, hx' w hw]⟩) ?_
  simp [rowsD]

def fs__law_eye (Γ : Glo) : Fs := { dice := true, np := 1, pats := [(1, [], none)], sem := fun ds δ => runF Γ md__law_eye false 1 true s__law_eye 0 ds δ }
@[simp] theorem eye_dice (Γ : Glo) : (fs__law_eye Γ).dice = true := id rfl
@[simp] theorem eye_pats (Γ : Glo) : (fs__law_eye Γ).pats = [(1, [], none)] := id rfl
theorem eye_we {Γ : Glo} (h1 : Γ.fn "_law_roll" = some fs__law_roll) {δ : Dice} {Q : D → Dice → Prop} {X : Exc → Dice → Prop} (h : ∀ z δ', looks.contains z = true → Q (.str z) δ') : We ((fs__law_eye Γ).sem [] δ) Q X := by
  refine runF_we ?_
  show Wp (exS Γ [] false 0 s__law_eye [none] δ) _
  have hl : ∀ ds : List D, ds.length ≤ 12 → opv .lstd ds = some (.lst ds) := fun ds h => by rw [o_lstd, if_pos (by omega)]
  simp [s__law_eye, hl, h1]
  refine roll_we (many := 5) (by decide) (by decide) fun n δ' hn => ?_
  have : n < 5 := by omega
  match n, this with
  | 0, _ => exact h (looks.getD 0 []) δ' (by decide)
  | 1, _ => exact h (looks.getD 1 []) δ' (by decide)
  | 2, _ => exact h (looks.getD 2 []) δ' (by decide)
  | 3, _ => exact h (looks.getD 3 []) δ' (by decide)
  | 4, _ => exact h (looks.getD 4 []) δ' (by decide)
def fs__law_two (Γ : Glo) : Fs := { dice := true, np := 2, pats := [(2, [], none)], sem := fun ds δ => runF Γ md__law_two false 4 true s__law_two 0 ds δ }
@[simp] theorem two_dice (Γ : Glo) : (fs__law_two Γ).dice = true := id rfl
@[simp] theorem two_pats (Γ : Glo) : (fs__law_two Γ).pats = [(2, [], none)] := id rfl
theorem two_we {Γ Γa Γb Γc : Glo} (h1 : Γ.fn "_law_roll" = some fs__law_roll) (ha : Γa.fn "_law_roll" = some fs__law_roll) (h2 : Γ.fn "_law_pot" = some (fs__law_pot Γa)) (hb : Γb.fn "_law_roll" = some fs__law_roll) (h3 : Γ.fn "_law_draw" = some (fs__law_draw Γb)) (hc : Γc.fn "_law_roll" = some fs__law_roll) (h4 : Γ.fn "_law_near" = some (fs__law_near Γc))
    {δ : Dice} {Q : D → Dice → Prop} {X : Exc → Dice → Prop} {most : Nat} (hm : most ≤ 60) (h : ∀ pot rows other δ', pot ∈ pots → rows.length ≤ most → other.length ≤ most → (∀ r ∈ rows, r ∈ pot) → (∀ r ∈ other, r ∈ pot) → Q (.tup [rowsD rows, rowsD other]) δ') : We ((fs__law_two Γ).sem [.int most] δ) Q X := by
  refine runF_we ?_
  show Wp (exS Γ [] false 0 s__law_two [none, some (.int most), none, none] δ) _
  unfold s__law_two
  rw [wp_seq]
  simp only [wp_asg, w_calld, h2, Wf_some, pot_dice, pot_pats, w_nil, Wt_tup, List.getElem?_cons_zero, Wy_some, arrG_none, List.nil_append, Wx_some, true_and]
  refine pot_we ha fun pot δ1 hpot => ?_
  obtain ⟨p1, p2, p3, p4, p5⟩ := pot_rows hpot
  simp [h1, h3, h4]
  refine draw_we hb p3 p4 (by omega) fun rows δ2 l1 m1 => ?_
  refine roll_we (by decide) (by decide) fun n δ3 hn => ?_
  simp
  split
  · refine near_we (m := 60) hc p3 p4 (by omega) (by decide) (by decide) fun third δ4 l3 m3 => ?_
    have m3' : ∀ r ∈ third, r ∈ pot := fun r hr => (m3 r hr).elim id (m1 r)
    have := h pot rows (third.take most) δ4 hpot l1 (by simp; omega) m1 (fun r hr => m3' r (List.mem_of_mem_take hr))
    simp [rowsD, cut_hi] at this ⊢
    simpa [List.map_take] using this
  · refine draw_we hb p3 p4 (by omega) fun other δ4 l2 m2 => ?_
    try simp
    exact h pot rows other δ4 hpot l1 l2 m1 m2
end DF
set_option Elab.async false
set_option linter.all false
set_option maxRecDepth 100000
set_option maxHeartbeats 400000
namespace DF
open PySem PySem.Spec L2 DC
theorem ws_app : ∀ (w acc t : List Nat), 32 ∉ w → ws acc (w ++ t) = ws (acc ++ w) t
  | [], acc, t, _ => by simp
  | c :: w, acc, t, h => by
    simp only [List.mem_cons, not_or] at h
    rw [List.cons_append, ws, if_neg (fun z => h.1 z.symm), ws_app w _ _ h.2, List.append_assoc]
    rfl
theorem ws_ok : ∀ (s acc : List Nat), 32 ∉ acc → ∀ w ∈ ws acc s, w ≠ [] ∧ 32 ∉ w
  | [], acc, h, w, hw => by
    simp only [ws, fl] at hw
    split at hw
    · cases hw
    · rename_i e
      have : w = acc := by simpa using hw
      subst this
      exact ⟨e, h⟩
  | c :: s, acc, h, w, hw => by
    rw [ws] at hw
    split at hw
    · rcases List.mem_append.mp hw with hw | hw
      · simp only [fl] at hw
        split at hw
        · cases hw
        · rename_i e
          have : w = acc := by simpa using hw
          subst this
          exact ⟨e, h⟩
      · exact ws_ok s [] (by simp) w hw
    · rename_i e
      exact ws_ok s (acc ++ [c]) (by simp [h]; exact fun z => e z.symm) w hw
theorem ws_joinL : ∀ (L : List (List Nat)), (∀ w ∈ L, w ≠ [] ∧ 32 ∉ w) → ws [] (TL.joinL [32] L) = L
  | [], _ => rfl
  | [p], h => by
    have hp := h p (by simp)
    have := ws_app p [] [] hp.2
    rw [List.append_nil] at this
    rw [TL.joinL, this]
    simp [ws, fl, hp.1]
  | p :: q :: r, h => by
    have hp := h p (by simp)
    rw [TL.joinL, ws_app p _ _ hp.2]
    simp only [List.nil_append, List.singleton_append, List.cons_append]
    rw [ws, if_pos rfl, ws_joinL (q :: r) fun w hw => h w (List.mem_cons_of_mem _ hw)]
    simp [fl, hp.1]
theorem words_join (s : List Nat) : wordsOf (TL.joinL [32] (wordsOf s)) = wordsOf s := by
  rw [wordsOf_ws, wordsOf_ws, ws_joinL _ (ws_ok s [] (by simp))]
theorem words_flat (s : List Nat) : TL.joinL [] (wordsOf s) = s.filter (fun c => !(c == 32)) := by
  rw [join_nil, wordsOf_ws, flat_ws]; rfl
theorem words_strip (s : List Nat) : wordsOf (stripL [32] s) = wordsOf s := by rw [wordsOf_ws, wordsOf_ws, ws_strip]
theorem drop_same (s : List Nat) (h : s.head? ≠ some 32) : s.dropWhile ([32] : List Nat).contains = s := by
  cases s with
  | nil => rfl
  | cons c s => rw [List.dropWhile_cons_of_neg]; simpa using h
theorem strip_same (s : List Nat) (h : s.head? ≠ some 32) (h' : s.getLast? ≠ some 32) : stripL [32] s = s := by
  unfold stripL
  rw [drop_same s h, drop_same s.reverse (by simpa using h')]
  simp
theorem upC_idem (c : Nat) : upC (upC c) = upC c := by
  unfold upC
  by_cases h : 97 ≤ c ∧ c ≤ 122
  · have h2 : ¬ (97 ≤ c - 32 ∧ c - 32 ≤ 122) := by omega
    simp only [h, and_self, if_true, h2, if_false]
  · simp only [h, if_false]
theorem keyF_idem (s z : List Nat) : keyF (keyF s z) z = keyF s z := by
  unfold keyF
  split
  · rfl
  split
  · rw [List.map_map]; exact List.map_congr_left fun c _ => upC_idem c
  split
  · rw [words_join]
  split
  · rw [words_flat, words_flat, List.filter_filter]; simp
  · exact strip_same _ (strip_head s) (strip_last s)
theorem joinL_sub (S : List Nat) : ∀ L : List (List Nat), ∀ c ∈ TL.joinL S L, c ∈ S ∨ ∃ w ∈ L, c ∈ w
  | [], c, h => by cases h
  | [p], c, h => .inr ⟨p, by simp, h⟩
  | p :: q :: r, c, h => by
    rw [TL.joinL] at h
    rcases List.mem_append.mp h with h | h
    · exact .inr ⟨p, by simp, h⟩
    rcases List.mem_append.mp h with h | h
    · exact .inl h
    · rcases joinL_sub S (q :: r) c h with h | ⟨w, hw, hc⟩
      · exact .inl h
      · exact .inr ⟨w, List.mem_cons_of_mem _ hw, hc⟩
theorem strip_sub (s : List Nat) : (stripL [32] s).Sublist s := by
  unfold stripL
  have h1 := (List.dropWhile_sublist (l := (s.dropWhile ([32] : List Nat).contains).reverse) ([32] : List Nat).contains).reverse
  rw [List.reverse_reverse] at h1
  exact h1.trans (List.dropWhile_sublist _)
theorem join_len : ∀ L : List (List Nat), (∀ w ∈ L, w ≠ []) → (TL.joinL [32] L).length + 1 = (L.map List.length).sum + L.length ∨ L = []
  | [], _ => .inr rfl
  | [p], _ => .inl (by simp [TL.joinL])
  | p :: q :: r, h => by
    rcases join_len (q :: r) fun w hw => h w (List.mem_cons_of_mem _ hw) with e | e
    · refine .inl ?_
      rw [TL.joinL]
      simp at e ⊢
      omega
    · cases e
theorem ws_len : ∀ (s acc : List Nat), ((ws acc s).map List.length).sum + (ws acc s).length ≤ acc.length + s.length + 1
  | [], acc => by
    simp only [ws, fl]
    split <;> simp
  | c :: s, acc => by
    rw [ws]
    split
    · have := ws_len s []
      simp only [fl]
      split
      · simp at this ⊢; omega
      · simp at this ⊢; omega
    · have := ws_len s (acc ++ [c])
      simp at this ⊢; omega
theorem keyF_len (s z : List Nat) : (keyF s z).length ≤ s.length := by
  unfold keyF
  split
  · exact Nat.le_refl _
  split
  · simp
  split
  · rw [wordsOf_ws]
    have h1 := ws_len s []
    rcases join_len (ws [] s) fun w hw => (ws_ok s [] (by simp) w hw).1 with h2 | h2
    · simp at h1; omega
    · rw [h2]; simp [TL.joinL]
  split
  · rw [words_flat]; exact List.length_filter_le _ _
  · exact (strip_sub s).length_le
theorem keyF_mem (s z : List Nat) (h : ∀ c ∈ s, 32 ≤ c ∧ c ≤ 126) : ∀ c ∈ keyF s z, 32 ≤ c ∧ c ≤ 126 := by
  unfold keyF
  intro c hc
  split at hc
  · exact h c hc
  split at hc
  · obtain ⟨d, hd, rfl⟩ := List.mem_map.mp hc
    have := h d hd
    unfold upC
    split <;> omega
  split at hc
  · rcases joinL_sub _ _ c hc with h1 | ⟨w, hw, h2⟩
    · have : c = 32 := by simpa using h1
      omega
    · have : c ∈ (wordsOf s).flatten := List.mem_flatten.mpr ⟨w, hw, h2⟩
      rw [← join_nil, words_flat] at this
      exact h c (List.mem_filter.mp this).1
  split at hc
  · rw [words_flat] at hc
    exact h c (List.mem_filter.mp hc).1
  · exact h c ((strip_sub s).subset hc)
theorem rowB_iff (s : List Nat) : rowB s = true ↔ s.length ≤ 40 ∧ ∀ c ∈ s, 32 ≤ c ∧ c ≤ 126 := by
  simp [rowB]
theorem keyF_row {s : List Nat} (z : List Nat) (h : rowB s = true) : rowB (keyF s z) = true := by
  rw [rowB_iff] at h ⊢
  exact ⟨Nat.le_trans (keyF_len s z) h.1, keyF_mem s z h.2⟩
theorem alike_ends {a b : List Nat} (h : keyF a sAll = keyF b sAll) : keyF a sEnds = keyF b sEnds := by
  have h : a = b := h
  rw [h]
theorem alike_runs {a b : List Nat} (h : keyF a sEnds = keyF b sEnds) : keyF a sRuns = keyF b sRuns := by
  have h : stripL [32] a = stripL [32] b := h
  show TL.joinL [32] (wordsOf a) = TL.joinL [32] (wordsOf b)
  rw [← words_strip a, h, words_strip]
theorem alike_none {a b : List Nat} (h : keyF a sRuns = keyF b sRuns) : keyF a sNone = keyF b sNone := by
  have h : TL.joinL [32] (wordsOf a) = TL.joinL [32] (wordsOf b) := h
  show TL.joinL [] (wordsOf a) = TL.joinL [] (wordsOf b)
  rw [← words_join a, h, words_join]
end DF
set_option Elab.async false
set_option linter.all false
set_option maxRecDepth 100000
set_option maxHeartbeats 400000
namespace DF
open PySem PySem.Spec L2 DC
def N_need_row : List Str := ["thing"]
def md_need_row : List Bool := []
def s_need_row : Sm := (.seq (.iff (.not (.call "is_row" false 0 (.cons (.var 0) .nil) .nil)) (.seq (.rai "BadRows") .skip) .skip) .skip)
def N_key_of : List Str := ["row", "look"]
def md_key_of : List Bool := []
def s_key_of : Sm := (.seq (.exp (.call "need_row" false 0 (.cons (.var 0) .nil) .nil)) (.seq (.exp (.call "need_look" false 0 (.cons (.var 1) .nil) .nil)) (.seq (.ret (.call "keyed" false 0 (.cons (.var 0) (.cons (.var 1) .nil)) .nil)) .skip)))
def N_looks_alike : List Str := ["row", "other", "look"]
def md_looks_alike : List Bool := []
def s_looks_alike : Sm := (.seq (.exp (.call "need_row" false 0 (.cons (.var 0) .nil) .nil)) (.seq (.exp (.call "need_row" false 0 (.cons (.var 1) .nil) .nil)) (.seq (.exp (.call "need_look" false 0 (.cons (.var 2) .nil) .nil)) (.seq (.ret (.op .eq (.cons (.call "keyed" false 0 (.cons (.var 0) (.cons (.var 2) .nil)) .nil) (.cons (.call "keyed" false 0 (.cons (.var 1) (.cons (.var 2) .nil)) .nil) .nil)))) .skip))))
def fs_need_row : Fs := { np := 1, pats := [(1, [], none)], sem := fun ds δ => sem1 (fun d => if isRowD d = true then .ok .non δ else .exc ⟨"BadRows", none⟩ δ) ds }
theorem sem_need_row {Γ : Glo} (h1 : Γ.fn "is_row" = some fs_is_row) : Does Γ md_need_row 1 s_need_row fs_need_row := by
  intro ds δ h
  obtain ⟨d, rfl⟩ := sem1_of h
  refine ⟨0, runF_of ?_⟩
  show Wp (exS Γ [] false 0 s_need_row [some d] δ) _
  cases e : isRowD d <;> simp [s_need_row, h1, fs_is_row, fs_need_row, e]
def keyR (a z : D) (δ : Dice) : Res D := if isRowD a = true then (if isLookD z = true then semS2 (fun a z => .ok (.str (keyF a z)) δ) a z else .exc ⟨"BadLook", none⟩ δ) else .exc ⟨"BadRows", none⟩ δ
def fs_key_of : Fs := { np := 2, pats := [(1, [], some [.inl 0, .inr (.str sAll)]), (1, ["look"], none), (2, [], none)], sem := fun ds δ => sem2 (fun a z => keyR a z δ) ds }
theorem isRow_str {d : D} (h : isRowD d = true) : ∃ s, d = .str s ∧ rowB s = true := by
  cases d with
  | str s => exact ⟨s, rfl, h⟩
  | _ => cases h
theorem isLook_str {d : D} (h : isLookD d = true) : ∃ s, d = .str s ∧ looks.contains s = true := by
  cases d with
  | str s => exact ⟨s, rfl, h⟩
  | _ => cases h
theorem rowB_ok {s : List Nat} (h : rowB s = true) : okS s = true := by
  have := ((rowB_iff s).mp h).1
  simp [okS]; omega
theorem sem_key_of {Γ : Glo} (h1 : Γ.fn "need_row" = some fs_need_row) (h2 : Γ.fn "need_look" = some fs_need_look) (h3 : Γ.fn "keyed" = some fs_keyed) : Does Γ md_key_of 2 s_key_of fs_key_of := by
  intro ds δ h
  obtain ⟨a, z, rfl⟩ := sem2_of h
  refine ⟨0, runF_of ?_⟩
  show Wp (exS Γ [] false 0 s_key_of [some a, some z] δ) _
  cases e : isRowD a with
  | false => simp [s_key_of, h1, fs_need_row, fs_key_of, e, keyR]
  | true => cases e2 : isLookD z with
    | false => simp [s_key_of, h1, h2, fs_need_row, fs_need_look, fs_key_of, e, e2, keyR]
    | true =>
      obtain ⟨s, rfl, hs⟩ := isRow_str e
      obtain ⟨t, rfl, ht⟩ := isLook_str e2
      simp [s_key_of, h1, h2, h3, fs_need_row, fs_need_look, fs_key_of, e, e2, keyR, fs_keyed, rowB_ok hs]
def alikeR (a b z : D) (δ : Dice) : Res D := if isRowD a = true then (if isRowD b = true then (if isLookD z = true then semS2 (fun a b => semS2 (fun z _ => .ok (.bl (keyF a z == keyF b z)) δ) z z) a b else .exc ⟨"BadLook", none⟩ δ) else .exc ⟨"BadRows", none⟩ δ) else .exc ⟨"BadRows", none⟩ δ
def fs_looks_alike : Fs := { np := 3, pats := [(2, [], some [.inl 0, .inl 1, .inr (.str sAll)]), (2, ["look"], none)], sem := fun ds δ => sem3 (fun a b z => alikeR a b z δ) ds }
theorem sem_looks_alike {Γ : Glo} (h1 : Γ.fn "need_row" = some fs_need_row) (h2 : Γ.fn "need_look" = some fs_need_look) (h3 : Γ.fn "keyed" = some fs_keyed) : Does Γ md_looks_alike 3 s_looks_alike fs_looks_alike := by
  intro ds δ h
  obtain ⟨a, b, z, rfl⟩ := sem3_of h
  refine ⟨0, runF_of ?_⟩
  show Wp (exS Γ [] false 0 s_looks_alike [some a, some b, some z] δ) _
  cases e : isRowD a with
  | false => simp [s_looks_alike, h1, fs_need_row, fs_looks_alike, e, alikeR]
  | true => cases e3 : isRowD b with
    | false => simp [s_looks_alike, h1, fs_need_row, fs_looks_alike, e, e3, alikeR]
    | true => cases e2 : isLookD z with
      | false => simp [s_looks_alike, h1, h2, fs_need_row, fs_need_look, fs_looks_alike, e, e2, e3, alikeR]
      | true =>
        obtain ⟨s, rfl, hs⟩ := isRow_str e
        obtain ⟨u, rfl, hu⟩ := isRow_str e3
        obtain ⟨t, rfl, ht⟩ := isLook_str e2
        simp [s_looks_alike, h1, h2, h3, fs_need_row, fs_need_look, fs_looks_alike, e, e2, e3, alikeR, fs_keyed, rowB_ok hs, rowB_ok hu]
theorem key_at {a z : List Nat} {δ : Dice} (h : rowB a = true) (h2 : looks.contains z = true) : fs_key_of.sem [.str a, .str z] δ = .ok (.str (keyF a z)) δ := by
  have e1 : isRowD (.str a) = true := h
  have e2 : isLookD (.str z) = true := h2
  simp only [fs_key_of, sem2_at, keyR, e1, e2, if_true, semS2_at]
theorem alike_at {a b z : List Nat} {δ : Dice} (h : rowB a = true) (h1 : rowB b = true) (h2 : looks.contains z = true) : fs_looks_alike.sem [.str a, .str b, .str z] δ = .ok (.bl (keyF a z == keyF b z)) δ := by
  have e1 : isRowD (.str a) = true := h
  have e3 : isRowD (.str b) = true := h1
  have e2 : isLookD (.str z) = true := h2
  simp only [fs_looks_alike, sem3_at, alikeR, e1, e2, e3, if_true, semS2_at]
theorem lkey_at {a z : List Nat} {δ : Dice} (h : okS a = true) : fs__law_key.sem [.str a, .str z] δ = .ok (.str (keyF a z)) δ := by
  simp only [fs__law_key, sem2_at, semS2_at, h, if_true]
@[simp] theorem ko_dice : fs_key_of.dice = false := id rfl
@[simp] theorem ko_pats : fs_key_of.pats = [(1, [], some [Sum.inl 0, Sum.inr (D.str sAll)]), (1, [("look" : Str)], none), (2, [], none)] := id rfl
@[simp] theorem la_dice : fs_looks_alike.dice = false := id rfl
@[simp] theorem la_pats : fs_looks_alike.pats = [(2, [], some [Sum.inl 0, Sum.inl 1, Sum.inr (D.str sAll)]), (2, [("look" : Str)], none)] := id rfl
@[simp] theorem lkey_dice : fs__law_key.dice = false := id rfl
@[simp] theorem lkey_pats : fs__law_key.pats = [(2, [], none)] := id rfl
@[simp] theorem arrG_ko (a : D) : arrG (some [Sum.inl 0, Sum.inr (D.str sAll)]) [a] = some [a, .str sAll] := id rfl
end DF
set_option Elab.async false
set_option linter.all false
set_option maxRecDepth 100000
set_option maxHeartbeats 400000
namespace DF
open PySem PySem.Spec L2 DC
def N_is_number : List Str := ["thing", "low", "high"]
def md_is_number : List Bool := []
def s_is_number : Sm := (.seq (.iff (.or (.not (.op (.isi "int") (.cons (.var 0) .nil))) (.or (.op (.isi "bool") (.cons (.var 0) .nil)) (.op .lt (.cons (.var 0) (.cons (.var 1) .nil))))) (.seq (.ret (.cst (.bl false))) .skip) .skip) (.seq (.ret (.or (.op .isn (.cons (.var 2) (.cons (.cst .non) .nil))) (.op .le (.cons (.var 0) (.cons (.var 2) .nil))))) .skip))
def N_is_step : List Str := ["thing", "row"]
def md_is_step : List Bool := []
def s_is_step : Sm := (.seq (.iff (.or (.not (.op (.isi "tuple") (.cons (.var 0) .nil))) (.or (.op .ne (.cons (.op .len (.cons (.var 0) .nil)) (.cons (.cst (.int 2)) .nil))) (.not (.op (.isi "str") (.cons (.op .idx (.cons (.var 0) (.cons (.cst (.int 0)) .nil))) .nil))))) (.seq (.ret (.cst (.bl false))) .skip) .skip) (.seq (.iff (.op .eq (.cons (.op .idx (.cons (.var 0) (.cons (.cst (.int 0)) .nil))) (.cons (.cst (.str [112, 117, 116])) .nil))) (.seq (.ret (.and (.op (.isi "tuple") (.cons (.op .idx (.cons (.var 0) (.cons (.cst (.int 1)) .nil))) .nil)) (.and (.op .ne (.cons (.op .idx (.cons (.var 0) (.cons (.cst (.int 1)) .nil))) (.cons (.op .tupd .nil) .nil))) (.op .all (.cons (.comp [1] (.nm 1) (.op .idx (.cons (.var 0) (.cons (.cst (.int 1)) .nil))) (.cst (.bl true)) (.call "is_row" false 0 (.cons (.var 1) .nil) .nil)) .nil))))) .skip) .skip) (.seq (.ret (.and (.op .isin (.cons (.op .idx (.cons (.var 0) (.cons (.cst (.int 0)) .nil))) (.cons (.op .tupd (.cons (.cst (.str [107, 101, 101, 112])) (.cons (.cst (.str [100, 114, 111, 112])) .nil))) .nil))) (.call "is_number" false 0 (.cons (.op .idx (.cons (.var 0) (.cons (.cst (.int 1)) .nil))) (.cons (.cst (.int 1)) .nil)) .nil))) .skip)))
def N_form_fault : List Str := ["thing", "at", "step"]
def md_form_fault : List Bool := []
def s_form_fault : Sm := (.seq (.iff (.not (.op (.isi "tuple") (.cons (.var 0) .nil))) (.seq (.ret (.op .tupd (.cons (.cst .non) .nil))) .skip) .skip) (.seq (.fr (.cons (.nm 1) (.cons (.nm 2) .nil)) (.op .enm (.cons (.var 0) .nil)) (.seq (.iff (.not (.call "is_step" false 0 (.cons (.var 2) .nil) .nil)) (.seq (.ret (.op .tupd (.cons (.var 1) .nil))) .skip) .skip) .skip)) (.seq (.ret (.op .tupd .nil)) .skip)))
def N_need_script : List Str := ["thing", "found"]
def md_need_script : List Bool := []
def s_need_script : Sm := (.seq (.asg 1 (.call "form_fault" false 0 (.cons (.var 0) .nil) .nil)) (.seq (.iff (.op .ne (.cons (.var 1) (.cons (.op .tupd .nil) .nil))) (.seq .bad .skip) .skip) .skip))
section
variable {Γ : Glo} {md : List Bool} {fr : Bool} {n : Nat} {P : Post}
theorem for_fold {α β : Type} {p : Pat} {b : Sm} (h : α → D) (enc : Nat → β → En → Prop) (step : β → α → β) {l : List α} {st : β} {ρ : En} {δ : Dice} (h0 : enc 0 st ρ)
    (hb : ∀ i st a ρ, l[i]? = some a → enc i st ρ → ∃ ρ1, bindP p (h a) ρ = some ρ1 ∧ Wp (exS Γ md fr n b ρ1 δ) ⟨fun ρ' δ' => enc (i + 1) (step st a) ρ' ∧ δ' = δ, fun ρ' δ' => enc (i + 1) (step st a) ρ' ∧ δ' = δ, P.rt, P.ex⟩)
    (hq : ∀ ρ, enc l.length (l.foldl step st) ρ → P.nx ρ δ) : Wp (forL p (exS Γ md fr n b) (l.map h) ρ δ) P := by
  refine for_list h (l := l) (fun r ρ δ' => δ' = δ ∧ ∃ (i : Nat) (st' : β), l.drop i = r ∧ i ≤ l.length ∧ enc i st' ρ ∧ r.foldl step st' = l.foldl step st) ⟨rfl, 0, st, rfl, Nat.zero_le _, h0, rfl⟩ ?_ ?_
  · rintro ρ δ' ⟨rfl, i, st', e1, e2, e3, e4⟩
    have hi : i = l.length := by
      have := List.drop_eq_nil_iff.mp e1
      omega
    subst hi
    have e4 : st' = l.foldl step st := e4
    rw [e4] at e3
    exact hq ρ e3
  · rintro a r ρ δ' ⟨rfl, i, st', e1, e2, e3, e4⟩
    have ha : l[i]? = some a := by
      have := congrArg (fun z => z[0]?) e1
      simpa using this
    have hr : l.drop (i + 1) = r := by
      have := congrArg List.tail e1
      simpa using this
    have hi : i < l.length := (List.getElem?_eq_some_iff.mp ha).1
    obtain ⟨ρ1, g1, g2⟩ := hb i st' a ρ ha e3
    exact ⟨ρ1, g1, g2.mono (fun ρ' δ2 ⟨q1, q2⟩ => ⟨q2, i + 1, step st' a, hr, hi, q1, e4⟩) (fun ρ' δ2 ⟨q1, q2⟩ => ⟨q2, i + 1, step st' a, hr, hi, q1, e4⟩) (fun _ _ z => z) (fun _ _ z => z)⟩
end
def isNumD (d : D) (low : Int) (high : Option Int) : Bool := match d with
  | .int i => decide (low ≤ i) && (match high with | none => true | some j => decide (i ≤ j))
  | _ => false
def optI : D → Option (Option Int)
  | .non => some none
  | .int i => some (some i)
  | _ => none
def rOO {α : Type} (o : Option α) (f : α → Res D) : Res D := match o with
  | some b => f b
  | none => .stk
@[simp] theorem rOO_some {α : Type} (a : α) (f : α → Res D) : rOO (some a) f = f a := rfl
def fs_is_number : Fs := { np := 3, pats := [(2, [], some [.inl 0, .inl 1, .inr .non]), (3, [], none)], sem := fun ds δ => sem3 (fun d a b => rOO (intD a) fun low => rOO (optI b) fun high => .ok (.bl (isNumD d low high)) δ) ds }
def unI : Option Int → D
  | none => .non
  | some i => .int i
@[simp] theorem num_dice : fs_is_number.dice = false := id rfl
@[simp] theorem num_pats : fs_is_number.pats = [(2, [], some [Sum.inl 0, Sum.inl 1, Sum.inr D.non]), (3, [], none)] := id rfl
@[simp] theorem arrG_2n (a b : D) : arrG (some [Sum.inl 0, Sum.inl 1, Sum.inr D.non]) [a, b] = some [a, b, .non] := id rfl
theorem optI_eq {d : D} {o : Option Int} (h : optI d = some o) : d = unI o := by
  cases d <;> simp [optI] at h <;> subst h <;> rfl
theorem sem_is_number {Γ : Glo} : Does Γ md_is_number 3 s_is_number fs_is_number := by
  intro ds δ h
  obtain ⟨d, a, b, rfl⟩ := sem3_of h
  cases e1 : intD a with
  | none => exact absurd (by simp [fs_is_number, e1, rOO]) h
  | some low =>
    cases e2 : optI b with
    | none => exact absurd (by simp [fs_is_number, e1, e2, rOO]) h
    | some high =>
      cases intD_eq e1
      have e3 := optI_eq e2
      refine ⟨0, runF_of ?_⟩
      show Wp (exS Γ [] false 0 s_is_number [some d, some (.int low), some b] δ) _
      subst e3
      cases high with
      | none => cases d with
        | int i =>
          by_cases h1 : i < low
          · have h1' : ¬ low ≤ i := by omega
            simp [s_is_number, fs_is_number, isNumD, unI, optI, h1, h1']
          · have h1' : low ≤ i := by omega
            simp [s_is_number, fs_is_number, isNumD, unI, optI, h1, h1']
        | _ => simp [s_is_number, fs_is_number, isNumD, unI, optI]
      | some j => cases d with
        | int i =>
          by_cases h1 : i < low
          · have h1' : ¬ low ≤ i := by omega
            simp [s_is_number, fs_is_number, isNumD, unI, optI, h1, h1']
          · have h1' : low ≤ i := by omega
            by_cases h2 : j < i
            · have h2' : ¬ i ≤ j := by omega
              simp [s_is_number, fs_is_number, isNumD, unI, optI, h1, h1', h2, h2']
            · have h2' : i ≤ j := by omega
              simp [s_is_number, fs_is_number, isNumD, unI, optI, h1, h1', h2, h2']
        | _ => simp [s_is_number, fs_is_number, isNumD, unI, optI]
@[simp] theorem atI_0 {α : Type} (a : α) (l : List α) : atI (a :: l) 0 = some a := atI_nat (j := 0) rfl
@[simp] theorem atI_1 {α : Type} (a b : α) (l : List α) : atI (a :: b :: l) 1 = some b := atI_nat (j := 1) rfl
@[simp] theorem atI_2 {α : Type} (a b c : α) (l : List α) : atI (a :: b :: c :: l) 2 = some c := atI_nat (j := 2) rfl
@[simp] theorem atI_3 {α : Type} (a b c d : α) (l : List α) : atI (a :: b :: c :: d :: l) 3 = some d := atI_nat (j := 3) rfl
theorem atI_n {α : Type} {l : List α} {i : Nat} {a : α} (h : l[i]? = some a) : atI l (i : Int) = some a := atI_nat h
def sKeep : List Nat := [107, 101, 101, 112]
def sDrop : List Nat := [100, 114, 111, 112]
def sPut : List Nat := [112, 117, 116]
def isStepD : D → Bool
  | .tup [.str w, x] => if w = sPut then (match x with | .tup rs => !rs.isEmpty && rs.all isRowD | _ => false) else (decide (w = sKeep) || decide (w = sDrop)) && isNumD x 1 none
  | _ => false
def fs_is_step : Fs := { np := 1, pats := [(1, [], none)], sem := fun ds δ => sem1 (fun d => if d.shp = true then .ok (.bl (isStepD d)) δ else .stk) ds }
theorem deps_cons {x : D} {xs : List D} {n : Nat} (h : deps (x :: xs) = some n) : ∃ a b, x.dep = some a ∧ deps xs = some b ∧ a ≤ n ∧ b ≤ n := by
  simp only [deps] at h
  cases e1 : x.dep with
  | none => rw [e1] at h; cases h
  | some a => cases e2 : deps xs with
    | none => rw [e1, e2] at h; cases h
    | some b => rw [e1, e2] at h; cases h; exact ⟨a, b, rfl, rfl, Nat.le_max_left _ _, Nat.le_max_right _ _⟩
theorem shp_iff {d : D} : d.shp = true ↔ ∃ n, d.dep = some n ∧ n ≤ 64 := by
  unfold D.shp
  cases e : d.dep with
  | none => simp
  | some n => simp
theorem shp_of {ds : List D} {d : D} (h : (D.tup ds).shp = true) (hm : d ∈ ds) : d.shp = true := by
  obtain ⟨n, e, hn⟩ := shp_iff.mp h
  have e : (deps ds).map (· + 1) = some n := by simpa only [D.dep] using e
  obtain ⟨m, e1, e2⟩ := map_opt e
  have key : ∀ (ds : List D) (m : Nat), deps ds = some m → d ∈ ds → ∃ k, d.dep = some k ∧ k ≤ m := by
    intro ds
    induction ds with
    | nil => intro m _ h; cases h
    | cons x xs ih =>
      intro m h hm
      obtain ⟨a, b, h1, h2, h3, h4⟩ := deps_cons h
      rcases List.mem_cons.mp hm with rfl | hm
      · exact ⟨a, h1, h3⟩
      · obtain ⟨k, g1, g2⟩ := ih b h2 hm
        exact ⟨k, g1, by omega⟩
  obtain ⟨k, g1, g2⟩ := key ds m e1 hm
  exact shp_iff.mpr ⟨k, g1, by omega⟩
def isUnit : D → Bool
  | .tup [] => true
  | _ => false
@[simp] theorem isUnit_nil : isUnit (.tup []) = true := rfl
@[simp] theorem isUnit_cons (a : D) (r : List D) : isUnit (.tup (a :: r)) = false := rfl
theorem ne_unit {x : D} (h : x.shp = true) : opv .ne [x, .tup []] = some (.bl (!isUnit x)) := by
  rw [o_ne]
  have : (D.tup []).shp = true := by decide
  rw [h, this]
  cases x with
  | tup xs => cases xs <;> rfl
  | _ => rfl
theorem in_kd (w : List Nat) : dIn (.str w) (.tup [.str sKeep, .str sDrop]) = some (decide (w = sKeep) || decide (w = sDrop)) := by
  show (if ((D.str w).scl && [D.str sKeep, .str sDrop].all D.scl) = true then some ([D.str sKeep, .str sDrop].any fun y => y.eqv (.str w)) else none) = _
  have e : ∀ a b : List Nat, (a == b) = decide (b = a) := fun a b => by
    by_cases h : a = b
    · simp [h]
    · have h' : ¬ b = a := fun z => h z.symm
      simp [h, h']
  simp [e]
theorem sem_is_step {Γ : Glo} (h1 : Γ.fn "is_row" = some fs_is_row) (h2 : Γ.fn "is_number" = some fs_is_number) : Does Γ md_is_step 2 s_is_step fs_is_step := by
  intro ds δ h
  obtain ⟨d, rfl⟩ := sem1_of h
  have hd : d.shp = true := by
    cases q : d.shp with
    | true => rfl
    | false => exact absurd (by simp [fs_is_step, q]) h
  refine ⟨0, runF_of ?_⟩
  show Wp (exS Γ [] false 0 s_is_step [some d, none] δ) _
  match d, hd with
  | .tup [.str w, x], hd =>
    have hx := shp_of hd (show x ∈ [D.str w, x] by simp)
    by_cases hw : w = sPut
    · subst hw
      have e0 : ([112, 117, 116] : List Nat) = sPut := rfl
      cases x with
      | tup rs =>
        have ne := ne_unit hx
        cases rs with
        | nil => simp [s_is_step, fs_is_step, hd, e0, isStepD, ne]
        | cons r rs =>
          simp [s_is_step, fs_is_step, hd, e0, isStepD, ne]
          have key : ∀ Q : List D → Dice → Prop, Q ((r :: rs).map fun c => .bl (isRowD c)) δ → Wl (compL (bindP (.nm 1)) (ev Γ (.cst (.bl true))) (ev Γ (.call "is_row" false 0 (.cons (.var 1) .nil) .nil)) [some (.tup [.str sPut, .tup (r :: rs)]), none] (r :: rs) δ) Q := fun Q q => by
            have := compA (fb := bindP (.nm 1)) (fc := ev Γ (.cst (.bl true))) (fe := ev Γ (.call "is_row" false 0 (.cons (.var 1) .nil) .nil)) (ρ := [some (.tup [.str sPut, .tup (r :: rs)]), none]) (δ := δ) (id : D → D) (fun _ => true) (fun c => .bl (isRowD c)) (l := r :: rs) (Q := Q) (fun c _ => ⟨_, rfl, by simp, fun _ => by simp [h1, fs_is_row]⟩) (by simpa using q)
            simpa using this
          refine key _ ?_
          rw [blsOf_map]
          simp [List.all_map]
      | _ => simp [s_is_step, fs_is_step, hd, e0, isStepD]
    · have hw' : ¬ w = [112, 117, 116] := hw
      have ik := in_kd w
      simp only [sKeep, sDrop] at ik
      have nm : fs_is_number.sem [x, .int 1, .non] (0, 0, []) = .ok (.bl (isNumD x 1 none)) (0, 0, []) := rfl
      simp [s_is_step, fs_is_step, hd, isStepD, hw, hw', ik, h2, nm]
      by_cases k1 : w = sKeep
      · have k1' : w = [107, 101, 101, 112] := k1
        simp [k1', sKeep, sDrop]
      · have k1' : ¬ w = [107, 101, 101, 112] := k1
        by_cases k2 : w = sDrop
        · have k2' : w = [100, 114, 111, 112] := k2
          simp [k1', k2', sKeep, sDrop]
        · have k2' : ¬ w = [100, 114, 111, 112] := k2
          simp [k1', k2', sKeep, sDrop]
  | .tup [], hd => simp [s_is_step, fs_is_step, hd, isStepD]
  | .tup [a], hd => simp [s_is_step, fs_is_step, hd, isStepD]
  | .tup (a :: b :: c :: r), hd =>
    have : ¬ ((r.length : Int) + 1 + 1 + 1 = 2) := by omega
    simp [s_is_step, fs_is_step, hd, isStepD, this]
  | .tup [.non, x], hd => simp [s_is_step, fs_is_step, hd, isStepD]
  | .tup [.bl _, x], hd => simp [s_is_step, fs_is_step, hd, isStepD]
  | .tup [.int _, x], hd => simp [s_is_step, fs_is_step, hd, isStepD]
  | .tup [.lst _, x], hd => simp [s_is_step, fs_is_step, hd, isStepD]
  | .tup [.tup _, x], hd => simp [s_is_step, fs_is_step, hd, isStepD]
  | .tup [.dic _ _, x], hd => simp [s_is_step, fs_is_step, hd, isStepD]
  | .tup [.scr _, x], hd => simp [s_is_step, fs_is_step, hd, isStepD]
  | .non, hd => simp [s_is_step, fs_is_step, hd, isStepD]
  | .bl _, hd => simp [s_is_step, fs_is_step, hd, isStepD]
  | .int _, hd => simp [s_is_step, fs_is_step, hd, isStepD]
  | .str _, hd => simp [s_is_step, fs_is_step, hd, isStepD]
  | .lst _, hd => simp [s_is_step, fs_is_step, hd, isStepD]
end DF
set_option Elab.async false
set_option linter.all false
set_option maxRecDepth 100000
set_option maxHeartbeats 400000
namespace DF
open PySem PySem.Spec L2 DC
structure Cod (α : Type) where
  enc : α → D
  dec : D → Option α
  de : ∀ x, dec (enc x) = some x
  ed : ∀ d x, dec d = some x → d = enc x
def cAny : Cod D := ⟨id, some, fun _ => rfl, fun d x h => by cases h; rfl⟩
def cInt : Cod Int := ⟨.int, fun d => match d with | .int i => some i | _ => none, fun _ => rfl, fun d x h => by cases d <;> simp at h; rw [h]⟩
def cNat : Cod Nat := ⟨fun n => .int n, fun d => match d with | .int i => if 0 ≤ i then some i.toNat else none | _ => none, fun x => by simp, fun d x h => by
  cases d <;> simp at h
  rw [← h.2]; congr 1; omega⟩
def cStr : Cod (List Nat) := ⟨.str, fun d => match d with | .str s => some s | _ => none, fun _ => rfl, fun d x h => by cases d <;> simp at h; rw [h]⟩
def allO {α : Type} (f : D → Option α) : List D → Option (List α)
  | [] => some []
  | d :: ds => match f d, allO f ds with
    | some a, some r => some (a :: r)
    | _, _ => none
theorem allO_de {α : Type} (c : Cod α) : ∀ l : List α, allO c.dec (l.map c.enc) = some l
  | [] => rfl
  | a :: l => by simp only [List.map_cons, allO, c.de, allO_de c l]
theorem allO_ed {α : Type} (c : Cod α) : ∀ (ds : List D) (l : List α), allO c.dec ds = some l → ds = l.map c.enc
  | [], l, h => by cases h; rfl
  | d :: ds, l, h => by
    simp only [allO] at h
    split at h
    · rename_i a r h1 h2
      cases h
      rw [c.ed d a h1, allO_ed c ds r h2]; rfl
    · cases h
def cLst {α : Type} (c : Cod α) : Cod (List α) := ⟨fun l => .lst (l.map c.enc), fun d => match d with | .lst ds => allO c.dec ds | _ => none, fun l => allO_de c l, fun d x h => by
  cases d <;> simp at h
  rw [allO_ed c _ _ h]⟩
def cTup {α : Type} (c : Cod α) : Cod (List α) := ⟨fun l => .tup (l.map c.enc), fun d => match d with | .tup ds => allO c.dec ds | _ => none, fun l => allO_de c l, fun d x h => by
  cases d <;> simp at h
  rw [allO_ed c _ _ h]⟩
def cTwo {α β : Type} (a : Cod α) (b : Cod β) : Cod (α × β) := ⟨fun p => .tup [a.enc p.1, b.enc p.2], fun d => match d with | .tup [x, y] => (match a.dec x, b.dec y with | some p, some q => some (p, q) | _, _ => none) | _ => none, fun p => by simp [a.de, b.de], fun d x h => by
  match d, h with
  | .tup [u, v], h =>
    simp only at h
    split at h
    · rename_i p q h1 h2
      cases h
      rw [a.ed _ _ h1, b.ed _ _ h2]
    · cases h⟩
def cRows : Cod (List (List Nat)) := ⟨rowsD, strsD, strsD_at, fun d x h => strsD_eq h⟩
def cPairs : Cod (List (Nat × Nat)) := cLst (cTwo cNat cNat)
def mk1 {α : Type} (a : Cod α) (ok : α → Bool) (g : α → D) : Fs := { np := 1, pats := [(1, [], none)], sem := fun ds δ => match ds with
  | [x] => (match a.dec x with | some x => if ok x then .ok (g x) δ else .stk | none => .stk)
  | _ => .stk }
def mk2 {α β : Type} (a : Cod α) (b : Cod β) (ok : α → β → Bool) (g : α → β → D) : Fs := { np := 2, pats := [(2, [], none)], sem := fun ds δ => match ds with
  | [x, y] => (match a.dec x, b.dec y with | some x, some y => if ok x y then .ok (g x y) δ else .stk | _, _ => .stk)
  | _ => .stk }
def mk3 {α β γ : Type} (a : Cod α) (b : Cod β) (c : Cod γ) (ok : α → β → γ → Bool) (g : α → β → γ → D) : Fs := { np := 3, pats := [(3, [], none)], sem := fun ds δ => match ds with
  | [x, y, z] => (match a.dec x, b.dec y, c.dec z with | some x, some y, some z => if ok x y z then .ok (g x y z) δ else .stk | _, _, _ => .stk)
  | _ => .stk }
section
variable {α β γ : Type} {a : Cod α} {b : Cod β} {c : Cod γ}
@[simp] theorem mk1_dice (ok : α → Bool) (g : α → D) : (mk1 a ok g).dice = false := id rfl
@[simp] theorem mk1_pats (ok : α → Bool) (g : α → D) : (mk1 a ok g).pats = [(1, [], none)] := id rfl
@[simp] theorem mk2_dice (ok : α → β → Bool) (g : α → β → D) : (mk2 a b ok g).dice = false := id rfl
@[simp] theorem mk2_pats (ok : α → β → Bool) (g : α → β → D) : (mk2 a b ok g).pats = [(2, [], none)] := id rfl
@[simp] theorem mk3_dice (ok : α → β → γ → Bool) (g : α → β → γ → D) : (mk3 a b c ok g).dice = false := id rfl
@[simp] theorem mk3_pats (ok : α → β → γ → Bool) (g : α → β → γ → D) : (mk3 a b c ok g).pats = [(3, [], none)] := id rfl
theorem mk1_at {ok : α → Bool} {g : α → D} {x : α} (h : ok x = true) (δ : Dice) : (mk1 a ok g).sem [a.enc x] δ = .ok (g x) δ := by
  simp only [mk1, a.de, h, if_true]
theorem mk2_at {ok : α → β → Bool} {g : α → β → D} {x : α} {y : β} (h : ok x y = true) (δ : Dice) : (mk2 a b ok g).sem [a.enc x, b.enc y] δ = .ok (g x y) δ := by
  simp only [mk2, a.de, b.de, h, if_true]
theorem mk3_at {ok : α → β → γ → Bool} {g : α → β → γ → D} {x : α} {y : β} {z : γ} (h : ok x y z = true) (δ : Dice) : (mk3 a b c ok g).sem [a.enc x, b.enc y, c.enc z] δ = .ok (g x y z) δ := by
  simp only [mk3, a.de, b.de, c.de, h, if_true]
theorem does1 {Γ : Glo} {md : List Bool} {N : Nat} {s : Sm} {ok : α → Bool} {g : α → D} (m : Nat) (h : ∀ x δ, ok x = true → Wp (exS Γ md false m s (some (a.enc x) :: List.replicate (N - 1) none) δ) ⟨fun _ δ' => g x = .non ∧ δ' = δ, fun _ _ => False, fun d δ' => d = g x ∧ δ' = δ, fun _ _ => False⟩) : Does Γ md N s (mk1 a ok g) := by
  intro ds δ hs
  match ds, hs with
  | [d], hs =>
    cases e : a.dec d with
    | none => exact absurd (by simp [mk1, e]) hs
    | some x =>
      cases q : ok x with
      | false => exact absurd (by simp [mk1, e, q]) hs
      | true =>
        have ed := a.ed d x e
        subst ed
        refine ⟨m, ?_⟩
        rw [mk1_at q]
        have := h x δ q
        show runF Γ md false N false s m [a.enc x] δ = _
        unfold runF
        have e3 : ([] : En) ++ List.map some [a.enc x] ++ List.replicate (N - [a.enc x].length - 0) none = some (a.enc x) :: List.replicate (N - 1) none := rfl
        rw [show (if false = true then [none] else [] : En) = [] from rfl, show (if false = true then 1 else 0 : Nat) = 0 from rfl, e3]
        cases e2 : exS Γ md false m s (some (a.enc x) :: List.replicate (N - 1) none) δ with
        | rt d' δ' =>
          rw [e2] at this
          obtain ⟨rfl, rfl⟩ := this
          rfl
        | nx ρ' δ' => rw [e2] at this; obtain ⟨g1, rfl⟩ := this; rw [g1]; rfl
        | ct _ _ => rw [e2] at this; exact this.elim
        | ex _ _ => rw [e2] at this; exact this.elim
        | stk => rw [e2] at this; exact this.elim
  | [], hs => exact absurd rfl hs
  | _ :: _ :: _, hs => exact absurd rfl hs
theorem does2 {Γ : Glo} {md : List Bool} {N : Nat} {s : Sm} {ok : α → β → Bool} {g : α → β → D} (m : Nat) (h : ∀ x y δ, ok x y = true → Wp (exS Γ md false m s (some (a.enc x) :: some (b.enc y) :: List.replicate (N - 2) none) δ) ⟨fun _ δ' => g x y = .non ∧ δ' = δ, fun _ _ => False, fun d δ' => d = g x y ∧ δ' = δ, fun _ _ => False⟩) : Does Γ md N s (mk2 a b ok g) := by
  intro ds δ hs
  match ds, hs with
  | [d, e], hs =>
    cases e1 : a.dec d with
    | none => exact absurd (by simp [mk2, e1]) hs
    | some x => cases e2 : b.dec e with
      | none => exact absurd (by simp [mk2, e1, e2]) hs
      | some y =>
        cases q : ok x y with
        | false => exact absurd (by simp [mk2, e1, e2, q]) hs
        | true =>
          have ed := a.ed d x e1
          have ee := b.ed e y e2
          subst ed; subst ee
          refine ⟨m, ?_⟩
          rw [mk2_at q]
          have := h x y δ q
          show runF Γ md false N false s m [a.enc x, b.enc y] δ = _
          unfold runF
          have e3 : ([] : En) ++ List.map some [a.enc x, b.enc y] ++ List.replicate (N - [a.enc x, b.enc y].length - 0) none = some (a.enc x) :: some (b.enc y) :: List.replicate (N - 2) none := rfl
          rw [show (if false = true then [none] else [] : En) = [] from rfl, show (if false = true then 1 else 0 : Nat) = 0 from rfl, e3]
          cases e4 : exS Γ md false m s (some (a.enc x) :: some (b.enc y) :: List.replicate (N - 2) none) δ with
          | rt d' δ' =>
            rw [e4] at this
            obtain ⟨rfl, rfl⟩ := this
            rfl
          | nx ρ' δ' => rw [e4] at this; obtain ⟨g1, rfl⟩ := this; rw [g1]; rfl
          | ct _ _ => rw [e4] at this; exact this.elim
          | ex _ _ => rw [e4] at this; exact this.elim
          | stk => rw [e4] at this; exact this.elim
  | [], hs => exact absurd rfl hs
  | [_], hs => exact absurd rfl hs
  | _ :: _ :: _ :: _, hs => exact absurd rfl hs
theorem does3 {Γ : Glo} {md : List Bool} {N : Nat} {s : Sm} {ok : α → β → γ → Bool} {g : α → β → γ → D} (m : Nat) (h : ∀ x y z δ, ok x y z = true → Wp (exS Γ md false m s (some (a.enc x) :: some (b.enc y) :: some (c.enc z) :: List.replicate (N - 3) none) δ) ⟨fun _ δ' => g x y z = .non ∧ δ' = δ, fun _ _ => False, fun d δ' => d = g x y z ∧ δ' = δ, fun _ _ => False⟩) : Does Γ md N s (mk3 a b c ok g) := by
  intro ds δ hs
  match ds, hs with
  | [d, e, f], hs =>
    cases e1 : a.dec d with
    | none => exact absurd (by simp [mk3, e1]) hs
    | some x => cases e2 : b.dec e with
      | none => exact absurd (by simp [mk3, e1, e2]) hs
      | some y => cases e5 : c.dec f with
        | none => exact absurd (by simp [mk3, e1, e2, e5]) hs
        | some z =>
          cases q : ok x y z with
          | false => exact absurd (by simp [mk3, e1, e2, e5, q]) hs
          | true =>
            have ed := a.ed d x e1
            have ee := b.ed e y e2
            have ef := c.ed f z e5
            subst ed; subst ee; subst ef
            refine ⟨m, ?_⟩
            rw [mk3_at q]
            have := h x y z δ q
            show runF Γ md false N false s m [a.enc x, b.enc y, c.enc z] δ = _
            unfold runF
            have e3 : ([] : En) ++ List.map some [a.enc x, b.enc y, c.enc z] ++ List.replicate (N - [a.enc x, b.enc y, c.enc z].length - 0) none = some (a.enc x) :: some (b.enc y) :: some (c.enc z) :: List.replicate (N - 3) none := rfl
            rw [show (if false = true then [none] else [] : En) = [] from rfl, show (if false = true then 1 else 0 : Nat) = 0 from rfl, e3]
            cases e4 : exS Γ md false m s (some (a.enc x) :: some (b.enc y) :: some (c.enc z) :: List.replicate (N - 3) none) δ with
            | rt d' δ' =>
              rw [e4] at this
              obtain ⟨rfl, rfl⟩ := this
              rfl
            | nx ρ' δ' => rw [e4] at this; obtain ⟨g1, rfl⟩ := this; rw [g1]; rfl
            | ct _ _ => rw [e4] at this; exact this.elim
            | ex _ _ => rw [e4] at this; exact this.elim
            | stk => rw [e4] at this; exact this.elim
  | [], hs => exact absurd rfl hs
  | [_], hs => exact absurd rfl hs
  | [_, _], hs => exact absurd rfl hs
  | _ :: _ :: _ :: _ :: _, hs => exact absurd rfl hs
end
end DF
set_option Elab.async false
set_option linter.all false
set_option maxRecDepth 100000
set_option maxHeartbeats 400000
namespace DF
open PySem PySem.Spec L2 DC
def N_cost : List Str := ["script", "found", "word", "what"]
def md_cost : List Bool := []
def s_cost : Sm := (.seq (.exp (.call "need_script" false 0 (.cons (.var 0) .nil) .nil)) (.seq (.asg 1 (.cst (.int 0))) (.seq (.fr (.cons (.nm 2) (.cons (.nm 3) .nil)) (.var 0) (.seq (.iff (.op .ne (.cons (.var 2) (.cons (.cst (.str [107, 101, 101, 112])) .nil))) (.seq (.asg 1 (.op .add (.cons (.var 1) (.cons (.ife (.op .eq (.cons (.var 2) (.cons (.cst (.str [112, 117, 116])) .nil))) (.op .len (.cons (.var 3) .nil)) (.var 3)) .nil)))) .skip) .skip) .skip)) (.seq (.ret (.var 1)) .skip))))
def N_as_steps : List Str := ["drops", "puts", "keeps", "found"]
def md_as_steps : List Bool := [false, false, false, true]
def s_as_steps : Sm := (.seq (.asg 3 (.ife (.op .gt (.cons (.var 0) (.cons (.cst (.int 0)) .nil))) (.op .lstd (.cons (.op .tupd (.cons (.cst (.str [100, 114, 111, 112])) (.cons (.var 0) .nil))) .nil)) (.op .lstd .nil))) (.seq (.iff (.op .ne (.cons (.var 1) (.cons (.op .lstd .nil) .nil))) (.seq (.app 3 (.op .tupd (.cons (.cst (.str [112, 117, 116])) (.cons (.op .tuple (.cons (.var 1) .nil)) .nil)))) .skip) .skip) (.seq (.ret (.op .add (.cons (.var 3) (.cons (.ife (.op .gt (.cons (.var 2) (.cons (.cst (.int 0)) .nil))) (.op .lstd (.cons (.op .tupd (.cons (.cst (.str [107, 101, 101, 112])) (.cons (.var 2) .nil))) .nil)) (.op .lstd .nil)) .nil)))) .skip)))
def N_plain_of : List Str := ["script", "found", "drops", "puts", "keeps", "word", "what"]
def md_plain_of : List Bool := []
def s_plain_of : Sm := (.seq (.par [1, 2, 3, 4] (.cons (.op .lstd .nil) (.cons (.cst (.int 0)) (.cons (.op .lstd .nil) (.cons (.cst (.int 0)) .nil))))) (.seq (.fr (.cons (.nm 5) (.cons (.nm 6) .nil)) (.var 0) (.seq (.iff (.op .eq (.cons (.var 5) (.cons (.cst (.str [107, 101, 101, 112])) .nil))) (.seq (.asg 4 (.op .add (.cons (.var 4) (.cons (.var 6) .nil)))) .skip) (.seq (.iff (.op .gt (.cons (.var 4) (.cons (.cst (.int 0)) .nil))) (.seq (.asg 1 (.op .add (.cons (.var 1) (.cons (.call "as_steps" false 0 (.cons (.var 2) (.cons (.var 3) (.cons (.var 4) .nil))) .nil) .nil)))) (.seq (.par [2, 3, 4] (.cons (.cst (.int 0)) (.cons (.op .lstd .nil) (.cons (.cst (.int 0)) .nil)))) .skip)) .skip) (.seq (.iff (.op .eq (.cons (.var 5) (.cons (.cst (.str [100, 114, 111, 112])) .nil))) (.seq (.asg 2 (.op .add (.cons (.var 2) (.cons (.var 6) .nil)))) .skip) (.seq (.asg 3 (.op .add (.cons (.var 3) (.cons (.op .list (.cons (.var 6) .nil)) .nil)))) .skip)) .skip))) .skip)) (.seq (.ret (.op .tuple (.cons (.op .add (.cons (.var 1) (.cons (.call "as_steps" false 0 (.cons (.var 2) (.cons (.var 3) (.cons (.var 4) .nil))) .nil) .nil))) .nil))) .skip)))
def N_plainly : List Str := ["script"]
def md_plainly : List Bool := []
def s_plainly : Sm := (.seq (.exp (.call "need_script" false 0 (.cons (.var 0) .nil) .nil)) (.seq (.ret (.call "plain_of" false 0 (.cons (.var 0) .nil) .nil)) .skip))
def N_paired : List Str := ["script", "found", "at", "to", "word", "what", "by"]
def md_paired : List Bool := []
def s_paired : Sm := (.seq (.par [1, 2, 3] (.cons (.op .lstd .nil) (.cons (.cst (.int 0)) (.cons (.cst (.int 0)) .nil)))) (.seq (.fr (.cons (.nm 4) (.cons (.nm 5) .nil)) (.var 0) (.seq (.iff (.op .eq (.cons (.var 4) (.cons (.cst (.str [107, 101, 101, 112])) .nil))) (.seq (.asg 1 (.op .add (.cons (.var 1) (.cons (.comp [6] (.nm 6) (.op (.rng 1) (.cons (.var 5) .nil)) (.cst (.bl true)) (.op .tupd (.cons (.op .add (.cons (.var 2) (.cons (.var 6) .nil))) (.cons (.op .add (.cons (.var 3) (.cons (.var 6) .nil))) .nil)))) .nil)))) (.seq (.par [2, 3] (.cons (.op .add (.cons (.var 2) (.cons (.var 5) .nil))) (.cons (.op .add (.cons (.var 3) (.cons (.var 5) .nil))) .nil))) .skip)) (.seq (.iff (.op .eq (.cons (.var 4) (.cons (.cst (.str [100, 114, 111, 112])) .nil))) (.seq (.asg 2 (.op .add (.cons (.var 2) (.cons (.var 5) .nil)))) .skip) (.seq (.asg 3 (.op .add (.cons (.var 3) (.cons (.op .len (.cons (.var 5) .nil)) .nil)))) .skip)) .skip)) .skip)) (.seq (.ret (.var 1)) .skip)))
def N_pairs_of : List Str := ["script"]
def md_pairs_of : List Bool := []
def s_pairs_of : Sm := (.seq (.exp (.call "need_script" false 0 (.cons (.var 0) .nil) .nil)) (.seq (.ret (.call "paired" false 0 (.cons (.var 0) .nil) .nil)) .skip))
inductive Step where
  | keep (n : Nat) | drop (n : Nat) | put (r : List (List Nat))
  deriving DecidableEq
def stepD : Step → D
  | .keep n => .tup [.str [107, 101, 101, 112], .int n]
  | .drop n => .tup [.str [100, 114, 111, 112], .int n]
  | .put r => .tup [.str [112, 117, 116], .tup (r.map .str)]
def stepOf : D → Option Step
  | .tup [.str w, .int n] => if 0 ≤ n then (if w = sKeep then some (.keep n.toNat) else if w = sDrop then some (.drop n.toNat) else none) else none
  | .tup [.str w, .tup rs] => if w = sPut then (strsOf rs).map .put else none
  | _ => none
theorem step_de (s : Step) : stepOf (stepD s) = some s := by
  cases s with
  | keep n => simp [stepD, stepOf, sKeep]
  | drop n => simp [stepD, stepOf, sKeep, sDrop]
  | put r => simp [stepD, stepOf, sPut, strsOf_map]
theorem step_ed (d : D) (s : Step) (h : stepOf d = some s) : d = stepD s := by
  match d, h with
  | .tup [.str w, .int n], h =>
    simp only [stepOf] at h
    split at h
    · rename_i hn
      split at h
      · rename_i hw
        cases h
        rw [hw]
        show D.tup [.str sKeep, .int n] = .tup [.str [107, 101, 101, 112], .int ((n.toNat : Nat) : Int)]
        rw [Int.toNat_of_nonneg hn]; rfl
      split at h
      · rename_i hw
        cases h
        rw [hw]
        show D.tup [.str sDrop, .int n] = .tup [.str [100, 114, 111, 112], .int ((n.toNat : Nat) : Int)]
        rw [Int.toNat_of_nonneg hn]; rfl
      · cases h
    · cases h
  | .tup [.str w, .tup rs], h =>
    simp only [stepOf] at h
    split at h
    · rename_i hw
      obtain ⟨l, e, rfl⟩ := map_opt h
      rw [hw, strsOf_eq e]; rfl
    · cases h
def cStep : Cod Step := ⟨stepD, stepOf, step_de, step_ed⟩
def scriptD (l : List Step) : D := .tup (l.map stepD)
def stepsD (l : List Step) : D := .lst (l.map stepD)
def cScr : Cod (List Step) := ⟨scriptD, fun d => match d with | .tup ds => allO stepOf ds | _ => none, fun l => allO_de cStep l, fun d x h => by
  cases d <;> simp at h
  rw [allO_ed cStep _ _ h]; rfl⟩
def cSteps : Cod (List Step) := ⟨stepsD, fun d => match d with | .lst ds => allO stepOf ds | _ => none, fun l => allO_de cStep l, fun d x h => by
  cases d <;> simp at h
  rw [allO_ed cStep _ _ h]; rfl⟩
@[simp] theorem items_scr (l : List Step) : (scriptD l).items = some (l.map stepD) := rfl
@[simp] theorem items_stps (l : List Step) : (stepsD l).items = some (l.map stepD) := rfl
@[simp] theorem len_scr (l : List Step) : dLen (scriptD l) = some l.length := by simp [scriptD]
@[simp] theorem len_stps (l : List Step) : dLen (stepsD l) = some l.length := by simp [stepsD]
@[simp] theorem tuple_stps (l : List Step) : opv .tuple [stepsD l] = some (scriptD l) := rfl
@[simp] theorem list_scr (l : List Step) : opv .list [scriptD l] = some (stepsD l) := rfl
@[simp] theorem tuple_scr (l : List Step) : opv .tuple [scriptD l] = some (scriptD l) := rfl
@[simp] theorem add_stps (x y : List Step) : dAdd (stepsD x) (stepsD y) = if x.length + y.length ≤ 16777216 then some (stepsD (x ++ y)) else none := by
  show (if (x.map stepD).length + (y.map stepD).length ≤ 16777216 then some (D.lst (x.map stepD ++ y.map stepD)) else none) = _
  rw [← List.map_append, List.length_map, List.length_map]; rfl
@[simp] theorem add_scr (x y : List Step) : dAdd (scriptD x) (scriptD y) = if x.length + y.length ≤ 16777216 then some (scriptD (x ++ y)) else none := by
  show (if (x.map stepD).length + (y.map stepD).length ≤ 16777216 then some (D.tup (x.map stepD ++ y.map stepD)) else none) = _
  rw [← List.map_append, List.length_map, List.length_map]; rfl
def okStep : Step → Bool
  | .keep n => decide (1 ≤ n) && decide (n ≤ 1000)
  | .drop n => decide (1 ≤ n) && decide (n ≤ 1000)
  | .put r => !r.isEmpty && decide (r.length ≤ 1000) && r.all rowB
def okSc (l : List Step) : Bool := decide (l.length ≤ 1000) && l.all okStep
theorem okSc_iff {l : List Step} : okSc l = true ↔ l.length ≤ 1000 ∧ ∀ s ∈ l, okStep s = true := by simp [okSc]
theorem step_ok {s : Step} (h : okStep s = true) : isStepD (stepD s) = true := by
  cases s with
  | keep n => simp [okStep] at h; simp [stepD, isStepD, sPut, sKeep, isNumD]; omega
  | drop n => simp [okStep] at h; simp [stepD, isStepD, sPut, sKeep, sDrop, isNumD]; omega
  | put r =>
    simp [okStep] at h
    simp [stepD, isStepD, sPut, h.1.1]
    exact fun x hx => h.2 x hx
theorem step_dep (s : Step) : ∃ n, (stepD s).dep = some n ∧ n ≤ 2 := by
  cases s with
  | keep n => exact ⟨1, by simp [stepD, D.dep, deps], by decide⟩
  | drop n => exact ⟨1, by simp [stepD, D.dep, deps], by decide⟩
  | put r => exact ⟨2, by simp [stepD, D.dep, deps, deps_rows], by decide⟩
theorem deps_all {f : α → D} {k : Nat} (h : ∀ a, ∃ n, (f a).dep = some n ∧ n ≤ k) : ∀ l : List α, ∃ n, deps (l.map f) = some n ∧ n ≤ k
  | [] => ⟨0, rfl, Nat.zero_le _⟩
  | a :: l => by
    obtain ⟨n, e1, h1⟩ := h a
    obtain ⟨m, e2, h2⟩ := deps_all h l
    exact ⟨max n m, by simp [deps, e1, e2], by omega⟩
theorem shp_scr (l : List Step) : (scriptD l).shp = true := by
  obtain ⟨n, e, h⟩ := deps_all step_dep l
  exact shp_iff.mpr ⟨n + 1, by simp [scriptD, D.dep, e], by omega⟩
theorem shp_stps (l : List Step) : (stepsD l).shp = true := by
  obtain ⟨n, e, h⟩ := deps_all step_dep l
  exact shp_iff.mpr ⟨n + 1, by simp [stepsD, D.dep, e], by omega⟩
section
variable {Γ : Glo} {md : List Bool} {fr : Bool} {n : Nat} {P : Post}
theorem for_enm {p : Pat} {b : Sm} (J : Nat → List D → En → Dice → Prop) {k : Nat} {l : List D} {ρ : En} {δ : Dice} (j0 : J k l ρ δ) (j1 : ∀ k ρ δ, J k [] ρ δ → P.nx ρ δ)
    (j2 : ∀ k a r ρ δ, J k (a :: r) ρ δ → ∃ ρ1, bindP p (.tup [.int (k : Nat), a]) ρ = some ρ1 ∧ Wp (exS Γ md fr n b ρ1 δ) ⟨J (k + 1) r, J (k + 1) r, P.rt, P.ex⟩) : Wp (forL p (exS Γ md fr n b) (enmL k l) ρ δ) P := by
  induction l generalizing k ρ δ with
  | nil => exact j1 k ρ δ j0
  | cons a r ih =>
    obtain ⟨ρ1, e1, e2⟩ := j2 k a r ρ δ j0
    simp only [enmL, forL, e1]
    cases e : exS Γ md fr n b ρ1 δ with
    | nx ρ2 δ2 => rw [e] at e2; exact ih e2
    | ct ρ2 δ2 => rw [e] at e2; exact ih e2
    | rt d δ2 => rw [e] at e2; exact e2
    | ex x δ2 => rw [e] at e2; exact e2
    | stk => rw [e] at e2; exact e2
end
def faultF : D → D
  | .tup ds => (match ds.findIdx? (fun s => !isStepD s) with | some i => .tup [.int (i : Nat)] | none => .tup [])
  | _ => .tup [.non]
def fs_form_fault : Fs := mk1 cAny D.shp faultF
@[simp] theorem dice_form_fault : fs_form_fault.dice = false := id rfl
@[simp] theorem pats_form_fault : fs_form_fault.pats = [(1, [], none)] := id rfl
theorem step_at {d : D} (h : d.shp = true) (δ : Dice) : fs_is_step.sem [d] δ = .ok (.bl (isStepD d)) δ := by simp [fs_is_step, h]
@[simp] theorem is_step_dice : fs_is_step.dice = false := id rfl
@[simp] theorem is_step_pats : fs_is_step.pats = [(1, [], none)] := id rfl
theorem sem_form_fault {Γ : Glo} (h1 : Γ.fn "is_step" = some fs_is_step) : Does Γ md_form_fault 3 s_form_fault fs_form_fault := does1 (a := cAny) 0 fun d δ hd => by
  show Wp (exS Γ [] false 0 s_form_fault [some d, none, none] δ) _
  cases d with
  | tup ds =>
    simp [s_form_fault]
    refine for_enm (fun k r ρ δ' => δ' = δ ∧ ∃ x y, ρ = [some (.tup ds), x, y] ∧ ds.drop k = r ∧ k ≤ ds.length ∧ ∀ (i : Nat) s, i < k → ds[i]? = some s → isStepD s = true) ⟨rfl, none, none, rfl, rfl, Nat.zero_le _, fun i s h => by omega⟩ ?_ ?_
    · rintro k ρ δ' ⟨rfl, x, y, rfl, e1, e2, e3⟩
      have hk : k = ds.length := by have := List.drop_eq_nil_iff.mp e1; omega
      have : ds.findIdx? (fun s => !isStepD s) = none := by
        rw [List.findIdx?_eq_none_iff]
        intro s hs
        obtain ⟨i, hi, e⟩ := List.getElem_of_mem hs
        have := e3 i s (by omega) (by rw [List.getElem?_eq_getElem hi, e])
        simp [this]
      simp [faultF, this]
    · rintro k a r ρ δ' ⟨rfl, x, y, rfl, e1, e2, e3⟩
      have ha : ds[k]? = some a := by have := congrArg (fun z => z[0]?) e1; simpa using this
      have hr : ds.drop (k + 1) = r := by have := congrArg List.tail e1; simpa using this
      have hk : k < ds.length := (List.getElem?_eq_some_iff.mp ha).1
      have hs : a.shp = true := shp_of hd (List.mem_of_getElem? ha)
      refine ⟨_, rfl, ?_⟩
      simp [h1, step_at hs]
      cases q : isStepD a with
      | true =>
        simp
        refine ⟨hr, hk, fun i s hi hs => ?_⟩
        by_cases h : i = k
        · subst h; rw [ha] at hs; cases hs; exact q
        · exact e3 i s (by omega) hs
      | false =>
        simp
        have : ds.findIdx? (fun s => !isStepD s) = some k := by
          rw [List.findIdx?_eq_some_iff_getElem]
          refine ⟨hk, by rw [(List.getElem?_eq_some_iff.mp ha).2]; simp [q], fun j hj => ?_⟩
          have := e3 j ds[j] hj (List.getElem?_eq_getElem (by omega))
          simp [this]
        simp [faultF, this]
  | _ => simp [s_form_fault, faultF]
theorem fault_ok {l : List Step} (h : okSc l = true) : faultF (scriptD l) = .tup [] := by
  have : (l.map stepD).findIdx? (fun s => !isStepD s) = none := by
    rw [List.findIdx?_eq_none_iff]
    intro s hs
    obtain ⟨a, ha, rfl⟩ := List.mem_map.mp hs
    simp [step_ok ((okSc_iff.mp h).2 a ha)]
  simp [faultF, scriptD, this]
def fs_need_script : Fs := mk1 cAny (fun d => d.shp && isUnit (faultF d)) fun _ => .non
theorem sem_need_script {Γ : Glo} (h1 : Γ.fn "form_fault" = some fs_form_fault) : Does Γ md_need_script 2 s_need_script fs_need_script := does1 (a := cAny) 0 fun d δ hd => by
  show Wp (exS Γ [] false 0 s_need_script [some d, none] δ) _
  simp only [Bool.and_eq_true] at hd
  have hf : fs_form_fault.sem [d] (0, 0, []) = .ok (faultF d) (0, 0, []) := mk1_at (a := cAny) (x := d) hd.1 _
  have hu : faultF d = .tup [] := by
    match faultF d, hd.2 with
    | .tup [], _ => rfl
  have s1 : (D.tup []).shp = true := by decide
  simp [s_need_script, h1, hf, hu, ne_unit s1]
theorem need_at {l : List Step} (h : okSc l = true) (δ : Dice) : fs_need_script.sem [scriptD l] δ = .ok .non δ := mk1_at (a := cAny) (x := scriptD l) (by simp [shp_scr, fault_ok h]) δ
@[simp] theorem need_dice : fs_need_script.dice = false := id rfl
@[simp] theorem need_pats : fs_need_script.pats = [(1, [], none)] := id rfl
def cost1 : Step → Nat
  | .keep _ => 0
  | .drop n => n
  | .put r => r.length
def costF (l : List Step) : Nat := (l.map cost1).sum
def fs_cost : Fs := mk1 cScr okSc fun l => .int (costF l)
theorem fold_cost : ∀ (l : List Step) (a : Nat), l.foldl (fun a s => a + cost1 s) a = a + costF l
  | [], a => by simp [costF]
  | s :: l, a => by
    rw [List.foldl_cons, fold_cost l]
    simp [costF]; omega
theorem sem_cost {Γ : Glo} (h1 : Γ.fn "need_script" = some fs_need_script) : Does Γ md_cost 4 s_cost fs_cost := does1 (a := cScr) 0 fun l δ hl => by
  show Wp (exS Γ [] false 0 s_cost [some (scriptD l), none, none, none] δ) _
  simp [s_cost, h1, need_at hl]
  refine for_fold stepD (fun i (c : Nat) ρ => ∃ x y, ρ = [some (scriptD l), some (.int c), x, y]) (fun a s => a + cost1 s) (st := 0) ⟨none, none, rfl⟩ ?_ ?_
  · rintro i c s ρ hs ⟨x, y, rfl⟩
    cases s with
    | keep n => refine ⟨_, rfl, ?_⟩; simp [cost1]
    | drop n => refine ⟨_, rfl, ?_⟩; simp [cost1]
    | put r => refine ⟨_, rfl, ?_⟩; simp [cost1]
  · rintro ρ ⟨x, y, rfl⟩
    simp [fold_cost]
@[simp] theorem dice_cost : fs_cost.dice = false := id rfl
@[simp] theorem pats_cost : fs_cost.pats = [(1, [], none)] := id rfl
theorem cost_at {l : List Step} (h : okSc l = true) (δ : Dice) : fs_cost.sem [scriptD l] δ = .ok (.int (costF l)) δ := mk1_at (a := cScr) (x := l) h δ
def asSteps (drops : Nat) (puts : List (List Nat)) (keeps : Nat) : List Step := (if 0 < drops then [.drop drops] else []) ++ (if puts = [] then [] else [.put puts]) ++ (if 0 < keeps then [.keep keeps] else [])
def fs_as_steps : Fs := mk3 cNat cRows cNat (fun a b c => true) fun a b c => stepsD (asSteps a b c)
@[simp] theorem dice_as_steps : fs_as_steps.dice = false := id rfl
@[simp] theorem pats_as_steps : fs_as_steps.pats = [(3, [], none)] := id rfl
@[simp] theorem ne_rows0 (b : List (List Nat)) : opv .ne [rowsD b, .lst []] = some (.bl (!decide (b = []))) := ne_rows b []
@[simp] theorem eq_rows0 (b : List (List Nat)) : opv .eq [rowsD b, .lst []] = some (.bl (decide (b = []))) := eq_rows b []
@[simp] theorem list_tupR (r : List (List Nat)) : opv .list [.tup (r.map D.str)] = some (rowsD r) := rfl
@[simp] theorem add_rowsL (x y : List (List Nat)) : dAdd (rowsD x) (.lst (y.map D.str)) = if x.length + y.length ≤ 16777216 then some (rowsD (x ++ y)) else none := add_rows x y
@[simp] theorem add_rows0 (y : List (List Nat)) : dAdd (.lst []) (rowsD y) = if 0 + y.length ≤ 16777216 then some (rowsD y) else none := add_rows [] y
@[simp] theorem add_stps0 (y : List Step) : dAdd (.lst []) (stepsD y) = if 0 + y.length ≤ 16777216 then some (stepsD y) else none := add_stps [] y
theorem sem_as_steps {Γ : Glo} : Does Γ md_as_steps 4 s_as_steps fs_as_steps := does3 (a := cNat) (b := cRows) (c := cNat) 0 fun a b c δ _ => by
  show Wp (exS Γ [false, false, false, true] false 0 s_as_steps [some (.int a), some (rowsD b), some (.int c), none] δ) _
  by_cases h1 : 0 < a <;> by_cases h2 : b = [] <;> by_cases h3 : 0 < c <;> simp [s_as_steps, h1, h2, h3, asSteps, stepsD, stepD]
theorem as_at (a : Nat) (b : List (List Nat)) (c : Nat) (δ : Dice) : fs_as_steps.sem [.int a, rowsD b, .int c] δ = .ok (stepsD (asSteps a b c)) δ := mk3_at (a := cNat) (b := cRows) (c := cNat) (x := a) (y := b) (z := c) rfl δ
structure PSt where
  found : List Step
  drops : Nat
  puts : List (List Nat)
  keeps : Nat
def flushP (st : PSt) : PSt := if 0 < st.keeps then ⟨st.found ++ asSteps st.drops st.puts st.keeps, 0, [], 0⟩ else st
def stepP (st : PSt) : Step → PSt
  | .keep n => { st with keeps := st.keeps + n }
  | .drop n => let s := flushP st; { s with drops := s.drops + n }
  | .put r => let s := flushP st; { s with puts := s.puts ++ r }
def plainF (l : List Step) : List Step := let st := l.foldl stepP ⟨[], 0, [], 0⟩; st.found ++ asSteps st.drops st.puts st.keeps
def stepsOf : D → Option (List Step)
  | .tup ds => allO stepOf ds
  | .lst ds => allO stepOf ds
  | _ => none
def fs_plain_of : Fs := { np := 1, pats := [(1, [], none)], sem := fun ds δ => match ds with
  | [d] => (match stepsOf d with | some l => if okSc l then .ok (scriptD (plainF l)) δ else .stk | none => .stk)
  | _ => .stk }
@[simp] theorem dice_plain_of : fs_plain_of.dice = false := id rfl
@[simp] theorem pats_plain_of : fs_plain_of.pats = [(1, [], none)] := id rfl
theorem as_len (a : Nat) (b : List (List Nat)) (c : Nat) : (asSteps a b c).length ≤ 3 := by
  unfold asSteps
  split <;> split <;> split <;> simp
def encP (l : List Step) (d : D) (i : Nat) (st : PSt) (ρ : En) : Prop := ∃ x y, ρ = [some d, some (stepsD st.found), some (.int st.drops), some (rowsD st.puts), some (.int st.keeps), x, y] ∧ st.found.length ≤ 3 * i ∧ st.puts.length ≤ 1000 * i
theorem plain_loop {Γ : Glo} (h1 : Γ.fn "as_steps" = some fs_as_steps) (d : D) (l : List Step) (hl : okSc l = true) (hd : d.items = some (l.map stepD)) (δ : Dice) : Wp (exS Γ [] false 0 s_plain_of [some d, none, none, none, none, none, none] δ) ⟨fun _ δ' => False, fun _ _ => False, fun r δ' => r = scriptD (plainF l) ∧ δ' = δ, fun _ _ => False⟩ := by
  obtain ⟨ll, lo⟩ := okSc_iff.mp hl
  simp [s_plain_of, hd]
  refine for_fold stepD (fun i st ρ => i ≤ l.length ∧ encP l d i st ρ) stepP (st := ⟨[], 0, [], 0⟩) ⟨Nat.zero_le _, none, none, rfl, by simp, by simp⟩ ?_ ?_
  · rintro i st s ρ hs ⟨hi, x, y, rfl, f1, f2⟩
    have hi2 : i < l.length := (List.getElem?_eq_some_iff.mp hs).1
    have hok := lo s (List.mem_of_getElem? hs)
    have q1 : st.found.length + (asSteps st.drops st.puts st.keeps).length ≤ 16777216 := by have := as_len st.drops st.puts st.keeps; omega
    have q2 := as_len st.drops st.puts st.keeps
    cases s with
    | keep n =>
      refine ⟨_, rfl, ?_⟩
      simp [stepP]
      exact ⟨hi2, _, _, rfl, by simp; omega, by simp; omega⟩
    | drop n =>
      refine ⟨_, rfl, ?_⟩
      by_cases hk : 0 < st.keeps
      · simp [stepP, flushP, hk, h1, as_at, q1]
        exact ⟨hi2, _, _, rfl, by simp; omega, by simp⟩
      · simp [stepP, flushP, hk]
        exact ⟨hi2, _, _, rfl, by simp; omega, by simp; omega⟩
    | put r =>
      refine ⟨_, rfl, ?_⟩
      have hr : r.length ≤ 1000 := by simp [okStep] at hok; exact hok.1.2
      by_cases hk : 0 < st.keeps
      · have q3 : 0 + r.length ≤ 16777216 := by omega
        have q4 : r.length ≤ 16777216 := by omega
        simp [stepP, flushP, hk, h1, as_at, q1, q4]
        exact ⟨hi2, _, _, rfl, by simp; omega, by simp; omega⟩
      · have q3 : st.puts.length + r.length ≤ 16777216 := by omega
        simp [stepP, flushP, hk, q3]
        exact ⟨hi2, _, _, rfl, by simp; omega, by simp; omega⟩
  · rintro ρ ⟨hi, x, y, rfl, f1, f2⟩
    have q2 := as_len (l.foldl stepP ⟨[], 0, [], 0⟩).drops (l.foldl stepP ⟨[], 0, [], 0⟩).puts (l.foldl stepP ⟨[], 0, [], 0⟩).keeps
    have q1 : (l.foldl stepP ⟨[], 0, [], 0⟩).found.length + (asSteps (l.foldl stepP ⟨[], 0, [], 0⟩).drops (l.foldl stepP ⟨[], 0, [], 0⟩).puts (l.foldl stepP ⟨[], 0, [], 0⟩).keeps).length ≤ 16777216 := by omega
    simp [h1, as_at, q1, plainF]
theorem stepsOf_items {d : D} {l : List Step} (h : stepsOf d = some l) : d.items = some (l.map stepD) := by
  cases d with
  | tup ds => rw [allO_ed cStep ds l h]; rfl
  | lst ds => rw [allO_ed cStep ds l h]; rfl
  | _ => cases h
theorem sem_plain_of {Γ : Glo} (h1 : Γ.fn "as_steps" = some fs_as_steps) : Does Γ md_plain_of 7 s_plain_of fs_plain_of := by
  intro ds δ h
  match ds, h with
  | [d], h =>
    cases e : stepsOf d with
    | none => exact absurd (by simp [fs_plain_of, e]) h
    | some l => cases q : okSc l with
      | false => exact absurd (by simp [fs_plain_of, e, q]) h
      | true =>
        refine ⟨0, runF_of ?_⟩
        have hs : fs_plain_of.sem [d] δ = .ok (scriptD (plainF l)) δ := by simp [fs_plain_of, e, q]
        show Wp (exS Γ [] false 0 s_plain_of [some d, none, none, none, none, none, none] δ) _
        rw [hs]
        exact (plain_loop h1 d l q (stepsOf_items e) δ).mono (fun _ _ z => z.elim) (fun _ _ z => z) (fun _ _ ⟨z1, z2⟩ => by rw [z1, z2]; rfl) (fun _ _ z => z.elim)
  | [], h => exact absurd rfl h
  | _ :: _ :: _, h => exact absurd rfl h
theorem plain_at {l : List Step} (h : okSc l = true) (δ : Dice) : fs_plain_of.sem [scriptD l] δ = .ok (scriptD (plainF l)) δ := by
  have e : stepsOf (scriptD l) = some l := allO_de cStep l
  simp only [fs_plain_of, e, h, if_true]
theorem plain_atL {l : List Step} (h : okSc l = true) (δ : Dice) : fs_plain_of.sem [stepsD l] δ = .ok (scriptD (plainF l)) δ := by
  have e : stepsOf (stepsD l) = some l := allO_de cStep l
  simp only [fs_plain_of, e, h, if_true]
def fs_plainly : Fs := mk1 cScr okSc fun l => scriptD (plainF l)
@[simp] theorem dice_plainly : fs_plainly.dice = false := id rfl
@[simp] theorem pats_plainly : fs_plainly.pats = [(1, [], none)] := id rfl
theorem sem_plainly {Γ : Glo} (h1 : Γ.fn "need_script" = some fs_need_script) (h2 : Γ.fn "plain_of" = some fs_plain_of) : Does Γ md_plainly 1 s_plainly fs_plainly := does1 (a := cScr) 0 fun l δ hl => by
  show Wp (exS Γ [] false 0 s_plainly [some (scriptD l)] δ) _
  simp [s_plainly, h1, h2, need_at hl, plain_at hl]
theorem plainly_at {l : List Step} (h : okSc l = true) (δ : Dice) : fs_plainly.sem [scriptD l] δ = .ok (scriptD (plainF l)) δ := mk1_at (a := cScr) (x := l) h δ
def pairD (p : Nat × Nat) : D := .tup [.int p.1, .int p.2]
def pairsD (l : List (Nat × Nat)) : D := .lst (l.map pairD)
theorem pairs_enc (l : List (Nat × Nat)) : cPairs.enc l = pairsD l := rfl
def runP (at_ to n : Nat) : List (Nat × Nat) := (List.range n).map fun b => (at_ + b, to + b)
structure QSt where
  found : List (Nat × Nat)
  at_ : Nat
  to : Nat
def stepQ (st : QSt) : Step → QSt
  | .keep n => ⟨st.found ++ runP st.at_ st.to n, st.at_ + n, st.to + n⟩
  | .drop n => ⟨st.found, st.at_ + n, st.to⟩
  | .put r => ⟨st.found, st.at_, st.to + r.length⟩
def pairsF (l : List Step) : List (Nat × Nat) := (l.foldl stepQ ⟨[], 0, 0⟩).found
@[simp] theorem add_pairs (x y : List (Nat × Nat)) : dAdd (pairsD x) (pairsD y) = if x.length + y.length ≤ 16777216 then some (pairsD (x ++ y)) else none := by
  show (if (x.map pairD).length + (y.map pairD).length ≤ 16777216 then some (D.lst (x.map pairD ++ y.map pairD)) else none) = _
  rw [← List.map_append, List.length_map, List.length_map]; rfl
@[simp] theorem items_pairs (l : List (Nat × Nat)) : (pairsD l).items = some (l.map pairD) := rfl
@[simp] theorem len_pairs (l : List (Nat × Nat)) : dLen (pairsD l) = some l.length := by simp [pairsD]
def fs_paired : Fs := mk1 cScr okSc fun l => pairsD (pairsF l)
@[simp] theorem dice_paired : fs_paired.dice = false := id rfl
@[simp] theorem pats_paired : fs_paired.pats = [(1, [], none)] := id rfl
theorem sem_paired {Γ : Glo} : Does Γ md_paired 7 s_paired fs_paired := does1 (a := cScr) 0 fun l δ hl => by
  obtain ⟨ll, lo⟩ := okSc_iff.mp hl
  show Wp (exS Γ [] false 0 s_paired [some (scriptD l), none, none, none, none, none, none] δ) _
  simp [s_paired]
  refine for_fold stepD (fun i st ρ => i ≤ l.length ∧ st.found.length ≤ 1000 * i ∧ ∃ x y z, ρ = [some (scriptD l), some (pairsD st.found), some (.int st.at_), some (.int st.to), x, y, z]) stepQ (st := ⟨[], 0, 0⟩) ⟨Nat.zero_le _, by simp, none, none, none, rfl⟩ ?_ ?_
  · rintro i st s ρ hs ⟨hi, hf, x, y, z, rfl⟩
    have hi2 : i < l.length := (List.getElem?_eq_some_iff.mp hs).1
    have hok := lo s (List.mem_of_getElem? hs)
    cases s with
    | keep n =>
      refine ⟨_, rfl, ?_⟩
      have hn : n ≤ 1000 := by simp [okStep] at hok; exact hok.2
      have sm : small (n : Int) = true := by simp [small]; omega
      simp [sm]
      unfold rngL
      refine compA _ (fun _ => true) (fun b => pairD (st.at_ + b, st.to + b)) (fun b _ => ⟨_, rfl, by simp, fun _ => by simp [pairD]⟩) ?_
      have q : st.found.length + n ≤ 16777216 := by omega
      have e : D.lst ((List.range n).map fun b => pairD (st.at_ + b, st.to + b)) = pairsD (runP st.at_ st.to n) := by simp [pairsD, runP]
      have l2 : (runP st.at_ st.to n).length = n := by simp [runP]
      rw [filt_true]
      simp [e, l2, q, stepQ]
      exact ⟨hi2, by omega⟩
    | drop n => refine ⟨_, rfl, ?_⟩; simp [stepQ]; exact ⟨hi2, by omega⟩
    | put r => refine ⟨_, rfl, ?_⟩; simp [stepQ]; exact ⟨hi2, by omega⟩
  · rintro ρ ⟨hi, hf, x, y, z, rfl⟩
    simp [pairsF]
theorem paired_at {l : List Step} (h : okSc l = true) (δ : Dice) : fs_paired.sem [scriptD l] δ = .ok (pairsD (pairsF l)) δ := mk1_at (a := cScr) (x := l) h δ
def fs_pairs_of : Fs := mk1 cScr okSc fun l => pairsD (pairsF l)
@[simp] theorem dice_pairs_of : fs_pairs_of.dice = false := id rfl
@[simp] theorem pats_pairs_of : fs_pairs_of.pats = [(1, [], none)] := id rfl
theorem sem_pairs_of {Γ : Glo} (h1 : Γ.fn "need_script" = some fs_need_script) (h2 : Γ.fn "paired" = some fs_paired) : Does Γ md_pairs_of 1 s_pairs_of fs_pairs_of := does1 (a := cScr) 0 fun l δ hl => by
  show Wp (exS Γ [] false 0 s_pairs_of [some (scriptD l)] δ) _
  simp [s_pairs_of, h1, h2, need_at hl, paired_at hl]
theorem pairs_of_at {l : List Step} (h : okSc l = true) (δ : Dice) : fs_pairs_of.sem [scriptD l] δ = .ok (pairsD (pairsF l)) δ := mk1_at (a := cScr) (x := l) h δ
end DF
set_option Elab.async false
set_option linter.all false
set_option maxRecDepth 100000
set_option maxHeartbeats 400000
namespace DF
open PySem PySem.Spec L2 DC
def N__law_pairs : List Str := ["script", "found", "at", "to", "word", "what", "by"]
def md__law_pairs : List Bool := [false, true]
def s__law_pairs : Sm := (.seq (.par [1, 2, 3] (.cons (.op .lstd .nil) (.cons (.cst (.int 0)) (.cons (.cst (.int 0)) .nil)))) (.seq (.fr (.cons (.nm 4) (.cons (.nm 5) .nil)) (.var 0) (.seq (.iff (.op .eq (.cons (.var 4) (.cons (.cst (.str [112, 117, 116])) .nil))) (.seq (.asg 3 (.op .add (.cons (.var 3) (.cons (.op .len (.cons (.var 5) .nil)) .nil)))) .skip) (.seq (.iff (.op .eq (.cons (.var 4) (.cons (.cst (.str [100, 114, 111, 112])) .nil))) (.seq (.asg 2 (.op .add (.cons (.var 2) (.cons (.var 5) .nil)))) .skip) (.seq (.fr (.nm 6) (.op (.rng 1) (.cons (.var 5) .nil)) (.seq (.app 1 (.op .tupd (.cons (.op .add (.cons (.var 2) (.cons (.var 6) .nil))) (.cons (.op .add (.cons (.var 3) (.cons (.var 6) .nil))) .nil)))) .skip)) (.seq (.par [2, 3] (.cons (.op .add (.cons (.var 2) (.cons (.var 5) .nil))) (.cons (.op .add (.cons (.var 3) (.cons (.var 5) .nil))) .nil))) .skip))) .skip)) .skip)) (.seq (.ret (.var 1)) .skip)))
def N__law_gives : List Str := ["script", "rows", "at", "found", "word", "what"]
def md__law_gives : List Bool := []
def s__law_gives : Sm := (.seq (.par [2, 3] (.cons (.cst (.int 0)) (.cons (.op .lstd .nil) .nil))) (.seq (.fr (.cons (.nm 4) (.cons (.nm 5) .nil)) (.var 0) (.seq (.iff (.op .eq (.cons (.var 4) (.cons (.cst (.str [112, 117, 116])) .nil))) (.seq (.asg 3 (.op .add (.cons (.var 3) (.cons (.op .list (.cons (.var 5) .nil)) .nil)))) .skip) (.seq (.iff (.op .gt (.cons (.op .add (.cons (.var 2) (.cons (.var 5) .nil))) (.cons (.op .len (.cons (.var 1) .nil)) .nil))) (.seq (.ret (.cst .non)) .skip) .skip) (.seq (.iff (.op .eq (.cons (.var 4) (.cons (.cst (.str [107, 101, 101, 112])) .nil))) (.seq (.asg 3 (.op .add (.cons (.var 3) (.cons (.op (.slc true true) (.cons (.var 1) (.cons (.var 2) (.cons (.op .add (.cons (.var 2) (.cons (.var 5) .nil))) .nil)))) .nil)))) .skip) .skip) (.seq (.asg 2 (.op .add (.cons (.var 2) (.cons (.var 5) .nil)))) .skip)))) .skip)) (.seq (.ret (.ife (.op .eq (.cons (.var 2) (.cons (.op .len (.cons (.var 1) .nil)) .nil))) (.var 3) (.cst .non))) .skip)))
def N__law_is_row : List Str := ["thing", "sign"]
def md__law_is_row : List Bool := []
def s__law_is_row : Sm := (.seq (.ret (.and (.op (.isi "str") (.cons (.var 0) .nil)) (.and (.op .le (.cons (.op .len (.cons (.var 0) .nil)) (.cons (.cst (.int 40)) .nil))) (.op .eq (.cons (.comp [1] (.nm 1) (.var 0) (.not (.chn .le .le (.cst (.str [32])) (.var 1) (.cst (.str [126])))) (.var 1)) (.cons (.op .lstd .nil) .nil)))))) .skip)
def N__law_is_step : List Str := ["thing", "row"]
def md__law_is_step : List Bool := []
def s__law_is_step : Sm := (.seq (.iff (.or (.not (.op (.isi "tuple") (.cons (.var 0) .nil))) (.or (.op .ne (.cons (.op .len (.cons (.var 0) .nil)) (.cons (.cst (.int 2)) .nil))) (.not (.op (.isi "str") (.cons (.op .idx (.cons (.var 0) (.cons (.cst (.int 0)) .nil))) .nil))))) (.seq (.ret (.cst (.bl false))) .skip) .skip) (.seq (.iff (.op .isin (.cons (.op .idx (.cons (.var 0) (.cons (.cst (.int 0)) .nil))) (.cons (.op .tupd (.cons (.cst (.str [107, 101, 101, 112])) (.cons (.cst (.str [100, 114, 111, 112])) .nil))) .nil))) (.seq (.ret (.and (.op (.isi "int") (.cons (.op .idx (.cons (.var 0) (.cons (.cst (.int 1)) .nil))) .nil)) (.and (.not (.op (.isi "bool") (.cons (.op .idx (.cons (.var 0) (.cons (.cst (.int 1)) .nil))) .nil))) (.op .gt (.cons (.op .idx (.cons (.var 0) (.cons (.cst (.int 1)) .nil))) (.cons (.cst (.int 0)) .nil)))))) .skip) .skip) (.seq (.iff (.or (.op .ne (.cons (.op .idx (.cons (.var 0) (.cons (.cst (.int 0)) .nil))) (.cons (.cst (.str [112, 117, 116])) .nil))) (.not (.op (.isi "tuple") (.cons (.op .idx (.cons (.var 0) (.cons (.cst (.int 1)) .nil))) .nil)))) (.seq (.ret (.cst (.bl false))) .skip) .skip) (.seq (.ret (.and (.op .ne (.cons (.op .idx (.cons (.var 0) (.cons (.cst (.int 1)) .nil))) (.cons (.op .tupd .nil) .nil))) (.op .eq (.cons (.comp [1] (.nm 1) (.op .idx (.cons (.var 0) (.cons (.cst (.int 1)) .nil))) (.not (.call "_law_is_row" false 0 (.cons (.var 1) .nil) .nil)) (.var 1)) (.cons (.op .lstd .nil) .nil))))) .skip))))
def N__law_form : List Str := ["thing", "spots", "at", "step"]
def md__law_form : List Bool := []
def s__law_form : Sm := (.seq (.iff (.not (.op (.isi "tuple") (.cons (.var 0) .nil))) (.seq (.ret (.cst .non)) .skip) .skip) (.seq (.asg 1 (.comp [2, 3] (.cons (.nm 2) (.cons (.nm 3) .nil)) (.op .enm (.cons (.var 0) .nil)) (.not (.call "_law_is_step" false 0 (.cons (.var 3) .nil) .nil)) (.var 2))) (.seq (.ret (.ife (.op .ne (.cons (.var 1) (.cons (.op .lstd .nil) .nil))) (.op .idx (.cons (.var 1) (.cons (.cst (.int 0)) .nil))) (.op .neg (.cons (.cst (.int 1)) .nil)))) .skip)))
theorem add_pair1 (x : List (Nat × Nat)) (p : Nat × Nat) : x.map pairD ++ [pairD p] = (x ++ [p]).map pairD := by simp
def fs__law_pairs : Fs := mk1 cScr okSc fun l => pairsD (pairsF l)
@[simp] theorem dice__law_pairs : fs__law_pairs.dice = false := id rfl
@[simp] theorem pats__law_pairs : fs__law_pairs.pats = [(1, [], none)] := id rfl
theorem sem__law_pairs {Γ : Glo} : Does Γ md__law_pairs 7 s__law_pairs fs__law_pairs := does1 (a := cScr) 0 fun l δ hl => by
  obtain ⟨ll, lo⟩ := okSc_iff.mp hl
  show Wp (exS Γ [false, true] false 0 s__law_pairs [some (scriptD l), none, none, none, none, none, none] δ) _
  simp [s__law_pairs]
  refine for_fold stepD (fun i st ρ => i ≤ l.length ∧ st.found.length ≤ 1000 * i ∧ ∃ x y z, ρ = [some (scriptD l), some (.lst (st.found.map pairD)), some (.int st.at_), some (.int st.to), x, y, z]) stepQ (st := ⟨[], 0, 0⟩) ⟨Nat.zero_le _, by simp, none, none, none, rfl⟩ ?_ ?_
  · rintro i st s ρ hs ⟨hi, hf, x, y, z, rfl⟩
    have hi2 : i < l.length := (List.getElem?_eq_some_iff.mp hs).1
    have hok := lo s (List.mem_of_getElem? hs)
    cases s with
    | keep n =>
      refine ⟨_, rfl, ?_⟩
      have hn : n ≤ 1000 := by simp [okStep] at hok; exact hok.2
      have sm : small (n : Int) = true := by simp [small]; omega
      simp [sm]
      refine for_up (lo := 0) (k := n) (fun j ρ δ' => δ' = δ ∧ ∃ z, ρ = [some (scriptD l), some (.lst ((st.found ++ runP st.at_ st.to j).map pairD)), some (.int st.at_), some (.int st.to), some (.str [107, 101, 101, 112]), some (.int n), z]) ⟨rfl, z, by simp [runP]⟩ ?_ ?_
      · rintro ρ δ' ⟨rfl, z, rfl⟩
        simp [stepQ]
        refine ⟨hi2, ?_⟩
        simp [runP]; omega
      · rintro j ρ δ' hj ⟨rfl, z, rfl⟩
        have e : st.found ++ runP st.at_ st.to (j + 1) = st.found ++ runP st.at_ st.to j ++ [(st.at_ + j, st.to + j)] := by simp [runP, List.range_succ]
        have q : st.found.length + j < 16777216 := by omega
        have q2 : (runP st.at_ st.to j).length = j := by simp [runP]
        simp [q2, q, e, pairD]
    | drop n => refine ⟨_, rfl, ?_⟩; simp [stepQ]; exact ⟨hi2, by omega⟩
    | put r => refine ⟨_, rfl, ?_⟩; simp [stepQ]; exact ⟨hi2, by omega⟩
  · rintro ρ ⟨hi, hf, x, y, z, rfl⟩
    simp [pairsF, pairsD]
theorem lpairs_at {l : List Step} (h : okSc l = true) (δ : Dice) : fs__law_pairs.sem [scriptD l] δ = .ok (pairsD (pairsF l)) δ := mk1_at (a := cScr) (x := l) h δ
structure GSt where
  at_ : Nat
  found : List (List Nat)
def stepG (rows : List (List Nat)) (st : Option GSt) (s : Step) : Option GSt := st.bind fun st => match s with
  | .put r => some ⟨st.at_, st.found ++ r⟩
  | .keep n => if st.at_ + n ≤ rows.length then some ⟨st.at_ + n, st.found ++ (rows.drop st.at_).take n⟩ else none
  | .drop n => if st.at_ + n ≤ rows.length then some ⟨st.at_ + n, st.found⟩ else none
def givesF (rows : List (List Nat)) (l : List Step) : Option (List (List Nat)) := (l.foldl (stepG rows) (some ⟨0, []⟩)).bind fun st => if st.at_ = rows.length then some st.found else none
def optR : Option (List (List Nat)) → D
  | some r => rowsD r
  | none => .non
theorem fold_none (rows : List (List Nat)) : ∀ l : List Step, l.foldl (stepG rows) none = none
  | [] => rfl
  | s :: l => by rw [List.foldl_cons]; exact fold_none rows l
def fs__law_gives : Fs := mk2 cScr cRows (fun l rows => okSc l && decide (rows.length ≤ 1000)) fun l rows => optR (givesF rows l)
@[simp] theorem dice__law_gives : fs__law_gives.dice = false := id rfl
@[simp] theorem pats__law_gives : fs__law_gives.pats = [(2, [], none)] := id rfl
def invG (l : List Step) (rows : List (List Nat)) (δ : Dice) (r : List Step) (ρ : En) (δ' : Dice) : Prop := δ' = δ ∧ ∃ (i : Nat) (st : GSt) (x y : Option D), l.drop i = r ∧ st.found.length ≤ 1000 * i ∧ ρ = [some (scriptD l), some (rowsD rows), some (.int st.at_), some (rowsD st.found), x, y] ∧ r.foldl (stepG rows) (some st) = l.foldl (stepG rows) (some ⟨0, []⟩)
theorem sem__law_gives {Γ : Glo} : Does Γ md__law_gives 6 s__law_gives fs__law_gives := does2 (a := cScr) (b := cRows) 0 fun l rows δ hl => by
  simp only [Bool.and_eq_true, decide_eq_true_eq] at hl
  obtain ⟨ll, lo⟩ := okSc_iff.mp hl.1
  show Wp (exS Γ [] false 0 s__law_gives [some (scriptD l), some (rowsD rows), none, none, none, none] δ) _
  simp [s__law_gives]
  refine for_list stepD (l := l) (invG l rows δ) ⟨rfl, 0, ⟨0, []⟩, none, none, rfl, by simp, rfl, rfl⟩ ?_ ?_
  · rintro ρ δ' ⟨rfl, i, st, x, y, e1, e2, rfl, e3⟩
    have e3 : some st = l.foldl (stepG rows) (some ⟨0, []⟩) := e3
    simp [givesF, ← e3]
    by_cases h : st.at_ = rows.length
    · simp [h, optR]
    · have h' : ¬ (st.at_ : Int) = rows.length := by omega
      simp [h, h', optR]
  · rintro s r ρ δ' ⟨rfl, i, st, x, y, e1, e2, rfl, e3⟩
    have hs : l[i]? = some s := by have := congrArg (fun z => z[0]?) e1; simpa using this
    have hr : l.drop (i + 1) = r := by have := congrArg List.tail e1; simpa using this
    have hi2 : i < l.length := (List.getElem?_eq_some_iff.mp hs).1
    have hok := lo s (List.mem_of_getElem? hs)
    have none_ : stepG rows (some st) s = none → optR (givesF rows l) = .non := fun z => by
      rw [List.foldl_cons, z, fold_none] at e3
      simp [givesF, ← e3, optR]
    cases s with
    | put q =>
      refine ⟨_, rfl, ?_⟩
      have hq : q.length ≤ 1000 := by simp [okStep] at hok; exact hok.1.2
      have b : st.found.length + q.length ≤ 16777216 := by omega
      simp [b]
      exact ⟨rfl, i + 1, ⟨st.at_, st.found ++ q⟩, _, _, hr, by simp; omega, rfl, e3⟩
    | keep n =>
      refine ⟨_, rfl, ?_⟩
      have hn : n ≤ 1000 := by simp [okStep] at hok; exact hok.2
      by_cases hc : st.at_ + n ≤ rows.length
      · have hc' : ¬ (rows.length : Int) < (st.at_ : Int) + n := by omega
        have e : (st.at_ : Int) + n = ((st.at_ + n : Nat) : Int) := by omega
        have b : st.found.length + min n (rows.length - st.at_) ≤ 16777216 := by omega
        simp [hc']
        rw [e, cut_both]
        simp [b]
        refine ⟨rfl, i + 1, ⟨st.at_ + n, st.found ++ (rows.drop st.at_).take n⟩, _, _, hr, by simp; omega, rfl, ?_⟩
        rw [← e3, List.foldl_cons]
        simp [stepG, hc]
      · have hc' : (rows.length : Int) < (st.at_ : Int) + n := by omega
        simp [hc']
        exact (none_ (by simp [stepG, hc])).symm
    | drop n =>
      refine ⟨_, rfl, ?_⟩
      by_cases hc : st.at_ + n ≤ rows.length
      · have hc' : ¬ (rows.length : Int) < (st.at_ : Int) + n := by omega
        simp [hc']
        refine ⟨rfl, i + 1, ⟨st.at_ + n, st.found⟩, _, _, hr, by simp; omega, by rw [← Int.natCast_add], ?_⟩
        rw [← e3, List.foldl_cons]
        simp [stepG, hc]
      · have hc' : (rows.length : Int) < (st.at_ : Int) + n := by omega
        simp [hc']
        exact (none_ (by simp [stepG, hc])).symm
theorem lgives_at {l : List Step} {rows : List (List Nat)} (h : okSc l = true) (h2 : rows.length ≤ 1000) (δ : Dice) : fs__law_gives.sem [scriptD l, rowsD rows] δ = .ok (optR (givesF rows l)) δ := mk2_at (a := cScr) (b := cRows) (x := l) (y := rows) (by simp [h, h2]) δ
end DF
set_option Elab.async false
set_option linter.all false
set_option maxRecDepth 100000
set_option maxHeartbeats 400000
namespace DF
open PySem PySem.Spec L2 DC
def fs__law_is_row : Fs := mk1 cAny (fun _ => true) fun d => .bl (isRowD d)
@[simp] theorem dice__law_is_row : fs__law_is_row.dice = false := id rfl
@[simp] theorem pats__law_is_row : fs__law_is_row.pats = [(1, [], none)] := id rfl
theorem all_filter {α : Type} (p : α → Bool) : ∀ l : List α, decide (l.filter (fun x => !p x) = []) = l.all p
  | [] => rfl
  | a :: l => by
    have := all_filter p l
    cases h : p a <;> simp [h, this]
    rw [← this]
    simp
theorem sem__law_is_row {Γ : Glo} : Does Γ md__law_is_row 2 s__law_is_row fs__law_is_row := does1 (a := cAny) 0 fun d δ _ => by
  show Wp (exS Γ [] false 0 s__law_is_row [some d, none] δ) _
  cases d with
  | str s =>
    simp [s__law_is_row, isRowD]
    by_cases hl : s.length ≤ 40
    · have hl' : ¬ (40 : Int) < (s.length : Int) := by omega
      have hl2 : (s.length : Int) ≤ 40 := by omega
      simp only [hl', hl2, hl, decide_false, decide_true, Bool.not_false, Wb_bl, if_true, true_implies, not_true, false_implies, and_true, true_and]
      refine compA (fun c => D.str [c]) (fun c => !(decide (32 ≤ c) && decide (c ≤ 126))) (fun c => .str [c]) (fun c _ => ⟨_, rfl, ?_, fun _ => by simp⟩) ?_
      · simp
        by_cases h1 : c < 32 <;> by_cases h2 : 126 < c <;> simp [h1, h2] <;> omega
      · rw [show (s.filter fun c => !(decide (32 ≤ c) && decide (c ≤ 126))).map (fun c => D.str [c]) = ((s.filter fun c => !(decide (32 ≤ c) && decide (c ≤ 126))).map fun c => [c]).map D.str by simp]
        show Wo (opv .eq [rowsD ((s.filter fun c => !(decide (32 ≤ c) && decide (c ≤ 126))).map fun c => [c]), .lst []]) _
        rw [eq_rows0]
        have := all_filter (fun c => decide (32 ≤ c) && decide (c ≤ 126)) s
        have h4 : decide (((s.filter fun c => !(decide (32 ≤ c) && decide (c ≤ 126))).map fun c => [c]) = []) = s.all fun c => decide (32 ≤ c) && decide (c ≤ 126) := by
          rw [← this]
          exact decide_eq_decide.mpr List.map_eq_nil_iff
        simp only [h4, rowB, hl, decide_true, Bool.true_and, Wo_some, and_self]
    · have hl' : (40 : Int) < (s.length : Int) := by omega
      have hl2 : ¬ (s.length : Int) ≤ 40 := by omega
      simp [hl', hl2, rowB, hl]
  | _ => simp [s__law_is_row, isRowD]
theorem lrow_at (d : D) (δ : Dice) : fs__law_is_row.sem [d] δ = .ok (.bl (isRowD d)) δ := mk1_at (a := cAny) (x := d) rfl δ
def fs__law_is_step : Fs := mk1 cAny D.shp fun d => .bl (isStepD d)
@[simp] theorem dice__law_is_step : fs__law_is_step.dice = false := id rfl
@[simp] theorem pats__law_is_step : fs__law_is_step.pats = [(1, [], none)] := id rfl
theorem shp_filter {ds : List D} (h : (D.tup ds).shp = true) (p : D → Bool) : (D.lst (ds.filter p)).shp = true := by
  obtain ⟨n, e, hn⟩ := shp_iff.mp h
  obtain ⟨m, e1, e2⟩ := map_opt (show (deps ds).map (· + 1) = some n by simpa only [D.dep] using e)
  have key : ∀ (ds : List D) (m : Nat), deps ds = some m → ∃ k, deps (ds.filter p) = some k ∧ k ≤ m := by
    intro ds
    induction ds with
    | nil => intro m h; exact ⟨0, rfl, Nat.zero_le _⟩
    | cons x xs ih =>
      intro m h
      obtain ⟨a, b, h1, h2, h3, h4⟩ := deps_cons h
      obtain ⟨k, g1, g2⟩ := ih b h2
      cases hp : p x with
      | false => exact ⟨k, by simp [hp, g1], by omega⟩
      | true => exact ⟨max a k, by simp [hp, deps, h1, g1], by omega⟩
  obtain ⟨k, g1, g2⟩ := key ds m e1
  exact shp_iff.mpr ⟨k + 1, by simp [D.dep, g1], by omega⟩
theorem eq_nil {xs : List D} (h : (D.lst xs).shp = true) : opv .eq [.lst xs, .lst []] = some (.bl (decide (xs = []))) := by
  rw [o_eq]
  have : (D.lst []).shp = true := by decide
  rw [h, this]
  cases xs <;> rfl
theorem sem__law_is_step {Γ : Glo} (h1 : Γ.fn "_law_is_row" = some fs__law_is_row) : Does Γ md__law_is_step 2 s__law_is_step fs__law_is_step := does1 (a := cAny) 0 fun d δ hd => by
  show Wp (exS Γ [] false 0 s__law_is_step [some d, none] δ) _
  match d, hd with
  | .tup [.str w, x], hd =>
    have hx := shp_of hd (show x ∈ [D.str w, x] by simp)
    by_cases hk : w = sKeep ∨ w = sDrop
    · have hp : ¬ w = sPut := by rcases hk with rfl | rfl <;> decide
      have hk' : (decide (w = [107, 101, 101, 112]) || decide (w = [100, 114, 111, 112])) = true := by
        rcases hk with h | h
        · simp [show w = [107, 101, 101, 112] from h]
        · simp [show w = [100, 114, 111, 112] from h]
      have hk2 : (decide (w = sKeep) || decide (w = sDrop)) = true := hk'
      have ik : dIn (.str w) (.tup [.str [107, 101, 101, 112], .str [100, 114, 111, 112]]) = some true := (in_kd w).trans (congrArg some hk2)
      simp only [s__law_is_step, isStepD, hp, if_false, hk2, Bool.true_and]
      cases x with
      | int i =>
        by_cases h0 : 0 < i
        · have : (1 : Int) ≤ i := by omega
          simp [ik, isNumD, h0, this]
        · have : ¬ (1 : Int) ≤ i := by omega
          simp [ik, isNumD, h0, this]
      | _ => simp [ik, isNumD]
    · have hk' : (decide (w = [107, 101, 101, 112]) || decide (w = [100, 114, 111, 112])) = false := by
        cases q : (decide (w = [107, 101, 101, 112]) || decide (w = [100, 114, 111, 112])) with
        | false => rfl
        | true =>
          have q' : w = [107, 101, 101, 112] ∨ w = [100, 114, 111, 112] := by simpa using q
          exact absurd q' hk
      have hk2 : (decide (w = sKeep) || decide (w = sDrop)) = false := hk'
      have ik : dIn (.str w) (.tup [.str [107, 101, 101, 112], .str [100, 114, 111, 112]]) = some false := (in_kd w).trans (congrArg some hk2)
      by_cases hp : w = sPut
      · subst hp
        have ik : dIn (.str [112, 117, 116]) (.tup [.str [107, 101, 101, 112], .str [100, 114, 111, 112]]) = some false := ik
        cases x with
        | tup rs =>
          have ne := ne_unit hx
          have hf := shp_filter hx fun c => !isRowD c
          cases rs with
          | nil => simp [s__law_is_step, isStepD, ik, ne, sPut]
          | cons r rs =>
            simp [s__law_is_step, isStepD, ik, ne, sPut, h1]
            have key : ∀ Q : List D → Dice → Prop, Q ((r :: rs).filter fun c => !isRowD c) δ → Wl (compL (bindP (.nm 1)) (ev Γ (.not (.call "_law_is_row" false 0 (.cons (.var 1) .nil) .nil))) (ev Γ (.var 1)) [some (.tup [.str [112, 117, 116], .tup (r :: rs)]), none] (r :: rs) δ) Q := fun Q q => by
              have := compA (fb := bindP (.nm 1)) (fc := ev Γ (.not (.call "_law_is_row" false 0 (.cons (.var 1) .nil) .nil))) (fe := ev Γ (.var 1)) (ρ := [some (.tup [.str [112, 117, 116], .tup (r :: rs)]), none]) (δ := δ) (id : D → D) (fun c => !isRowD c) id (l := r :: rs) (Q := Q) (fun c _ => ⟨_, rfl, by simp [h1, lrow_at], fun _ => by simp⟩) (by simpa using q)
              simpa using this
            refine key _ ?_
            rw [eq_nil hf, all_filter]
            simp
        | _ => simp [s__law_is_step, ik, isStepD, sPut]
      · have hp' : ¬ w = [112, 117, 116] := hp
        simp only [isStepD, hp, if_false, hk2, Bool.false_and]
        simp [s__law_is_step, ik, hp']
  | .tup [], hd => simp [s__law_is_step, isStepD]
  | .tup [a], hd => simp [s__law_is_step, isStepD]
  | .tup (a :: b :: c :: r), hd =>
    have : ¬ ((r.length : Int) + 1 + 1 + 1 = 2) := by omega
    simp [s__law_is_step, isStepD, this]
  | .tup [.non, x], hd => simp [s__law_is_step, isStepD]
  | .tup [.bl _, x], hd => simp [s__law_is_step, isStepD]
  | .tup [.int _, x], hd => simp [s__law_is_step, isStepD]
  | .tup [.lst _, x], hd => simp [s__law_is_step, isStepD]
  | .tup [.tup _, x], hd => simp [s__law_is_step, isStepD]
  | .tup [.dic _ _, x], hd => simp [s__law_is_step, isStepD]
  | .tup [.scr _, x], hd => simp [s__law_is_step, isStepD]
  | .non, hd => simp [s__law_is_step, isStepD]
  | .bl _, hd => simp [s__law_is_step, isStepD]
  | .int _, hd => simp [s__law_is_step, isStepD]
  | .str _, hd => simp [s__law_is_step, isStepD]
  | .lst _, hd => simp [s__law_is_step, isStepD]
  | .dic _ _, hd => simp [s__law_is_step, isStepD]
  | .scr _, hd => simp [s__law_is_step, isStepD]
theorem lstep_at {d : D} (h : d.shp = true) (δ : Dice) : fs__law_is_step.sem [d] δ = .ok (.bl (isStepD d)) δ := mk1_at (a := cAny) (x := d) h δ
def formF : D → D
  | .tup ds => (match ds.findIdx? (fun s => !isStepD s) with | some i => .int (i : Nat) | none => .int (-1))
  | _ => .non
theorem enm_map : ∀ (ds : List D) (k : Nat), enmL k ds = (ds.zipIdx k).map fun p => .tup [.int (p.2 : Nat), p.1]
  | [], k => rfl
  | d :: ds, k => by rw [enmL, enm_map ds (k + 1)]; rfl
theorem find_filter (p : D → Bool) : ∀ (ds : List D) (k : Nat), (match ds.findIdx? p with | none => (ds.zipIdx k).filter (fun q => p q.1) = [] | some i => ∃ x r, (ds.zipIdx k).filter (fun q => p q.1) = (x, k + i) :: r)
  | [], k => rfl
  | d :: ds, k => by
    have ih := find_filter p ds (k + 1)
    rw [List.findIdx?_cons]
    cases h : p d with
    | true => simp [h]
    | false =>
      simp only [h, Bool.false_eq_true, if_false]
      cases e : ds.findIdx? p with
      | none => rw [e] at ih; simp [h, ih]
      | some i =>
        rw [e] at ih
        obtain ⟨x, r, e2⟩ := ih
        simp [h, e2]
        omega
def fs__law_form : Fs := mk1 cAny D.shp formF
@[simp] theorem dice__law_form : fs__law_form.dice = false := id rfl
@[simp] theorem pats__law_form : fs__law_form.pats = [(1, [], none)] := id rfl
theorem ne_ints (l : List Nat) : opv .ne [.lst (l.map fun (n : Nat) => D.int n), .lst []] = some (.bl (!decide (l = []))) := by
  have : (D.lst (l.map fun (n : Nat) => D.int n)).shp = true := by
    obtain ⟨n, e, h⟩ := deps_all (f := fun (n : Nat) => D.int n) (k := 0) (fun a => ⟨0, rfl, Nat.le_refl _⟩) l
    exact shp_iff.mpr ⟨n + 1, by simp [D.dep, e], by omega⟩
  rw [o_ne, this]
  cases l <;> rfl
theorem sem__law_form {Γ : Glo} (h1 : Γ.fn "_law_is_step" = some fs__law_is_step) : Does Γ md__law_form 4 s__law_form fs__law_form := does1 (a := cAny) 0 fun d δ hd => by
  show Wp (exS Γ [] false 0 s__law_form [some d, none, none, none] δ) _
  cases d with
  | tup ds =>
    simp [s__law_form]
    rw [enm_map]
    refine compA (fun p : D × Nat => D.tup [.int (p.2 : Nat), p.1]) (fun p => !isStepD p.1) (fun p => .int (p.2 : Nat)) (fun p hp => ⟨_, rfl, ?_, fun _ => by simp⟩) ?_
    · have hs : p.1.shp = true := shp_of hd (List.fst_mem_of_mem_zipIdx hp)
      simp [h1, lstep_at hs]
    · have := find_filter (fun s => !isStepD s) ds 0
      rw [show (List.filter (fun p : D × Nat => !isStepD p.1) ds.zipIdx).map (fun p => D.int (p.2 : Nat)) = ((List.filter (fun p : D × Nat => !isStepD p.1) ds.zipIdx).map (·.2)).map fun (n : Nat) => D.int n by simp]
      cases e : ds.findIdx? (fun s => !isStepD s) with
      | none =>
        rw [e] at this
        simp only at this
        rw [this]
        have n0 := ne_ints []
        simp at n0
        simp [formF, e, n0]
      | some i =>
        rw [e] at this
        obtain ⟨x, r, e2⟩ := this
        rw [e2]
        have n0 := ne_ints (((x, 0 + i) :: r).map (·.2))
        simp at n0
        simp [formF, e, n0]
  | _ => simp [s__law_form, formF]
theorem form_ok {l : List Step} (h : okSc l = true) : formF (scriptD l) = .int (-1) := by
  have : (l.map stepD).findIdx? (fun s => !isStepD s) = none := by
    rw [List.findIdx?_eq_none_iff]
    intro s hs
    obtain ⟨a, ha, rfl⟩ := List.mem_map.mp hs
    simp [step_ok ((okSc_iff.mp h).2 a ha)]
  simp [formF, scriptD, this]
theorem lform_at {d : D} (h : d.shp = true) (δ : Dice) : fs__law_form.sem [d] δ = .ok (formF d) δ := mk1_at (a := cAny) (x := d) h δ
end DF
set_option Elab.async false
set_option linter.all false
set_option maxRecDepth 100000
set_option maxHeartbeats 400000
namespace DF
open PySem PySem.Spec L2 DC
def N__law_script : List Str := ["dice", "rows", "pot", "found", "at", "lap", "kind", "many", "turn"]
def md__law_script : List Bool := [false, false, false, true]
def s__law_script : Sm := (.seq (.par [3, 4] (.cons (.op .lstd .nil) (.cons (.cst (.int 0)) .nil))) (.seq (.fr (.nm 5) (.op (.rng 1) (.cons (.cst (.int 80)) .nil)) (.seq (.iff (.and (.op .ge (.cons (.var 4) (.cons (.op .len (.cons (.var 1) .nil)) .nil))) (.op .gt (.cons (.call "_law_roll" true 0 (.cons (.cst (.int 3)) .nil) .nil) (.cons (.cst (.int 0)) .nil)))) (.seq (.ret (.op .tuple (.cons (.var 3) .nil))) .skip) .skip) (.seq (.asg 6 (.call "_law_roll" true 0 (.cons (.cst (.int 5)) .nil) .nil)) (.seq (.asg 7 (.op .add (.cons (.cst (.int 1)) (.cons (.call "_law_roll" true 0 (.cons (.cst (.int 4)) .nil) .nil) .nil)))) (.seq (.iff (.op .eq (.cons (.var 6) (.cons (.cst (.int 0)) .nil))) (.seq (.app 3 (.op .tupd (.cons (.cst (.str [112, 117, 116])) (.cons (.op .tuple (.cons (.comp [8] (.nm 8) (.op (.rng 1) (.cons (.var 7) .nil)) (.cst (.bl true)) (.op .idx (.cons (.var 2) (.cons (.call "_law_roll" true 0 (.cons (.op .len (.cons (.var 2) .nil)) .nil) .nil) .nil)))) .nil)) .nil)))) .skip) (.seq (.iff (.op .lt (.cons (.var 4) (.cons (.op .len (.cons (.var 1) .nil)) .nil))) (.seq (.asg 7 (.op .min2 (.cons (.var 7) (.cons (.op .sub (.cons (.op .len (.cons (.var 1) .nil)) (.cons (.var 4) .nil))) .nil)))) (.seq (.app 3 (.op .tupd (.cons (.op .idx (.cons (.op .lstd (.cons (.cst (.str [107, 101, 101, 112])) (.cons (.cst (.str [100, 114, 111, 112])) .nil))) (.cons (.op .mod (.cons (.var 6) (.cons (.cst (.int 2)) .nil))) .nil))) (.cons (.var 7) .nil)))) (.seq (.asg 4 (.op .add (.cons (.var 4) (.cons (.var 7) .nil)))) .skip))) .skip) .skip)) (.seq (.iff (.op .gt (.cons (.op .len (.cons (.var 3) .nil)) (.cons (.cst (.int 40)) .nil))) (.seq (.ret (.op .add (.cons (.op .tuple (.cons (.var 3) .nil)) (.cons (.ife (.op .lt (.cons (.var 4) (.cons (.op .len (.cons (.var 1) .nil)) .nil))) (.op .tupd (.cons (.op .tupd (.cons (.cst (.str [107, 101, 101, 112])) (.cons (.op .sub (.cons (.op .len (.cons (.var 1) .nil)) (.cons (.var 4) .nil))) .nil))) .nil)) (.op .tupd .nil)) .nil)))) .skip) .skip) .skip)))))) (.seq (.ret (.op .tuple (.cons (.var 3) .nil))) .skip)))
def take1 : Step → Nat
  | .keep n => n
  | .drop n => n
  | .put _ => 0
def takesF (l : List Step) : Nat := (l.map take1).sum
theorem takes_app (a b : List Step) : takesF (a ++ b) = takesF a + takesF b := by simp [takesF]
def wordD : Step → D
  | .keep _ => .str [107, 101, 101, 112]
  | .drop _ => .str [100, 114, 111, 112]
  | .put _ => .str [112, 117, 116]
def okP (pot : List (List Nat)) (s : Step) : Prop := okStep s = true ∧ ∀ r, s = .put r → r.length ≤ 4 ∧ ∀ x ∈ r, x ∈ pot
def fs__law_script (Γ : Glo) : Fs := { dice := true, np := 3, pats := [(3, [], none)], sem := fun ds δ => runF Γ md__law_script false 9 true s__law_script 0 ds δ }
@[simp] theorem lscr_dice (Γ : Glo) : (fs__law_script Γ).dice = true := id rfl
@[simp] theorem lscr_pats (Γ : Glo) : (fs__law_script Γ).pats = [(3, [], none)] := id rfl
def scrJ (rows pot : List (List Nat)) (m i : Nat) (ρ : En) : Prop := ∃ (l : List Step) (at_ : Nat) (a b c d : Option D), ρ = [none, some (rowsD rows), some (rowsD pot), some (.lst (l.map stepD)), some (.int at_), a, b, c, d] ∧ (∀ s ∈ l, okP pot s) ∧ takesF l = at_ ∧ at_ ≤ rows.length ∧ l.length ≤ m ∧ (at_ < rows.length → l.length = i)
def scrK (rows pot : List (List Nat)) (m i : Nat) (kind many : Nat) (ρ : En) : Prop := ∃ (l : List Step) (at_ : Nat) (a d : Option D), ρ = [none, some (rowsD rows), some (rowsD pot), some (.lst (l.map stepD)), some (.int at_), a, some (.int kind), some (.int many), d] ∧ (∀ s ∈ l, okP pot s) ∧ takesF l = at_ ∧ at_ ≤ rows.length ∧ l.length ≤ m ∧ (at_ < rows.length → l.length = i)
theorem tuple_lst (l : List Step) : opv .tuple [.lst (l.map stepD)] = some (scriptD l) := rfl
theorem script_we {Γ : Glo} (h1 : Γ.fn "_law_roll" = some fs__law_roll) {δ : Dice} {Q : D → Dice → Prop} {X : Exc → Dice → Prop} {pot rows : List (List Nat)} (h0 : 0 < pot.length) (hp : pot.length ≤ 100) (hpr : ∀ r ∈ pot, rowB r = true) (hm : rows.length ≤ 900)
    (h : ∀ l δ', okSc l = true → l.length ≤ 42 → takesF l = rows.length → (∀ s ∈ l, okP pot s) → Q (scriptD l) δ') : We ((fs__law_script Γ).sem [rowsD rows, rowsD pot] δ) Q X := by
  have fin : ∀ l δ', l.length ≤ 42 → takesF l = rows.length → (∀ s ∈ l, okP pot s) → Q (scriptD l) δ' := fun l δ' a b c => h l δ' (okSc_iff.mpr ⟨by omega, fun s hs => (c s hs).1⟩) a b c
  refine runF_we ?_
  show Wp (exS Γ [false, false, false, true] false 0 s__law_script [none, some (rowsD rows), some (rowsD pot), none, none, none, none, none, none] δ) _
  unfold s__law_script
  refine wp_cut (fun ρ _ => ρ = [none, some (rowsD rows), some (rowsD pot), some (.lst []), some (.int 0), none, none, none, none]) (by simp) ?_
  rintro ρ δ rfl
  refine wp_cut (fun ρ _ => scrJ rows pot 40 80 ρ) ?_ ?_
  · have sm : small 80 = true := by decide
    simp [sm]
    refine for_up (lo := 0) (k := 80) (fun i ρ _ => scrJ rows pot 40 i ρ) ⟨[], 0, _, _, _, _, rfl, by simp, rfl, by omega, by simp, by simp⟩ (fun _ _ z => z) ?_
    rintro i ρ δ hi ⟨l, at_, va, vb, vc, vd, rfl, l1, l2, l3, l4, l5⟩
    refine wp_cut (fun ρ _ => scrJ rows pot 40 i ρ) ?_ ?_
    · refine wp_if (fun k _ => k = true → at_ = rows.length) ?_ (fun δ1 hg => ?_) fun δ1 _ => ?_
      · by_cases hc : rows.length ≤ at_
        · have hc' : ¬ (at_ : Int) < rows.length := by omega
          simp [h1, hc']
          refine roll_we (many := 3) (by decide) (by decide) fun n δ' hn => ?_
          simp
          omega
        · have hc' : (at_ : Int) < rows.length := by omega
          simp [hc']
      · simp [tuple_lst]
        exact fin l _ (by omega) (by rw [l2]; exact hg rfl) l1
      · simp
        exact ⟨l, at_, _, _, _, _, rfl, l1, l2, l3, l4, l5⟩
    rintro ρ δ ⟨l, at_, va, vb, vc, vd, rfl, l1, l2, l3, l4, l5⟩
    refine wp_cut (fun ρ _ => ∃ kind : Nat, kind < 5 ∧ ρ = [none, some (rowsD rows), some (rowsD pot), some (.lst (l.map stepD)), some (.int at_), va, some (.int kind), vc, vd]) ?_ ?_
    · simp [h1]
      refine roll_we (many := 5) (by decide) (by decide) fun n δ' hn => ?_
      simp
      exact ⟨n, by omega, rfl⟩
    rintro ρ δ ⟨kind, hk, rfl⟩
    refine wp_cut (fun ρ _ => ∃ many : Nat, 1 ≤ many ∧ many ≤ 4 ∧ scrK rows pot 40 i kind many ρ) ?_ ?_
    · simp [h1]
      refine roll_we (many := 4) (by decide) (by decide) fun n δ' hn => ?_
      simp
      rw [show (1 : Int) + n = ((n + 1 : Nat) : Int) by omega]
      exact ⟨n + 1, by omega, by omega, l, at_, _, _, rfl, l1, l2, l3, l4, l5⟩
    rintro ρ δ ⟨many, m1, m2, l, at_, va, vd, rfl, l1, l2, l3, l4, l5⟩
    refine wp_cut (fun ρ _ => scrJ rows pot 41 (i + 1) ρ) ?_ ?_
    · have lb : l.length < 16777216 := by omega
      by_cases hk0 : kind = 0
      · subst hk0
        have sm : small (many : Int) = true := by simp [small]; omega
        simp [sm, lb]
        refine compL_dice (fun _ x => ∃ r ∈ pot, x = .str r) _ _ _ (fun d _ δ => ⟨_, rfl, rfl, ?_⟩) fun xs δ2 hl ha => ?_
        · simp [h1]
          refine roll_we (by omega) (by omega) fun n δ' hn => ?_
          obtain ⟨r, hr, e⟩ := atI_mem (pot := pot) (n := n) (by omega)
          rw [atI_map] at e
          obtain ⟨r', e1, e2⟩ := map_opt e
          cases e2
          simp [e1]
          exact hr
        · rw [DF.rngL_len] at hl
          obtain ⟨rs, rfl, hm⟩ := rows_of (pot := pot) (xs := xs) fun x hx => by
            obtain ⟨j, hj, e⟩ := List.getElem_of_mem hx
            exact ha j ((rngL 0 many)[j]'(by rw [DF.rngL_len]; omega)) x (List.getElem?_eq_getElem _) (by rw [List.getElem?_eq_getElem hj, e])
          rw [List.length_map] at hl
          try simp
          rw [show l.map stepD ++ [D.tup [D.str [112, 117, 116], D.tup (rs.map D.str)]] = (l ++ [Step.put rs]).map stepD by simp [stepD]]
          refine ⟨l ++ [.put rs], at_, _, _, _, _, rfl, ?_, by rw [takes_app, l2]; simp [takesF, take1], l3, by simp; omega, fun z => by simp; exact l5 z⟩
          intro s hs
          rcases List.mem_append.mp hs with hs | hs
          · exact l1 s hs
          · have : s = .put rs := by simpa using hs
            subst this
            refine ⟨?_, fun r hr => by cases hr; exact ⟨by omega, hm⟩⟩
            simp [okStep]
            refine ⟨⟨fun z => by rw [z] at hl; simp at hl; omega, by omega⟩, fun x hx => hpr x (hm x hx)⟩
      · have hk0' : ¬ (kind : Int) = 0 := by omega
        by_cases hc : at_ < rows.length
        · have hc' : (at_ : Int) < rows.length := by omega
          have mn : ∃ k : Nat, (if (rows.length : Int) - at_ < many then (rows.length : Int) - at_ else many) = (k : Int) ∧ 1 ≤ k ∧ k ≤ 4 ∧ at_ + k ≤ rows.length := by
            by_cases hz : (rows.length : Int) - at_ < many
            · exact ⟨rows.length - at_, by rw [if_pos hz]; omega, by omega, by omega, by omega⟩
            · exact ⟨many, by rw [if_neg hz], by omega, by omega, by omega⟩
          obtain ⟨k, ek, k1, k2, k3⟩ := mn
          have md2 : ∃ st : Step, atI [D.str [107, 101, 101, 112], D.str [100, 114, 111, 112]] ((kind : Int) % 2) = some (wordD st) ∧ (st = .keep k ∨ st = .drop k) := by
            have : (kind : Int) % 2 = 0 ∨ (kind : Int) % 2 = 1 := by omega
            rcases this with z | z
            · exact ⟨.keep k, by rw [z]; simp [wordD], .inl rfl⟩
            · exact ⟨.drop k, by rw [z]; simp [wordD], .inr rfl⟩
          obtain ⟨st, e1, e2⟩ := md2
          simp [hk0, hc', ek, e1, lb]
          have ep : l.map stepD ++ [D.tup [(wordD st), D.int k]] = (l ++ [st]).map stepD := by
            rcases e2 with rfl | rfl <;> simp [stepD, wordD]
          rw [ep, show (at_ : Int) + k = ((at_ + k : Nat) : Int) by omega]
          refine ⟨l ++ [st], at_ + k, _, _, _, _, rfl, ?_, ?_, k3, by simp; omega, fun z => by simp; exact l5 hc⟩
          · intro s hs
            rcases List.mem_append.mp hs with hs | hs
            · exact l1 s hs
            · have : s = st := by simpa using hs
              subst this
              rcases e2 with rfl | rfl
              · exact ⟨by simp [okStep]; omega, fun r hr => by cases hr⟩
              · exact ⟨by simp [okStep]; omega, fun r hr => by cases hr⟩
          · rw [takes_app, l2]
            rcases e2 with rfl | rfl <;> simp [takesF, take1]
        · have hc' : ¬ (at_ : Int) < rows.length := by omega
          simp [hk0, hc']
          exact ⟨l, at_, _, _, _, _, rfl, l1, l2, l3, by omega, fun z => absurd z hc⟩
    rintro ρ δ ⟨l, at_, va, vb, vc, vd, rfl, l1, l2, l3, l4, l5⟩
    by_cases hl : 40 < l.length
    · have hl' : (40 : Int) < l.length := by omega
      by_cases hc : at_ < rows.length
      · have hc' : (at_ : Int) < rows.length := by omega
        have lb : l.length + 1 ≤ 16777216 := by omega
        simp [hl', hc']
        rw [show (rows.length : Int) - at_ = ((rows.length - at_ : Nat) : Int) by omega]
        have eq : l.map stepD ++ [D.tup [D.str [107, 101, 101, 112], D.int ((rows.length - at_ : Nat) : Int)]] = (l ++ [Step.keep (rows.length - at_)]).map stepD := by simp [stepD]
        rw [eq]
        refine ⟨by omega, ?_⟩
        show Q (scriptD (l ++ [Step.keep (rows.length - at_)])) _
        refine fin (l ++ [Step.keep (rows.length - at_)]) _ (by rw [List.length_append]; simp; omega) (by rw [takes_app, l2]; simp [takesF, take1]; omega) fun s hs => ?_
        rcases List.mem_append.mp hs with hs | hs
        · exact l1 s hs
        · have : s = .keep (rows.length - at_) := by simpa using hs
          subst this
          exact ⟨by simp [okStep]; omega, fun r hr => by cases hr⟩
      · have hc' : ¬ (at_ : Int) < rows.length := by omega
        have lb : l.length + 0 ≤ 16777216 := by omega
        simp [hl', hc']
        exact ⟨by omega, fin l _ (by omega) (by omega) l1⟩
    · have hl' : ¬ (40 : Int) < l.length := by omega
      simp [hl']
      exact ⟨l, at_, _, _, _, _, rfl, l1, l2, l3, by omega, l5⟩
  · rintro ρ δ ⟨l, at_, va, vb, vc, vd, rfl, l1, l2, l3, l4, l5⟩
    simp [tuple_lst]
    exact fin l _ (by omega) (by omega) l1
end DF
set_option Elab.async false
set_option linter.all false
set_option maxRecDepth 100000
set_option maxHeartbeats 400000
namespace DF
open PySem PySem.Spec L2 DC
def put1 : Step → List (List Nat)
  | .put r => r
  | _ => []
def putsF (l : List Step) : List (List Nat) := l.flatMap put1
theorem puts_app (a b : List Step) : putsF (a ++ b) = putsF a ++ putsF b := by simp [putsF]
structure Eqv (l m : List Step) : Prop where
  q : ∀ st, l.foldl stepQ st = m.foldl stepQ st
  g : ∀ rows st, l.foldl (stepG rows) st = m.foldl (stepG rows) st
  c : costF l = costF m
  t : takesF l = takesF m
  p : putsF l = putsF m
theorem Eqv.refl (l : List Step) : Eqv l l := ⟨fun _ => rfl, fun _ _ => rfl, rfl, rfl, rfl⟩
theorem Eqv.trans {l m n : List Step} (a : Eqv l m) (b : Eqv m n) : Eqv l n := ⟨fun s => (a.q s).trans (b.q s), fun r s => (a.g r s).trans (b.g r s), a.c.trans b.c, a.t.trans b.t, a.p.trans b.p⟩
theorem Eqv.symm {l m : List Step} (a : Eqv l m) : Eqv m l := ⟨fun s => (a.q s).symm, fun r s => (a.g r s).symm, a.c.symm, a.t.symm, a.p.symm⟩
theorem cost_app (a b : List Step) : costF (a ++ b) = costF a + costF b := by simp [costF]
theorem Eqv.app {a b c d : List Step} (x : Eqv a b) (y : Eqv c d) : Eqv (a ++ c) (b ++ d) := ⟨fun s => by rw [List.foldl_append, List.foldl_append, x.q, y.q], fun r s => by rw [List.foldl_append, List.foldl_append, x.g, y.g], by rw [cost_app, cost_app, x.c, y.c], by rw [takes_app, takes_app, x.t, y.t], by rw [puts_app, puts_app, x.p, y.p]⟩
theorem runP_add (a t n m : Nat) : runP a t (n + m) = runP a t n ++ runP (a + n) (t + n) m := by
  unfold runP
  rw [List.range_add, List.map_append, List.map_map]
  congr 1
  apply List.map_congr_left
  intro i _
  simp; omega
theorem eqv_kk (n m : Nat) : Eqv [.keep n, .keep m] [.keep (n + m)] where
  q := fun st => by simp [stepQ, runP_add, Nat.add_assoc]
  g := fun rows st => by
    cases st with
    | none => rfl
    | some st =>
      simp only [List.foldl_cons, List.foldl_nil, stepG, Option.bind_some]
      by_cases h1 : st.at_ + n ≤ rows.length
      · simp only [h1, if_true, Option.bind_some]
        by_cases h2 : st.at_ + n + m ≤ rows.length
        · rw [if_pos h2, if_pos (show st.at_ + (n + m) ≤ rows.length by omega), ← Nat.add_assoc, List.append_assoc]
          congr 3
          rw [List.take_add, List.drop_drop]
        · rw [if_neg h2, if_neg (show ¬ st.at_ + (n + m) ≤ rows.length by omega)]
      · rw [if_neg h1, if_neg (show ¬ st.at_ + (n + m) ≤ rows.length by omega)]; rfl
  c := rfl
  t := by simp [takesF, take1]
  p := rfl
theorem eqv_dd (n m : Nat) : Eqv [.drop n, .drop m] [.drop (n + m)] where
  q := fun st => by simp [stepQ, Nat.add_assoc]
  g := fun rows st => by
    cases st with
    | none => rfl
    | some st =>
      simp only [List.foldl_cons, List.foldl_nil, stepG, Option.bind_some]
      by_cases h1 : st.at_ + n ≤ rows.length
      · simp only [h1, if_true, Option.bind_some]
        by_cases h2 : st.at_ + n + m ≤ rows.length
        · rw [if_pos h2, if_pos (show st.at_ + (n + m) ≤ rows.length by omega), ← Nat.add_assoc]
        · rw [if_neg h2, if_neg (show ¬ st.at_ + (n + m) ≤ rows.length by omega)]
      · rw [if_neg h1, if_neg (show ¬ st.at_ + (n + m) ≤ rows.length by omega)]; rfl
  c := by simp [costF, cost1]
  t := by simp [takesF, take1]
  p := rfl
theorem eqv_pp (a b : List (List Nat)) : Eqv [.put a, .put b] [.put (a ++ b)] where
  q := fun st => by simp [stepQ, Nat.add_assoc]
  g := fun rows st => by cases st <;> simp [stepG]
  c := by simp [costF, cost1]
  t := by simp [takesF, take1]
  p := by simp [putsF, put1]
theorem eqv_pd (a : List (List Nat)) (n : Nat) : Eqv [.put a, .drop n] [.drop n, .put a] where
  q := fun st => by simp [stepQ]
  g := fun rows st => by
    cases st with
    | none => rfl
    | some st =>
      simp only [List.foldl_cons, List.foldl_nil, stepG, Option.bind_some]
      split <;> rfl
  c := by simp [costF, cost1]; omega
  t := by simp [takesF, take1]
  p := by simp [putsF, put1]
def Ks (k : Nat) : List Step := if 0 < k then [.keep k] else []
def Ds (d : Nat) : List Step := if 0 < d then [.drop d] else []
def Ps (p : List (List Nat)) : List Step := if p = [] then [] else [.put p]
theorem as_eq (d : Nat) (p : List (List Nat)) (k : Nat) : asSteps d p k = Ds d ++ Ps p ++ Ks k := rfl
@[simp] theorem Ks0 : Ks 0 = [] := rfl
@[simp] theorem Ds0 : Ds 0 = [] := rfl
@[simp] theorem Ps0 : Ps [] = [] := rfl
theorem eqv_K (k n : Nat) (h : 1 ≤ n) : Eqv (Ks k ++ [.keep n]) (Ks (k + n)) := by
  unfold Ks
  rw [if_pos (show 0 < k + n by omega)]
  by_cases hk : 0 < k
  · rw [if_pos hk]; exact eqv_kk k n
  · rw [if_neg hk, show k + n = n by omega]; exact Eqv.refl _
theorem eqv_D (k n : Nat) (h : 1 ≤ n) : Eqv (Ds k ++ [.drop n]) (Ds (k + n)) := by
  unfold Ds
  rw [if_pos (show 0 < k + n by omega)]
  by_cases hk : 0 < k
  · rw [if_pos hk]; exact eqv_dd k n
  · rw [if_neg hk, show k + n = n by omega]; exact Eqv.refl _
theorem eqv_P (p r : List (List Nat)) (h : r ≠ []) : Eqv (Ps p ++ [.put r]) (Ps (p ++ r)) := by
  unfold Ps
  rw [if_neg (show ¬ p ++ r = [] by simp [h])]
  by_cases hp : p = []
  · rw [if_pos hp, hp]; exact Eqv.refl _
  · rw [if_neg hp]; exact eqv_pp p r
def stepsP (st : PSt) : List Step := st.found ++ asSteps st.drops st.puts st.keeps
theorem eqv_step (st : PSt) (s : Step) (h : okStep s = true) : Eqv (stepsP st ++ [s]) (stepsP (stepP st s)) := by
  cases s with
  | keep n =>
    have hn : 1 ≤ n := by simp [okStep] at h; exact h.1
    simp only [stepsP, stepP, as_eq, List.append_assoc]
    exact (Eqv.refl _).app ((Eqv.refl _).app ((Eqv.refl _).app (eqv_K _ _ hn)))
  | drop n =>
    have hn : 1 ≤ n := by simp [okStep] at h; exact h.1
    by_cases hk : 0 < st.keeps
    · simp only [stepsP, stepP, flushP, hk, if_true, as_eq]
      have : Ds (0 + n) ++ Ps [] ++ Ks 0 = [.drop n] := by simp [Ds]; omega
      rw [this]
      exact Eqv.refl _
    · have hk0 : st.keeps = 0 := by omega
      have fl : flushP st = st := if_neg hk
      simp only [stepsP, stepP, fl, as_eq, hk0, Ks0, List.append_nil, List.append_assoc]
      refine (Eqv.refl _).app ?_
      have : Eqv (Ps st.puts ++ [.drop n]) ([.drop n] ++ Ps st.puts) := by
        unfold Ps
        split
        · exact Eqv.refl _
        · exact eqv_pd _ _
      refine ((Eqv.refl _).app this).trans ?_
      rw [← List.append_assoc]
      exact (eqv_D _ _ hn).app (Eqv.refl _)
  | put r =>
    have hr : r ≠ [] := by simp [okStep] at h; exact h.1.1
    by_cases hk : 0 < st.keeps
    · simp only [stepsP, stepP, flushP, hk, if_true, as_eq]
      have : Ds 0 ++ Ps ([] ++ r) ++ Ks 0 = [.put r] := by simp [Ps, hr]
      rw [this]
      exact Eqv.refl _
    · have hk0 : st.keeps = 0 := by omega
      have fl : flushP st = st := if_neg hk
      simp only [stepsP, stepP, fl, as_eq, hk0, Ks0, List.append_nil, List.append_assoc]
      exact (Eqv.refl _).app ((Eqv.refl _).app (eqv_P _ _ hr))
theorem eqv_fold : ∀ (l : List Step) (st : PSt), (∀ s ∈ l, okStep s = true) → Eqv (stepsP st ++ l) (stepsP (l.foldl stepP st))
  | [], st, _ => by simp only [List.append_nil, List.foldl_nil]; exact Eqv.refl _
  | s :: l, st, h => by
    have := eqv_fold l (stepP st s) fun x hx => h x (List.mem_cons_of_mem _ hx)
    rw [List.foldl_cons]
    refine Eqv.trans ?_ this
    rw [show stepsP st ++ s :: l = (stepsP st ++ [s]) ++ l by simp]
    exact (eqv_step st s (h s (by simp))).app (Eqv.refl _)
theorem plain_eqv {l : List Step} (h : ∀ s ∈ l, okStep s = true) : Eqv l (plainF l) := by
  have := eqv_fold l ⟨[], 0, [], 0⟩ h
  simpa [stepsP, asSteps, plainF] using this
theorem plain_pairs {l : List Step} (h : ∀ s ∈ l, okStep s = true) : pairsF (plainF l) = pairsF l := by
  unfold pairsF; rw [← (plain_eqv h).q]
theorem plain_gives {l : List Step} (h : ∀ s ∈ l, okStep s = true) (rows : List (List Nat)) : givesF rows (plainF l) = givesF rows l := by
  unfold givesF; rw [← (plain_eqv h).g]
abbrev KDP := Nat × Nat × List (List Nat)
def kdp1 (x : KDP) : List Step := Ks x.1 ++ Ds x.2.1 ++ Ps x.2.2
def kdpS (l : List KDP) : List Step := l.flatMap kdp1
def nz (x : KDP) : Prop := 0 < x.2.1 ∨ x.2.2 ≠ []
def wfT : List KDP → Prop
  | [] => True
  | [x] => 0 < x.1
  | x :: y :: r => 0 < x.1 ∧ nz x ∧ wfT (y :: r)
def wf : List KDP → Prop
  | [] => True
  | [x] => 0 < x.1 ∨ nz x
  | x :: y :: r => nz x ∧ wfT (y :: r)
theorem wfT_snoc : ∀ (l : List KDP) (x : KDP), wfT l → (∀ y ∈ l, nz y) → 0 < x.1 → wfT (l ++ [x])
  | [], x, _, _, h => h
  | [y], x, h, hn, hx => ⟨h, hn y (by simp), hx⟩
  | y :: z :: r, x, h, hn, hx => ⟨h.1, h.2.1, wfT_snoc (z :: r) x h.2.2 (fun w hw => hn w (List.mem_cons_of_mem _ hw)) hx⟩
theorem wf_snoc (l : List KDP) (x : KDP) (h : wf l) (hn : ∀ y ∈ l, nz y) (h0 : l ≠ [] → 0 < x.1) (h1 : 0 < x.1 ∨ nz x) : wf (l ++ [x]) := by
  match l, h, hn, h0 with
  | [], _, _, _ => exact h1
  | [y], h, hn, h0 => exact ⟨hn y (by simp), h0 (by simp)⟩
  | y :: z :: r, h, hn, h0 => exact ⟨h.1, wfT_snoc (z :: r) x h.2 (fun w hw => hn w (List.mem_cons_of_mem _ hw)) (h0 (by simp))⟩
structure PInv (st : PSt) (bl : List KDP) (kk : Nat) : Prop where
  f : st.found = kdpS bl ++ Ks kk
  w : wf bl
  n : ∀ y ∈ bl, nz y
  k : bl ≠ [] → 0 < kk
  c : bl ≠ [] ∨ 0 < kk → nz (kk, st.drops, st.puts)
theorem kdpS_app (a b : List KDP) : kdpS (a ++ b) = kdpS a ++ kdpS b := by simp [kdpS]
theorem kdpS_one (x : KDP) : kdpS [x] = kdp1 x := by simp [kdpS]
theorem pinv_flush {st : PSt} {bl : List KDP} {kk : Nat} (I : PInv st bl kk) (hk : 0 < st.keeps) : ∃ bl' kk', kdpS bl' ++ Ks kk' = st.found ++ asSteps st.drops st.puts st.keeps ∧ wf bl' ∧ (∀ y ∈ bl', nz y) ∧ 0 < kk' := by
  by_cases hz : nz (kk, st.drops, st.puts)
  · refine ⟨bl ++ [(kk, st.drops, st.puts)], st.keeps, ?_, wf_snoc bl _ I.w I.n I.k (.inr hz), fun y hy => ?_, hk⟩
    · rw [kdpS_app, kdpS_one, I.f, as_eq]
      simp [kdp1, List.append_assoc]
    · rcases List.mem_append.mp hy with hy | hy
      · exact I.n y hy
      · have : y = (kk, st.drops, st.puts) := by simpa using hy
        rw [this]; exact hz
  · have hb : bl = [] ∧ kk = 0 := by
      by_cases h : bl ≠ [] ∨ 0 < kk
      · exact absurd (I.c h) hz
      · constructor
        · exact Classical.byContradiction fun z => h (.inl z)
        · omega
    have hd : st.drops = 0 ∧ st.puts = [] := by
      constructor
      · exact Classical.byContradiction fun z => hz (.inl (show 0 < st.drops by omega))
      · exact Classical.byContradiction fun z => hz (.inr z)
    refine ⟨[], st.keeps, ?_, trivial, fun y hy => (by cases hy), hk⟩
    rw [I.f, hb.1, hb.2, as_eq, hd.1, hd.2]
    rfl
theorem pinv_step {st : PSt} {bl : List KDP} {kk : Nat} (I : PInv st bl kk) (s : Step) (h : okStep s = true) : ∃ bl' kk', PInv (stepP st s) bl' kk' := by
  cases s with
  | keep n => exact ⟨bl, kk, I.f, I.w, I.n, I.k, I.c⟩
  | drop n =>
    have hn : 1 ≤ n := by simp [okStep] at h; exact h.1
    by_cases hk : 0 < st.keeps
    · obtain ⟨bl', kk', e, w, nn, k'⟩ := pinv_flush I hk
      refine ⟨bl', kk', ?_, w, nn, fun _ => k', fun _ => ?_⟩
      · simp [stepP, flushP, hk, e]
      · simp [stepP, flushP, hk, nz]; omega
    · refine ⟨bl, kk, ?_, I.w, I.n, I.k, fun _ => ?_⟩
      · simp [stepP, flushP, hk, I.f]
      · simp [stepP, flushP, hk, nz]; omega
  | put r =>
    have hr : r ≠ [] := by simp [okStep] at h; exact h.1.1
    by_cases hk : 0 < st.keeps
    · obtain ⟨bl', kk', e, w, nn, k'⟩ := pinv_flush I hk
      refine ⟨bl', kk', ?_, w, nn, fun _ => k', fun _ => ?_⟩
      · simp [stepP, flushP, hk, e]
      · simp [stepP, flushP, hk, nz, hr]
    · refine ⟨bl, kk, ?_, I.w, I.n, I.k, fun _ => ?_⟩
      · simp [stepP, flushP, hk, I.f]
      · simp [stepP, flushP, hk, nz, hr]
theorem pinv_fold : ∀ (l : List Step) (st : PSt) (bl : List KDP) (kk : Nat), PInv st bl kk → (∀ s ∈ l, okStep s = true) → ∃ bl' kk', PInv (l.foldl stepP st) bl' kk'
  | [], st, bl, kk, I, _ => ⟨bl, kk, I⟩
  | s :: l, st, bl, kk, I, h => by
    obtain ⟨bl', kk', I'⟩ := pinv_step I s (h s (by simp))
    exact pinv_fold l _ _ _ I' fun x hx => h x (List.mem_cons_of_mem _ hx)
theorem plain_wf {l : List Step} (h : ∀ s ∈ l, okStep s = true) : ∃ t, wf t ∧ plainF l = kdpS t := by
  obtain ⟨bl, kk, I⟩ := pinv_fold l ⟨[], 0, [], 0⟩ [] 0 ⟨rfl, trivial, fun y hy => (by cases hy), fun z => absurd rfl z, fun z => by rcases z with z | z <;> simp at z⟩ h
  show ∃ t, wf t ∧ stepsP (l.foldl stepP ⟨[], 0, [], 0⟩) = kdpS t
  generalize l.foldl stepP ⟨[], 0, [], 0⟩ = st at I
  by_cases hk : 0 < st.keeps
  · obtain ⟨bl', kk', e, w, nn, k'⟩ := pinv_flush I hk
    refine ⟨bl' ++ [(kk', 0, [])], wf_snoc _ _ w nn (fun _ => k') (.inl k'), ?_⟩
    rw [kdpS_app, kdpS_one]
    show st.found ++ asSteps st.drops st.puts st.keeps = _
    rw [← e]
    simp [kdp1]
  · have hk0 : st.keeps = 0 := by omega
    by_cases hz : 0 < kk ∨ nz (kk, st.drops, st.puts)
    · refine ⟨bl ++ [(kk, st.drops, st.puts)], wf_snoc _ _ I.w I.n I.k hz, ?_⟩
      rw [kdpS_app, kdpS_one]
      show st.found ++ asSteps st.drops st.puts st.keeps = _
      rw [I.f, as_eq, hk0]
      simp [kdp1, List.append_assoc]
    · have hb : bl = [] := Classical.byContradiction fun z => hz (.inl (I.k z))
      have hkk : kk = 0 := by omega
      have hd : st.drops = 0 ∧ st.puts = [] := by
        constructor
        · exact Classical.byContradiction fun z => hz (.inr (.inl (show 0 < st.drops by omega)))
        · exact Classical.byContradiction fun z => hz (.inr (.inr z))
      refine ⟨[], trivial, ?_⟩
      show st.found ++ asSteps st.drops st.puts st.keeps = _
      rw [I.f, as_eq, hk0, hb, hkk, hd.1, hd.2]
      rfl
end DF
set_option Elab.async false
set_option linter.all false
set_option maxRecDepth 100000
set_option maxHeartbeats 400000
namespace DF
open PySem PySem.Spec L2 DC
def N__law_by_pairs : List Str := ["many", "other", "pairs", "found", "at", "to", "begin", "new", "one"]
def md__law_by_pairs : List Bool := [false, false, false, true, false, false, false, true]
def s__law_by_pairs : Sm := (.seq (.par [3, 4, 5] (.cons (.op .lstd .nil) (.cons (.cst (.int 0)) (.cons (.cst (.int 0)) .nil)))) (.seq (.whl (.or (.op .lt (.cons (.var 4) (.cons (.var 0) .nil))) (.op .lt (.cons (.var 5) (.cons (.op .len (.cons (.var 1) .nil)) .nil)))) (.seq (.iff (.op .isin (.cons (.op .tupd (.cons (.var 4) (.cons (.var 5) .nil))) (.cons (.var 2) .nil))) (.seq (.asg 6 (.var 4)) (.seq (.whl (.op .isin (.cons (.op .tupd (.cons (.var 4) (.cons (.var 5) .nil))) (.cons (.var 2) .nil))) (.seq (.par [4, 5] (.cons (.op .add (.cons (.var 4) (.cons (.cst (.int 1)) .nil))) (.cons (.op .add (.cons (.var 5) (.cons (.cst (.int 1)) .nil))) .nil))) .skip)) (.seq (.app 3 (.op .tupd (.cons (.cst (.str [107, 101, 101, 112])) (.cons (.op .sub (.cons (.var 4) (.cons (.var 6) .nil))) .nil)))) .skip))) .skip) (.seq (.par [6, 7] (.cons (.var 4) (.cons (.op .lstd .nil) .nil))) (.seq (.whl (.and (.op .lt (.cons (.var 4) (.cons (.var 0) .nil))) (.op .notin (.cons (.var 4) (.cons (.comp [8] (.nm 8) (.var 2) (.cst (.bl true)) (.op .idx (.cons (.var 8) (.cons (.cst (.int 0)) .nil)))) .nil)))) (.seq (.asg 4 (.op .add (.cons (.var 4) (.cons (.cst (.int 1)) .nil)))) .skip)) (.seq (.whl (.and (.op .lt (.cons (.var 5) (.cons (.op .len (.cons (.var 1) .nil)) .nil))) (.op .notin (.cons (.var 5) (.cons (.comp [8] (.nm 8) (.var 2) (.cst (.bl true)) (.op .idx (.cons (.var 8) (.cons (.cst (.int 1)) .nil)))) .nil)))) (.seq (.app 7 (.op .idx (.cons (.var 1) (.cons (.var 5) .nil)))) (.seq (.asg 5 (.op .add (.cons (.var 5) (.cons (.cst (.int 1)) .nil)))) .skip))) (.seq (.iff (.op .gt (.cons (.var 4) (.cons (.var 6) .nil))) (.seq (.app 3 (.op .tupd (.cons (.cst (.str [100, 114, 111, 112])) (.cons (.op .sub (.cons (.var 4) (.cons (.var 6) .nil))) .nil)))) .skip) .skip) (.seq (.iff (.op .ne (.cons (.var 7) (.cons (.op .lstd .nil) .nil))) (.seq (.app 3 (.op .tupd (.cons (.cst (.str [112, 117, 116])) (.cons (.op .tuple (.cons (.var 7) .nil)) .nil)))) .skip) .skip) .skip))))))) (.seq (.ret (.op .tuple (.cons (.var 3) .nil))) .skip)))
theorem whl_count {Γ : Glo} {md : List Bool} {fr : Bool} {n : Nat} {P : Post} {t : Ex} {b : Sm} {δ : Dice} (k : Nat) (env : Nat → En) (hk : k < n)
    (hc : ∀ j, j ≤ k → We (ev Γ t (env j) δ) (fun d δ1 => d = .bl (decide (j < k)) ∧ δ1 = δ) (fun _ _ => False))
    (hb : ∀ j, j < k → Wp (exS Γ md fr n b (env j) δ) ⟨fun ρ δ' => ρ = env (j + 1) ∧ δ' = δ, fun _ _ => False, P.rt, P.ex⟩) (fin : P.nx (env k) δ) : Wp (exS Γ md fr n (.whl t b) (env 0) δ) P := by
  refine Wp_whl (fun m ρ δ' => δ' = δ ∧ ∃ j, j ≤ k ∧ m = k - j ∧ ρ = env j) ⟨k, hk, rfl, 0, Nat.zero_le _, rfl, rfl⟩ ?_
  rintro m ρ δ' ⟨rfl, j, hj, rfl, rfl⟩
  refine (hc j hj).mono (fun d δ1 ⟨e1, e2⟩ => ?_) fun _ _ z => z.elim
  subst e1 e2
  by_cases h : j < k
  · simp only [h, decide_true]
    exact (hb j h).mono (fun ρ' δ2 ⟨e1, e2⟩ => ⟨k - (j + 1), by omega, e2, j + 1, h, rfl, e1⟩) (fun _ _ z => z.elim) (fun _ _ z => z) (fun _ _ z => z)
  · have : j = k := by omega
    subst this
    simp only [h, decide_false]
    exact fin
theorem pair_eqv (p q : Nat × Nat) : (pairD p).eqv (pairD q) = decide (p = q) := by
  obtain ⟨a, b⟩ := p
  obtain ⟨c, d⟩ := q
  simp only [pairD, eqv_tup, eqvs_cons, eqvs_nil, eqv_int, Bool.and_true]
  by_cases h1 : a = c <;> by_cases h2 : b = d <;> simp [h1, h2] <;> omega
theorem pair_dep (p : Nat × Nat) : ∃ n, (pairD p).dep = some n ∧ n ≤ 1 := ⟨1, by simp [pairD, D.dep, deps], by decide⟩
theorem shp_pairs (l : List (Nat × Nat)) : (pairsD l).shp = true := by
  obtain ⟨n, e, h⟩ := deps_all pair_dep l
  exact shp_iff.mpr ⟨n + 1, by simp [pairsD, D.dep, e], by omega⟩
theorem shp_pair (p : Nat × Nat) : (pairD p).shp = true := by
  obtain ⟨n, e, h⟩ := pair_dep p
  exact shp_iff.mpr ⟨n, e, by omega⟩
theorem any_mem {α : Type} [DecidableEq α] (x : α) : ∀ l : List α, (l.any fun y => decide (y = x)) = decide (x ∈ l)
  | [] => by simp
  | a :: l => by
    rw [List.any_cons, any_mem x l]
    by_cases h : a = x
    · simp [h]
    · have h' : ¬ x = a := fun z => h z.symm
      simp [h, h']
theorem in_pairs (p : Nat × Nat) (l : List (Nat × Nat)) : dIn (pairD p) (pairsD l) = some (decide (p ∈ l)) := by
  show (if ((pairD p).shp && (pairsD l).shp) = true then some ((l.map pairD).any fun y => y.eqv (pairD p)) else none) = _
  rw [shp_pairs, shp_pair, List.any_map]
  have e : ((fun y => y.eqv (pairD p)) ∘ pairD) = fun y => decide (y = p) := by funext y; exact pair_eqv y p
  rw [e, any_mem]; simp
theorem in_pairs' (a t : Nat) (l : List (Nat × Nat)) : dIn (.tup [.int (a : Nat), .int (t : Nat)]) (pairsD l) = some (decide ((a, t) ∈ l)) := in_pairs (a, t) l
theorem in_nats (a : Nat) (l : List Nat) : dIn (.int (a : Nat)) (.lst (l.map fun (n : Nat) => D.int n)) = some (decide (a ∈ l)) := by
  have : (D.lst (l.map fun (n : Nat) => D.int n)).shp = true := by
    obtain ⟨n, e, h⟩ := deps_all (f := fun (n : Nat) => D.int n) (k := 0) (fun a => ⟨0, rfl, Nat.le_refl _⟩) l
    exact shp_iff.mpr ⟨n + 1, by simp [D.dep, e], by omega⟩
  show (if ((D.int (a : Nat)).shp && (D.lst (l.map fun (n : Nat) => D.int n)).shp) = true then some ((l.map fun (n : Nat) => D.int n).any fun y => y.eqv (.int (a : Nat))) else none) = _
  rw [this, List.any_map]
  simp only [shp_int, Bool.and_self, if_true, Function.comp, eqv_int]
  rw [← any_mem]
  congr 2
  funext y
  by_cases h : y = a <;> simp [h]
  omega
def prs : Nat → Nat → List KDP → List (Nat × Nat)
  | _, _, [] => []
  | a, t, x :: r => runP a t x.1 ++ prs (a + x.1 + x.2.1) (t + x.1 + x.2.2.length) r
def okT (many : Nat) (other : List (List Nat)) : Nat → Nat → List KDP → Prop
  | a, t, [] => a = many ∧ t = other.length
  | a, t, x :: r => (other.drop (t + x.1)).take x.2.2.length = x.2.2 ∧ okT many other (a + x.1 + x.2.1) (t + x.1 + x.2.2.length) r
theorem okT_le {many : Nat} {other : List (List Nat)} : ∀ {l : List KDP} {a t : Nat}, okT many other a t l → a ≤ many ∧ t ≤ other.length
  | [], a, t, h => by obtain ⟨rfl, rfl⟩ := h; exact ⟨Nat.le_refl _, Nat.le_refl _⟩
  | x :: r, a, t, h => by
    obtain ⟨h1, h2⟩ := okT_le h.2
    omega
theorem mem_run {x y a t n : Nat} : (x, y) ∈ runP a t n ↔ ∃ j, j < n ∧ x = a + j ∧ y = t + j := by
  simp [runP]
  constructor
  · rintro ⟨j, h1, h2, h3⟩; exact ⟨j, h1, h2.symm, h3.symm⟩
  · rintro ⟨j, h1, h2, h3⟩; exact ⟨j, h1, h2.symm, h3.symm⟩
theorem prs_ge : ∀ {l : List KDP} {a t x y : Nat}, (x, y) ∈ prs a t l → a ≤ x ∧ t ≤ y
  | [], a, t, x, y, h => by cases h
  | z :: r, a, t, x, y, h => by
    rw [prs] at h
    rcases List.mem_append.mp h with h | h
    · obtain ⟨j, _, rfl, rfl⟩ := mem_run.mp h
      omega
    · have := prs_ge h
      omega
theorem wfT_wf : ∀ {l : List KDP}, wfT l → wf l
  | [], _ => trivial
  | [x], h => .inl h
  | x :: y :: r, h => h.2
theorem wfT_head {x : KDP} {r : List KDP} (h : wfT (x :: r)) : 0 < x.1 := by
  cases r with
  | nil => exact h
  | cons y r => exact h.1
theorem wf_tail {x : KDP} {r : List KDP} (h : wf (x :: r)) : wfT r := by
  cases r with
  | nil => trivial
  | cons y r => exact h.2
theorem wf_some {x : KDP} {r : List KDP} (h : wf (x :: r)) : 0 < x.1 ∨ nz x := by
  cases r with
  | nil => exact h
  | cons y r => exact .inr h.1
theorem wf_nz {x : KDP} {r : List KDP} (h : wf (x :: r)) (hr : r ≠ []) : nz x := by
  cases r with
  | nil => exact absurd rfl hr
  | cons y r => exact h.1
def fs__law_by_pairs (Γ : Glo) : Fs := { np := 3, pats := [(3, [], none)], sem := fun ds δ => runF Γ md__law_by_pairs false 9 false s__law_by_pairs 5000 ds δ }
@[simp] theorem lby_dice (Γ : Glo) : (fs__law_by_pairs Γ).dice = false := id rfl
@[simp] theorem lby_pats (Γ : Glo) : (fs__law_by_pairs Γ).pats = [(3, [], none)] := id rfl
def byJ (many : Nat) (other : List (List Nat)) (t0 : List KDP) (m : Nat) (ρ : En) : Prop := ∃ (done rest : List KDP) (pre : List (Nat × Nat)) (a t : Nat) (vb vn vo : Option D), done ++ rest = t0 ∧ m = rest.length ∧ wf rest ∧ okT many other a t rest ∧ pre ++ prs a t rest = prs 0 0 t0 ∧ (∀ x y, (x, y) ∈ pre → x < a ∧ y < t) ∧
  ρ = [some (.int many), some (rowsD other), some (pairsD (prs 0 0 t0)), some (.lst ((kdpS done).map stepD)), some (.int a), some (.int t), vb, vn, vo]
def byE (many : Nat) (other : List (List Nat)) (PP : List (Nat × Nat)) (fnd : List Step) (at_ to : Nat) (vb vn vo : Option D) : En := [some (.int many), some (rowsD other), some (pairsD PP), some (.lst (fnd.map stepD)), some (.int at_), some (.int to), vb, vn, vo]
def byN (many : Nat) (other : List (List Nat)) (PP : List (Nat × Nat)) (fnd : List Step) (at_ to : Nat) (ρ : En) : Prop := ∃ vb vn vo, ρ = byE many other PP fnd at_ to vb vn vo
theorem kdp_len : ∀ l : List KDP, (kdpS l).length ≤ 3 * l.length
  | [] => by simp [kdpS]
  | x :: l => by
    have := kdp_len l
    rw [show x :: l = [x] ++ l from rfl, kdpS_app, kdpS_one]
    have h1 : (kdp1 x).length ≤ 3 := by unfold kdp1 Ks Ds Ps; split <;> split <;> split <;> simp
    simp
    omega
theorem by_loop {Γ : Glo} {many : Nat} {other : List (List Nat)} {t0 : List KDP} (hw : wf t0) (ho : okT many other 0 0 t0) (hm : many ≤ 1000) (hl : other.length ≤ 1000) (hn : t0.length ≤ 1000) (δ : Dice) :
    Wp (exS Γ [false, false, false, true, false, false, false, true] false 5000 s__law_by_pairs [some (.int many), some (rowsD other), some (pairsD (prs 0 0 t0)), none, none, none, none, none, none] δ) ⟨fun _ _ => False, fun _ _ => False, fun d δ' => d = scriptD (kdpS t0) ∧ δ' = δ, fun _ _ => False⟩ := by
  unfold s__law_by_pairs
  refine wp_cut (fun ρ δ' => δ' = δ ∧ ρ = [some (.int many), some (rowsD other), some (pairsD (prs 0 0 t0)), some (.lst []), some (.int 0), some (.int 0), none, none, none]) (by simp) ?_
  rintro ρ δ' ⟨rfl, rfl⟩
  refine wp_cut (fun ρ δ'' => δ'' = δ' ∧ byJ many other t0 0 ρ) ?_ ?_
  · refine Wp_whl (fun m ρ δ'' => δ'' = δ' ∧ byJ many other t0 m ρ) ⟨t0.length, by omega, rfl, [], t0, [], 0, 0, _, _, _, rfl, rfl, hw, ho, rfl, fun x y h => (by cases h), rfl⟩ ?_
    rintro m ρ δ'' ⟨rfl, done, rest, pre, a, t, vb, vn, vo, e0, em, w, o, ep, hp, rfl⟩
    obtain ⟨oa, ot⟩ := okT_le o
    cases rest with
    | nil =>
      obtain ⟨rfl, rfl⟩ := o
      simp
      subst em
      exact ⟨done, [], pre, _, _, _, _, _, e0, rfl, w, ⟨rfl, rfl⟩, ep, hp, rfl⟩
    | cons x r =>
      obtain ⟨k, d, p⟩ := x
      obtain ⟨o1, o2⟩ := o
      obtain ⟨oa2, ot2⟩ := okT_le o2
      simp only at o1 o2 oa2 ot2
      have cond : (a : Int) < many ∨ (t : Int) < other.length := by
        rcases wf_some w with h | h | h
        · left; simp at h; omega
        · left; simp at h; omega
        · right
          have : 0 < p.length := List.length_pos_iff.mpr h
          omega
      have P0 : ∀ x y, (x, y) ∈ prs 0 0 t0 ↔ (x, y) ∈ pre ∨ (∃ j, j < k ∧ x = a + j ∧ y = t + j) ∨ (x, y) ∈ prs (a + k + d) (t + k + p.length) r := fun x y => by
        rw [← ep, prs, List.mem_append, List.mem_append, mem_run]
      have hr0 : ∀ x r', r = x :: r' → 0 < x.1 := fun x r' e => by subst e; exact wfT_head (wf_tail w)
      have m1 : ∀ j, j ≤ k → (decide ((a + j, t + j) ∈ prs 0 0 t0) = decide (j < k)) := fun j hj => by
        rw [decide_eq_decide, P0]
        constructor
        · rintro (h | ⟨i, h1, h2, h3⟩ | h)
          · have := hp _ _ h; omega
          · omega
          · have g := prs_ge h
            by_cases hz : r = []
            · subst hz; cases h
            · rcases wf_nz w hz with q | q
              · simp at q; omega
              · have : 0 < p.length := List.length_pos_iff.mpr q
                omega
        · intro h; exact .inr (.inl ⟨j, h, rfl, rfl⟩)
      have m2 : ∀ j, j ≤ d → (decide ((a + k + j : Nat) < many) && !decide ((a + k + j) ∈ (prs 0 0 t0).map Prod.fst)) = decide (j < d) := fun j hj => by
        by_cases hd : j < d
        · have h1 : a + k + j < many := by omega
          have h2 : ¬ (a + k + j) ∈ (prs 0 0 t0).map Prod.fst := fun z => by
            obtain ⟨⟨x, y⟩, hm, e⟩ := List.mem_map.mp z
            simp only at e
            subst e
            rcases (P0 _ _).mp hm with h | ⟨i, i1, i2, i3⟩ | h
            · have := hp _ _ h; omega
            · omega
            · have := prs_ge h; omega
          simp [h1, h2, hd]
        · have : j = d := by omega
          subst this
          cases r with
          | nil =>
            have : a + k + j = many := o2.1
            have h1 : ¬ a + k + j < many := by omega
            simp [h1]
          | cons z r' =>
            have hz := hr0 z r' rfl
            have h2 : (a + k + j) ∈ (prs 0 0 t0).map Prod.fst := List.mem_map.mpr ⟨(a + k + j, t + k + p.length), (P0 _ _).mpr (.inr (.inr (by rw [prs, List.mem_append, mem_run]; exact .inl ⟨0, hz, rfl, rfl⟩))), rfl⟩
            simp [h2]
      have m3 : ∀ j, j ≤ p.length → (decide ((t + k + j : Nat) < other.length) && !decide ((t + k + j) ∈ (prs 0 0 t0).map Prod.snd)) = decide (j < p.length) := fun j hj => by
        by_cases hd : j < p.length
        · have h1 : t + k + j < other.length := by omega
          have h2 : ¬ (t + k + j) ∈ (prs 0 0 t0).map Prod.snd := fun z => by
            obtain ⟨⟨x, y⟩, hm, e⟩ := List.mem_map.mp z
            simp only at e
            subst e
            rcases (P0 _ _).mp hm with h | ⟨i, i1, i2, i3⟩ | h
            · have := hp _ _ h; omega
            · omega
            · have := prs_ge h; omega
          simp [h1, h2, hd]
        · have e : j = p.length := by omega
          rw [e]
          cases r with
          | nil =>
            have : t + k + p.length = other.length := o2.2
            have h1 : ¬ t + k + p.length < other.length := by omega
            simp [h1]
          | cons z r' =>
            have hz := hr0 z r' rfl
            have h2 : (t + k + p.length) ∈ (prs 0 0 t0).map Prod.snd := List.mem_map.mpr ⟨(a + k + d, t + k + p.length), (P0 _ _).mpr (.inr (.inr (by rw [prs, List.mem_append, mem_run]; exact .inl ⟨0, hz, rfl, rfl⟩))), rfl⟩
            simp [h2]
      have ld : (kdpS done).length ≤ 3 * done.length := kdp_len done
      have dl : done.length ≤ t0.length := by rw [← e0]; simp
      have hc : ∀ Q : D → Dice → Prop, Q (.bl true) δ'' → We (ev Γ (.or (.op .lt (.cons (.var 4) (.cons (.var 0) .nil))) (.op .lt (.cons (.var 5) (.cons (.op .len (.cons (.var 1) .nil)) .nil)))) (byE many other (prs 0 0 t0) (kdpS done) a t vb vn vo) δ'') Q (fun _ _ => False) := fun Q q => by
        simp [byE]
        by_cases h1 : a < many
        · simp [h1, q]
        · have h2 : t < other.length := by omega
          simp [h1, h2, q]
      refine hc _ ?_
      simp only
      refine wp_cut (fun ρ δ1 => δ1 = δ'' ∧ byN many other (prs 0 0 t0) (kdpS done ++ Ks k) (a + k) (t + k) ρ) ?_ ?_
      · refine wp_if (fun b δ1 => δ1 = δ'' ∧ b = decide (0 < k)) ?_ (fun δ1 hg => ?_) fun δ1 hg => ?_
        · have := m1 0 (Nat.zero_le _)
          simp only [Nat.add_zero] at this
          simp [in_pairs', this]
        · obtain ⟨rfl, hk⟩ := hg
          have hk : 0 < k := by simpa using hk.symm
          refine wp_cut (fun ρ δ2 => δ2 = δ1 ∧ ρ = byE many other (prs 0 0 t0) (kdpS done) a t (some (.int a)) vn vo) (by simp [byE]) ?_
          rintro ρ δ2 ⟨rfl, rfl⟩
          refine wp_cut (fun ρ δ3 => δ3 = δ2 ∧ ρ = byE many other (prs 0 0 t0) (kdpS done) (a + k) (t + k) (some (.int a)) vn vo) ?_ ?_
          · refine whl_count (δ := δ2) k (fun j => byE many other (prs 0 0 t0) (kdpS done) (a + j) (t + j) (some (.int a)) vn vo) (by omega) (fun j hj => ?_) (fun j hj => ?_) ⟨rfl, rfl⟩
            · have := m1 j hj
              have i1 := in_pairs' (a + j) (t + j) (prs 0 0 t0)
              simp only [Int.natCast_add] at i1
              simp [byE, i1, this]
            · simp [byE]; omega
          · rintro ρ δ3 ⟨rfl, rfl⟩
            have lb : (kdpS done).length < 16777216 := by omega
            simp [byE, lb]
            exact ⟨some (.int a), vn, vo, by simp [byE, Ks, hk, stepD]; omega⟩
        · obtain ⟨rfl, hk⟩ := hg
          have hk : k = 0 := by have : ¬ 0 < k := by simpa using hk.symm
                                omega
          subst hk
          simp
          exact ⟨vb, vn, vo, by simp [byE]⟩
      rintro ρ δ1 ⟨rfl, vb, vn, vo, rfl⟩
      generalize hF : kdpS done ++ Ks k = F
      have lF : F.length ≤ 3 * done.length + 1 := by
        rw [← hF, List.length_append]
        have : (Ks k).length ≤ 1 := by unfold Ks; split <;> simp
        omega
      refine wp_cut (fun ρ δ2 => δ2 = δ1 ∧ ρ = byE many other (prs 0 0 t0) F (a + k) (t + k) (some (.int (a + k : Nat))) (some (.lst [])) vo) (by simp [byE]) ?_
      rintro ρ δ2 ⟨rfl, rfl⟩
      refine wp_cut (fun ρ δ3 => δ3 = δ2 ∧ ρ = byE many other (prs 0 0 t0) F (a + k + d) (t + k) (some (.int (a + k : Nat))) (some (.lst [])) vo) ?_ ?_
      · refine whl_count (δ := δ2) d (fun j => byE many other (prs 0 0 t0) F (a + k + j) (t + k) (some (.int (a + k : Nat))) (some (.lst [])) vo) (by omega) (fun j hj => ?_) (fun j hj => ?_) ⟨rfl, rfl⟩
        · have := m2 j hj
          have i1 := in_nats (a + k + j) ((prs 0 0 t0).map Prod.fst)
          simp only [Int.natCast_add, List.map_map] at i1
          by_cases h1 : a + k + j < many
          · have h1' : (a : Int) + k + j < many := by omega
            simp [byE, h1']
            refine compA pairD (fun _ => true) (fun p => .int (p.1 : Nat)) (fun p _ => ⟨_, rfl, by simp, fun _ => by simp [pairD]⟩) ?_
            rw [filt_true]
            have i2 : dIn (D.int ((a : Int) + k + j)) (D.lst ((prs 0 0 t0).map fun p => D.int (p.1 : Nat))) = some (decide ((a + k + j) ∈ (prs 0 0 t0).map Prod.fst)) := i1
            rw [i2]
            simp only [h1, decide_true, Bool.true_and] at this
            simp [← this]
          · have h1' : ¬ (a : Int) + k + j < many := by omega
            simp only [h1, decide_false, Bool.false_and] at this
            simp [byE, h1', ← this]
        · simp [byE]; omega
      rintro ρ δ3 ⟨rfl, rfl⟩
      refine wp_cut (fun ρ δ4 => δ4 = δ3 ∧ ρ = byE many other (prs 0 0 t0) F (a + k + d) (t + k + p.length) (some (.int (a + k : Nat))) (some (.lst (p.map .str))) vo) ?_ ?_
      · refine whl_count (δ := δ3) p.length (fun j => byE many other (prs 0 0 t0) F (a + k + d) (t + k + j) (some (.int (a + k : Nat))) (some (.lst ((p.take j).map .str))) vo) (by omega) (fun j hj => ?_) (fun j hj => ?_) ⟨rfl, by simp⟩
        · have := m3 j hj
          have i1 := in_nats (t + k + j) ((prs 0 0 t0).map Prod.snd)
          simp only [Int.natCast_add, List.map_map] at i1
          by_cases h1 : t + k + j < other.length
          · have h1' : (t : Int) + k + j < other.length := by omega
            simp [byE, h1']
            refine compA pairD (fun _ => true) (fun p => .int (p.2 : Nat)) (fun p _ => ⟨_, rfl, by simp, fun _ => by simp [pairD]⟩) ?_
            rw [filt_true]
            have i2 : dIn (D.int ((t : Int) + k + j)) (D.lst ((prs 0 0 t0).map fun p => D.int (p.2 : Nat))) = some (decide ((t + k + j) ∈ (prs 0 0 t0).map Prod.snd)) := i1
            rw [i2]
            simp only [h1, decide_true, Bool.true_and] at this
            simp [← this]
          · have h1' : ¬ (t : Int) + k + j < other.length := by omega
            simp only [h1, decide_false, Bool.false_and] at this
            simp [byE, h1', ← this]
        · obtain ⟨x, hx⟩ : ∃ x, p[j]? = some x := ⟨_, List.getElem?_eq_getElem hj⟩
          have ox : other[t + k + j]? = some x := by
            rw [← o1, List.getElem?_take_of_lt hj, List.getElem?_drop] at hx
            exact hx
          have ax : atI other ((t : Int) + k + j) = some x := by
            have := atI_n ox
            simpa only [Int.natCast_add] using this
          have tk : (p.take (j + 1)).map D.str = (p.take j).map D.str ++ [D.str x] := by
            rw [List.take_add_one, hx]; simp
          have lj : j < 16777216 := by omega
          simp [byE, ax, tk]
          omega
      rintro ρ δ4 ⟨rfl, rfl⟩
      have lb : F.length < 16777216 := by omega
      refine wp_cut (fun ρ δ5 => δ5 = δ4 ∧ ρ = byE many other (prs 0 0 t0) (F ++ Ds d) (a + k + d) (t + k + p.length) (some (.int (a + k : Nat))) (some (.lst (p.map .str))) vo) ?_ ?_
      · by_cases hd : 0 < d
        · simp [byE, hd, lb, Ds, stepD]
          omega
        · have : d = 0 := by omega
          subst this
          simp [byE]
      rintro ρ δ5 ⟨rfl, rfl⟩
      have lb2 : (F ++ Ds d).length < 16777216 := by
        have : (Ds d).length ≤ 1 := by unfold Ds; split <;> simp
        rw [List.length_append]; omega
      have nx : byJ many other t0 r.length (byE many other (prs 0 0 t0) (F ++ Ds d ++ Ps p) (a + k + d) (t + k + p.length) (some (.int (a + k : Nat))) (some (.lst (p.map .str))) vo) := by
        refine ⟨done ++ [(k, d, p)], r, pre ++ runP a t k, a + k + d, t + k + p.length, some (.int (a + k : Nat)), some (.lst (p.map .str)), vo, by rw [← e0]; simp, rfl, wfT_wf (wf_tail w), o2, by rw [← ep, prs]; simp, fun x y h => ?_, ?_⟩
        · rcases List.mem_append.mp h with h | h
          · have := hp x y h; omega
          · obtain ⟨j, h1, h2, h3⟩ := mem_run.mp h; omega
        · rw [kdpS_app, kdpS_one, ← hF]
          simp [byE, kdp1]
      have nr : opv .ne [.lst (p.map .str), .lst []] = some (.bl (!decide (p = []))) := ne_rows0 p
      by_cases hp0 : p = []
      · subst hp0
        simp only [List.map_nil] at nr nx
        simp [byE, nr]
        refine ⟨r.length, by rw [em]; simp, ?_⟩
        simpa [byE, Ps] using nx
      · have lb3 : F.length + (Ds d).length < 16777216 := by rw [List.length_append] at lb2; exact lb2
        simp [byE, nr, hp0, lb3]
        refine ⟨r.length, by rw [em]; simp, ?_⟩
        simpa [byE, Ps, hp0, stepD] using nx
  · rintro ρ δ'' ⟨rfl, done, rest, pre, a, t, vb, vn, vo, e0, em, w, o, ep, hp, rfl⟩
    have : rest = [] := List.length_eq_zero_iff.mp em.symm
    subst this
    rw [List.append_nil] at e0
    subst e0
    simp [scriptD]
theorem lby_at {Γ : Glo} {many : Nat} {other : List (List Nat)} {t0 : List KDP} (hw : wf t0) (ho : okT many other 0 0 t0) (hm : many ≤ 1000) (hl : other.length ≤ 1000) (hn : t0.length ≤ 1000) (δ : Dice) :
    (fs__law_by_pairs Γ).sem [.int many, rowsD other, pairsD (prs 0 0 t0)] δ = .ok (scriptD (kdpS t0)) δ := by
  refine runF_of ?_
  exact (by_loop (Γ := Γ) hw ho hm hl hn δ).mono (fun _ _ z => z.elim) (fun _ _ z => z) (fun _ _ ⟨z1, z2⟩ => by rw [z1, z2]; rfl) (fun _ _ z => z.elim)
end DF
set_option Elab.async false
set_option linter.all false
set_option maxRecDepth 100000
set_option maxHeartbeats 400000
namespace DF
open PySem PySem.Spec L2 DC
theorem q_one (x : KDP) (st : QSt) : (kdp1 x).foldl stepQ st = ⟨st.found ++ runP st.at_ st.to x.1, st.at_ + x.1 + x.2.1, st.to + x.1 + x.2.2.length⟩ := by
  obtain ⟨k, d, p⟩ := x
  unfold kdp1 Ks Ds Ps
  by_cases h1 : 0 < k <;> by_cases h2 : 0 < d <;> by_cases h3 : p = [] <;> simp [h1, h2, h3, stepQ] <;> (try (have e1 : k = 0 := by omega); try subst e1) <;> (try (have e2 : d = 0 := by omega); try subst e2) <;> simp [runP]
theorem q_all : ∀ (t : List KDP) (st : QSt), ((kdpS t).foldl stepQ st).found = st.found ++ prs st.at_ st.to t
  | [], st => by simp [kdpS, prs]
  | x :: t, st => by
    rw [show x :: t = [x] ++ t from rfl, kdpS_app, kdpS_one, List.foldl_append, q_one, q_all t]
    simp [prs]
theorem pairs_kdp (t : List KDP) : pairsF (kdpS t) = prs 0 0 t := by
  unfold pairsF; rw [q_all]; rfl
theorem g_one (rows : List (List Nat)) (x : KDP) (st : GSt) (h : st.at_ ≤ rows.length) : (kdp1 x).foldl (stepG rows) (some st) = if st.at_ + x.1 + x.2.1 ≤ rows.length then some ⟨st.at_ + x.1 + x.2.1, st.found ++ (rows.drop st.at_).take x.1 ++ x.2.2⟩ else none := by
  obtain ⟨k, d, p⟩ := x
  unfold kdp1
  rw [List.foldl_append, List.foldl_append]
  have e1 : (Ks k).foldl (stepG rows) (some st) = if st.at_ + k ≤ rows.length then some ⟨st.at_ + k, st.found ++ (rows.drop st.at_).take k⟩ else none := by
    unfold Ks
    by_cases h1 : 0 < k
    · simp [h1, stepG]
    · have : k = 0 := by omega
      subst this
      simp [h]
  rw [e1]
  by_cases h1 : st.at_ + k ≤ rows.length
  · rw [if_pos h1]
    have e2 : (Ds d).foldl (stepG rows) (some ⟨st.at_ + k, st.found ++ (rows.drop st.at_).take k⟩) = if st.at_ + k + d ≤ rows.length then some ⟨st.at_ + k + d, st.found ++ (rows.drop st.at_).take k⟩ else none := by
      unfold Ds
      by_cases h2 : 0 < d
      · simp [h2, stepG]
      · have : d = 0 := by omega
        subst this
        simp [h1]
    show (Ps p).foldl (stepG rows) ((Ds d).foldl (stepG rows) (some ⟨st.at_ + k, st.found ++ (rows.drop st.at_).take k⟩)) = _
    rw [e2]
    by_cases h3 : st.at_ + k + d ≤ rows.length
    · rw [if_pos h3, if_pos h3]
      unfold Ps
      by_cases h4 : p = []
      · simp [h4]
      · simp [h4, stepG]
    · rw [if_neg h3, if_neg h3, fold_none]
  · rw [if_neg h1, fold_none, fold_none, if_neg (show ¬ st.at_ + k + d ≤ rows.length by omega)]
theorem g_all (rows : List (List Nat)) : ∀ (t : List KDP) (st : GSt) (other : List (List Nat)), st.at_ ≤ rows.length → (kdpS t).foldl (stepG rows) (some st) = some ⟨rows.length, other⟩ → okT rows.length other st.at_ st.found.length t ∧ ∃ tail, other = st.found ++ tail
  | [], st, other, h, e => by
    have e : st = ⟨rows.length, other⟩ := by simpa [kdpS] using e
    subst e
    exact ⟨⟨rfl, rfl⟩, [], by simp⟩
  | x :: t, st, other, h, e => by
    rw [show x :: t = [x] ++ t from rfl, kdpS_app, kdpS_one, List.foldl_append, g_one rows x st h] at e
    by_cases hc : st.at_ + x.1 + x.2.1 ≤ rows.length
    · rw [if_pos hc] at e
      obtain ⟨h1, tail, h2⟩ := g_all rows t _ other hc e
      have kl : ((rows.drop st.at_).take x.1).length = x.1 := by simp; omega
      have el : (st.found ++ (rows.drop st.at_).take x.1 ++ x.2.2).length = st.found.length + x.1 + x.2.2.length := by rw [List.length_append, List.length_append, kl]
      simp only [el] at h1
      refine ⟨⟨?_, h1⟩, (rows.drop st.at_).take x.1 ++ x.2.2 ++ tail, by rw [h2]; simp⟩
      simp only at h2
      rw [h2, show st.found ++ (rows.drop st.at_).take x.1 ++ x.2.2 ++ tail = (st.found ++ (rows.drop st.at_).take x.1) ++ (x.2.2 ++ tail) by simp, List.drop_append_of_le_length (by simp [kl])]
      rw [List.drop_eq_nil_of_le (by simp [kl]), List.nil_append, List.take_left]
    · rw [if_neg hc, fold_none] at e
      cases e
theorem gives_T {rows other : List (List Nat)} {t : List KDP} (h : givesF rows (kdpS t) = some other) : okT rows.length other 0 0 t := by
  unfold givesF at h
  cases e : (kdpS t).foldl (stepG rows) (some ⟨0, []⟩) with
  | none => rw [e] at h; cases h
  | some st =>
    rw [e] at h
    simp only [Option.bind_some] at h
    split at h
    · rename_i ha
      cases h
      exact (g_all rows t ⟨0, []⟩ st.found (Nat.zero_le _) (by rw [e, ← ha])).1
    · cases h
def give1 : Step → Nat
  | .keep n => n
  | .drop _ => 0
  | .put r => r.length
def glenF (l : List Step) : Nat := (l.map give1).sum
theorem gives_ex (rows : List (List Nat)) : ∀ (l : List Step) (st : GSt), st.at_ + takesF l ≤ rows.length → ∃ st', l.foldl (stepG rows) (some st) = some st' ∧ st'.at_ = st.at_ + takesF l ∧ st'.found.length = st.found.length + glenF l
  | [], st, h => ⟨st, rfl, by simp [takesF], by simp [glenF]⟩
  | s :: l, st, h => by
    have ht : takesF (s :: l) = take1 s + takesF l := by simp [takesF]
    have hg : glenF (s :: l) = give1 s + glenF l := by simp [glenF]
    rw [ht] at h
    rw [List.foldl_cons, ht, hg]
    cases s with
    | keep n =>
      simp only [take1] at h ⊢
      have hc : st.at_ + n ≤ rows.length := by omega
      obtain ⟨st', e1, e2, e3⟩ := gives_ex rows l ⟨st.at_ + n, st.found ++ (rows.drop st.at_).take n⟩ (by simp only; omega)
      refine ⟨st', by simp only [stepG, Option.bind_some, hc, if_true]; exact e1, by simp only at e2; omega, ?_⟩
      rw [e3]; simp [give1]; omega
    | drop n =>
      simp only [take1] at h ⊢
      have hc : st.at_ + n ≤ rows.length := by omega
      obtain ⟨st', e1, e2, e3⟩ := gives_ex rows l ⟨st.at_ + n, st.found⟩ (by simp only; omega)
      refine ⟨st', by simp only [stepG, Option.bind_some, hc, if_true]; exact e1, by simp only at e2; omega, ?_⟩
      rw [e3]; simp [give1]
    | put r =>
      simp only [take1] at h ⊢
      obtain ⟨st', e1, e2, e3⟩ := gives_ex rows l ⟨st.at_, st.found ++ r⟩ (by simp only; omega)
      refine ⟨st', e1, by simp only at e2; omega, ?_⟩
      rw [e3]; simp [give1]; omega
theorem gives_some {rows : List (List Nat)} {l : List Step} (h : takesF l = rows.length) : ∃ other, givesF rows l = some other ∧ other.length = glenF l := by
  obtain ⟨st', e1, e2, e3⟩ := gives_ex rows l ⟨0, []⟩ (by simp only; omega)
  simp only [Nat.zero_add] at e2
  refine ⟨st'.found, ?_, by simpa using e3⟩
  unfold givesF
  rw [e1]
  simp only [Option.bind_some]
  rw [if_pos (by omega)]
theorem glen_le : ∀ l : List Step, glenF l ≤ takesF l + (putsF l).length
  | [] => by simp [glenF]
  | s :: l => by
    have := glen_le l
    cases s <;> simp [glenF, takesF, putsF, give1, take1, put1] at this ⊢ <;> omega
theorem le_sum {a : Nat} : ∀ {l : List Nat}, a ∈ l → a ≤ l.sum
  | b :: l, h => by
    rcases List.mem_cons.mp h with h | h
    · subst h; simp
    · have := le_sum h; simp; omega
theorem kdp_mem {s : Step} {t : List KDP} (h : s ∈ kdpS t) : 1 ≤ take1 s ∧ take1 s ≤ takesF (kdpS t) ∨ ∃ r, s = .put r ∧ r ≠ [] ∧ ∀ x ∈ r, x ∈ putsF (kdpS t) := by
  have hs : take1 s ≤ takesF (kdpS t) := le_sum (List.mem_map.mpr ⟨s, h, rfl⟩)
  obtain ⟨x, hx, hs2⟩ := List.mem_flatMap.mp h
  unfold kdp1 Ks Ds Ps at hs2
  rcases List.mem_append.mp hs2 with hs2 | hs2
  · rcases List.mem_append.mp hs2 with hs2 | hs2
    · split at hs2
      · have : s = .keep x.1 := by simpa using hs2
        subst this
        exact .inl ⟨by simp only [take1]; omega, hs⟩
      · cases hs2
    · split at hs2
      · have : s = .drop x.2.1 := by simpa using hs2
        subst this
        exact .inl ⟨by simp only [take1]; omega, hs⟩
      · cases hs2
  · split at hs2
    · cases hs2
    · rename_i hp
      have : s = .put x.2.2 := by simpa using hs2
      subst this
      exact .inr ⟨_, rfl, hp, fun y hy => List.mem_flatMap.mpr ⟨_, h, hy⟩⟩
end DF
set_option Elab.async false
set_option linter.all false
set_option maxRecDepth 100000
set_option maxHeartbeats 400000
namespace DF
open PySem PySem.Spec L2 DC
mutual
def nobl : D → Bool
  | .bl _ => false
  | .lst xs => nobls xs
  | .tup xs => nobls xs
  | .dic _ _ => false
  | .scr _ => false
  | _ => true
def nobls : List D → Bool
  | [] => true
  | x :: xs => nobl x && nobls xs
end
mutual
theorem eqv_iff : ∀ (x y : D), nobl x = true → nobl y = true → (x.eqv y = true ↔ x = y)
  | .lst xs, .lst ys, h1, h2 => by
    rw [nobl] at h1 h2
    rw [D.eqv, eqvs_iff xs ys h1 h2]
    exact ⟨fun h => by rw [h], fun h => by injection h⟩
  | .tup xs, .tup ys, h1, h2 => by
    rw [nobl] at h1 h2
    rw [D.eqv, eqvs_iff xs ys h1 h2]
    exact ⟨fun h => by rw [h], fun h => by injection h⟩
  | .non, y, h1, h2 => by cases y <;> simp [D.eqv, nobl] at h2 ⊢
  | .bl b, y, h1, h2 => by simp [nobl] at h1
  | .dic _ _, y, h1, h2 => by simp [nobl] at h1
  | .scr _, y, h1, h2 => by simp [nobl] at h1
  | .int i, y, h1, h2 => by cases y <;> simp [D.eqv, nobl] at h2 ⊢
  | .str i, y, h1, h2 => by cases y <;> simp [D.eqv, nobl] at h2 ⊢
  | .lst xs, .non, h1, h2 => by simp [D.eqv]
  | .lst xs, .bl _, h1, h2 => by simp [D.eqv]
  | .lst xs, .int _, h1, h2 => by simp [D.eqv]
  | .lst xs, .str _, h1, h2 => by simp [D.eqv]
  | .lst xs, .tup _, h1, h2 => by simp [D.eqv]
  | .lst xs, .dic _ _, h1, h2 => by simp [D.eqv]
  | .lst xs, .scr _, h1, h2 => by simp [D.eqv]
  | .tup xs, .non, h1, h2 => by simp [D.eqv]
  | .tup xs, .bl _, h1, h2 => by simp [D.eqv]
  | .tup xs, .int _, h1, h2 => by simp [D.eqv]
  | .tup xs, .str _, h1, h2 => by simp [D.eqv]
  | .tup xs, .lst _, h1, h2 => by simp [D.eqv]
  | .tup xs, .dic _ _, h1, h2 => by simp [D.eqv]
  | .tup xs, .scr _, h1, h2 => by simp [D.eqv]
theorem eqvs_iff : ∀ (xs ys : List D), nobls xs = true → nobls ys = true → (eqvs xs ys = true ↔ xs = ys)
  | [], [], _, _ => by simp [eqvs]
  | [], _ :: _, _, _ => by simp [eqvs]
  | _ :: _, [], _, _ => by simp [eqvs]
  | x :: xs, y :: ys, h1, h2 => by
    simp only [nobls, Bool.and_eq_true] at h1 h2
    rw [eqvs, Bool.and_eq_true, eqv_iff x y h1.1 h2.1, eqvs_iff xs ys h1.2 h2.2, List.cons.injEq]
end
theorem nobls_all {α : Type} {f : α → D} (h : ∀ a, nobl (f a) = true) : ∀ l : List α, nobls (l.map f) = true
  | [] => rfl
  | a :: l => by simp [nobls, h a, nobls_all h l]
def pl (x : D) : Prop := x.shp = true ∧ nobl x = true
theorem eq_pl {x y : D} (h1 : pl x) (h2 : pl y) {p : Prop} [Decidable p] (e : x = y ↔ p) : opv .eq [x, y] = some (.bl (decide p)) := by
  show (if x.shp && y.shp then some (D.bl (x.eqv y)) else dEqS x y) = _
  rw [h1.1, h2.1, if_pos (show (true && true) = true from rfl)]
  congr 2
  by_cases hp : p
  · rw [decide_eq_true hp]; exact (eqv_iff x y h1.2 h2.2).mpr (e.mpr hp)
  · rw [decide_eq_false hp]
    exact Bool.eq_false_iff.mpr fun z => hp (e.mp ((eqv_iff x y h1.2 h2.2).mp z))
theorem ne_pl {x y : D} (h1 : pl x) (h2 : pl y) {p : Prop} [Decidable p] (e : x = y ↔ p) : opv .ne [x, y] = some (.bl (!decide p)) := by
  show (if x.shp && y.shp then some (D.bl (!x.eqv y)) else none) = _
  rw [h1.1, h2.1, if_pos (show (true && true) = true from rfl)]
  congr 2
  by_cases hp : p
  · rw [decide_eq_true hp, (eqv_iff x y h1.2 h2.2).mpr (e.mpr hp)]
  · rw [decide_eq_false hp]
    rw [Bool.eq_false_iff.mpr fun z => hp (e.mp ((eqv_iff x y h1.2 h2.2).mp z))]
theorem pl_step (s : Step) : pl (stepD s) := by
  refine ⟨?_, ?_⟩
  · obtain ⟨n, e, h⟩ := step_dep s
    exact shp_iff.mpr ⟨n, e, by omega⟩
  · cases s with
    | keep n => simp [stepD, nobl, nobls]
    | drop n => simp [stepD, nobl, nobls]
    | put r => simp [stepD, nobl, nobls]; exact nobls_all (fun a => rfl) r
theorem pl_scr (l : List Step) : pl (scriptD l) := ⟨shp_scr l, by simp only [scriptD, nobl]; exact nobls_all (fun s => (pl_step s).2) l⟩
theorem pl_pairs (l : List (Nat × Nat)) : pl (pairsD l) := ⟨shp_pairs l, by simp only [pairsD, nobl]; exact nobls_all (fun s => by simp [pairD, nobl, nobls]) l⟩
theorem scr_inj {a b : List Step} : scriptD a = scriptD b ↔ a = b := by
  refine ⟨fun h => ?_, fun h => by rw [h]⟩
  have e1 := cScr.de a
  have e2 := cScr.de b
  have : cScr.enc a = cScr.enc b := h
  rw [this, e2] at e1
  exact (Option.some.inj e1).symm
theorem pairs_inj {a b : List (Nat × Nat)} : pairsD a = pairsD b ↔ a = b := by
  refine ⟨fun h => ?_, fun h => by rw [h]⟩
  have e1 := cPairs.de a
  have e2 := cPairs.de b
  have : cPairs.enc a = cPairs.enc b := h
  rw [this, e2] at e1
  exact (Option.some.inj e1).symm
@[simp] theorem ne_scr (a b : List Step) : opv .ne [scriptD a, scriptD b] = some (.bl (!@decide (a = b) (Classical.propDecidable _))) := @ne_pl _ _ (pl_scr a) (pl_scr b) _ (Classical.propDecidable _) scr_inj
@[simp] theorem eq_scr (a b : List Step) : opv .eq [scriptD a, scriptD b] = some (.bl (@decide (a = b) (Classical.propDecidable _))) := @eq_pl _ _ (pl_scr a) (pl_scr b) _ (Classical.propDecidable _) scr_inj
@[simp] theorem ne_pairs (a b : List (Nat × Nat)) : opv .ne [pairsD a, pairsD b] = some (.bl (!decide (a = b))) := ne_pl (pl_pairs a) (pl_pairs b) pairs_inj
@[simp] theorem eq_pairs (a b : List (Nat × Nat)) : opv .eq [pairsD a, pairsD b] = some (.bl (decide (a = b))) := eq_pl (pl_pairs a) (pl_pairs b) pairs_inj
theorem pl_two (a b : List Nat) : pl (.tup [.str a, .str b]) := ⟨by simp [shp_iff, D.dep, deps], by simp [nobl, nobls]⟩
@[simp] theorem eq_two (a b c d : List Nat) : opv .eq [.tup [.str a, .str b], .tup [.str c, .str d]] = some (.bl (decide (a = c ∧ b = d))) := eq_pl (pl_two a b) (pl_two c d) (by simp)
end DF
set_option Elab.async false
set_option linter.all false
set_option maxRecDepth 100000
set_option maxHeartbeats 400000
namespace DF
open PySem PySem.Spec L2 DC
theorem takes_cons (s : Step) (l : List Step) : takesF (s :: l) = take1 s + takesF l := by simp [takesF]
theorem puts_cons (s : Step) (l : List Step) : putsF (s :: l) = put1 s ++ putsF l := by simp [putsF]
theorem len_le : ∀ l : List Step, (∀ s ∈ l, 1 ≤ take1 s ∨ ∃ r, s = .put r ∧ r ≠ []) → l.length ≤ takesF l + (putsF l).length
  | [], _ => by simp
  | s :: l, h => by
    have ih := len_le l fun x hx => h x (List.mem_cons_of_mem _ hx)
    rw [takes_cons, puts_cons, List.length_append, List.length_cons]
    rcases h s (by simp) with h1 | ⟨r, rfl, hr⟩
    · omega
    · have : 1 ≤ r.length := List.length_pos_iff.mpr hr
      show l.length + 1 ≤ 0 + takesF l + (r.length + _)
      omega
theorem kdp_lenS {t : List KDP} : (kdpS t).length ≤ takesF (kdpS t) + (putsF (kdpS t)).length := len_le _ fun s hs => by
  rcases kdp_mem hs with ⟨h, _⟩ | ⟨r, h1, h2, _⟩
  · exact .inl h
  · exact .inr ⟨r, h1, h2⟩
theorem put_len {s : Step} {l : List Step} (h : s ∈ l) : (put1 s).length ≤ (putsF l).length := by
  rw [putsF, List.length_flatMap]
  exact le_sum (List.mem_map.mpr ⟨s, h, rfl⟩)
theorem kdp_ok {t : List KDP} (h1 : takesF (kdpS t) + (putsF (kdpS t)).length ≤ 1000) (h2 : ∀ x ∈ putsF (kdpS t), rowB x = true) : okSc (kdpS t) = true := by
  refine okSc_iff.mpr ⟨by have := kdp_lenS (t := t); omega, fun s hs => ?_⟩
  have hp := put_len hs
  rcases kdp_mem hs with ⟨a, b⟩ | ⟨r, rfl, a, b⟩
  · cases s with
    | keep n => simp [take1] at a b; simp [okStep]; omega
    | drop n => simp [take1] at a b; simp [okStep]; omega
    | put r => simp [take1] at a
  · simp only [put1] at hp
    simp [okStep, a]
    exact ⟨by omega, fun x hx => h2 x (b x hx)⟩
theorem wfT_len : ∀ {t : List KDP}, wfT t → t.length ≤ (kdpS t).length
  | [], _ => by simp
  | x :: r, h => by
    have ih := wfT_len (wf_tail (wfT_wf h))
    have := wfT_head h
    rw [show x :: r = [x] ++ r from rfl, kdpS_app, kdpS_one, List.length_append, List.length_append]
    have : 1 ≤ (kdp1 x).length := by simp [kdp1, Ks, this]
    simp; omega
theorem wf_len : ∀ {t : List KDP}, wf t → t.length ≤ (kdpS t).length
  | [], _ => by simp
  | x :: r, h => by
    have ih := wfT_len (wf_tail h)
    have hs := wf_some h
    rw [show x :: r = [x] ++ r from rfl, kdpS_app, kdpS_one, List.length_append, List.length_append]
    have : 1 ≤ (kdp1 x).length := by
      rcases hs with hs | hs | hs <;> simp [kdp1, Ks, Ds, Ps, hs] <;> omega
    simp; omega
theorem plain_idem {rows other : List (List Nat)} {t : List KDP} (hw : wf t) (hr : rows.length ≤ 1000) (ho : other.length ≤ 1000) (hg : givesF rows (kdpS t) = some other) (hk : okSc (kdpS t) = true) (hb : takesF (kdpS t) + (putsF (kdpS t)).length ≤ 1000) : plainF (kdpS t) = kdpS t := by
  have hs := (okSc_iff.mp hk).2
  obtain ⟨t', w', e'⟩ := plain_wf hs
  have hq := plain_pairs hs
  have hgv := plain_gives hs rows
  have E := plain_eqv hs
  rw [e'] at hq hgv E ⊢
  rw [hg] at hgv
  have hl := (okSc_iff.mp hk).1
  have a := lby_at (Γ := ⟨fun _ => none, fun _ => none⟩) hw (gives_T hg) hr ho (by have := wf_len hw; omega) default
  have ln : t'.length ≤ 1000 := by
    have e1 := wf_len w'
    have e2 := kdp_lenS (t := t')
    rw [← E.t, ← E.p] at e2
    omega
  have b := lby_at (Γ := ⟨fun _ => none, fun _ => none⟩) w' (gives_T hgv) hr ho ln default
  rw [← pairs_kdp, hq, pairs_kdp, a] at b
  exact (scr_inj.mp (by injection b)).symm
def wrd : Step → List Nat
  | .keep _ => sKeep
  | .drop _ => sDrop
  | .put _ => sPut
def good (a b : Step) : Prop := wrd a ≠ wrd b ∧ ¬ (wrd a = sPut ∧ wrd b = sDrop)
def nb : List Step → Prop
  | [] => True
  | [_] => True
  | a :: b :: r => good a b ∧ nb (b :: r)
theorem nb_tail {a : Step} {r : List Step} (h : nb (a :: r)) : nb r := by
  cases r with
  | nil => exact trivial
  | cons b r => exact h.2
def hdK : List Step → Prop
  | [] => True
  | .keep _ :: _ => True
  | _ => False
theorem nb_cons {a : Step} {r : List Step} (h : nb r) (h1 : ∀ n, a ≠ .keep n) (h2 : hdK r) : nb (a :: r) := by
  match r, h, h2 with
  | [], _, _ => exact trivial
  | .keep n :: r, h, _ =>
    refine ⟨?_, h⟩
    cases a with
    | keep m => exact absurd rfl (h1 m)
    | drop m => exact by simp [good, wrd, sKeep, sDrop, sPut]
    | put m => exact by simp [good, wrd, sKeep, sDrop, sPut]
theorem nb_dp {d : Nat} {p : List (List Nat)} {r : List Step} (h : nb r) (h2 : hdK r) : nb (Ds d ++ Ps p ++ r) := by
  have e1 : nb (Ps p ++ r) := by
    unfold Ps
    split
    · exact h
    · exact nb_cons h (fun n z => by cases z) h2
  rw [List.append_assoc]
  unfold Ds
  split
  · show nb (.drop d :: (Ps p ++ r))
    by_cases hp : p = []
    · rw [show Ps p = [] from if_pos hp] at e1 ⊢
      exact nb_cons h (fun n z => by cases z) h2
    · rw [show Ps p = [.put p] from if_neg hp] at e1 ⊢
      exact ⟨by simp [good, wrd, sKeep, sDrop, sPut], e1⟩
  · exact e1
theorem nb_kdp {x : KDP} {r : List Step} (h : nb r) (h2 : hdK r) (h3 : nz x ∨ r = []) : nb (kdp1 x ++ r) := by
  obtain ⟨k, d, p⟩ := x
  have e := nb_dp (d := d) (p := p) h h2
  show nb (Ks k ++ Ds d ++ Ps p ++ r)
  rw [List.append_assoc, List.append_assoc, ← List.append_assoc (Ds d)]
  unfold Ks
  split
  · show nb (.keep k :: (Ds d ++ Ps p ++ r))
    have : Ds d ++ Ps p ++ r = [] ∨ ∃ s l, Ds d ++ Ps p ++ r = s :: l ∧ ∀ n, s ≠ .keep n := by
      unfold Ds Ps
      by_cases hd : 0 < d
      · exact .inr ⟨.drop d, _, by rw [if_pos hd]; rfl, fun n z => by cases z⟩
      · by_cases hp : p = []
        · rcases h3 with (h3 | h3) | h3
          · exact absurd h3 hd
          · exact absurd hp h3
          · exact .inl (by simp [hd, hp, h3])
        · exact .inr ⟨.put p, r, by simp [hd, hp], fun n z => by cases z⟩
    rcases this with e1 | ⟨s, l, e1, e2⟩
    · rw [e1]; exact trivial
    · rw [e1] at e ⊢
      refine ⟨?_, e⟩
      cases s with
      | keep m => exact absurd rfl (e2 m)
      | drop m => exact by simp [good, wrd, sKeep, sDrop, sPut]
      | put m => exact by simp [good, wrd, sKeep, sDrop, sPut]
  · exact e
theorem nb_T : ∀ {t : List KDP}, wfT t → nb (kdpS t) ∧ hdK (kdpS t)
  | [], _ => ⟨trivial, trivial⟩
  | x :: r, h => by
    obtain ⟨i1, i2⟩ := nb_T (wf_tail (wfT_wf h))
    rw [show x :: r = [x] ++ r from rfl, kdpS_app, kdpS_one]
    refine ⟨nb_kdp i1 i2 ?_, ?_⟩
    · by_cases hr : r = []
      · exact .inr (by subst hr; rfl)
      · exact .inl (wf_nz (wfT_wf h) hr)
    · have := wfT_head h
      simp [kdp1, Ks, this, hdK]
theorem nb_wf : ∀ {t : List KDP}, wf t → nb (kdpS t)
  | [], _ => trivial
  | x :: r, h => by
    obtain ⟨i1, i2⟩ := nb_T (wf_tail h)
    rw [show x :: r = [x] ++ r from rfl, kdpS_app, kdpS_one]
    refine nb_kdp i1 i2 ?_
    by_cases hr : r = []
    · exact .inr (by subst hr; rfl)
    · exact .inl (wf_nz h hr)
end DF
set_option Elab.async false
set_option linter.all false
set_option maxRecDepth 100000
set_option maxHeartbeats 400000
namespace DF
open PySem PySem.Spec L2 DC
section
variable {Γ : Glo} {md : List Bool} {fr : Bool} {n : Nat} {P : Post}
theorem for_enmA {α : Type} {p : Pat} {b : Sm} (h : α → D) (J : Nat → List α → En → Dice → Prop) {l : List α} {ρ : En} {δ : Dice} (j0 : J 0 l ρ δ) (j1 : ∀ k ρ δ, J k [] ρ δ → P.nx ρ δ)
    (j2 : ∀ k a r ρ δ, J k (a :: r) ρ δ → ∃ ρ1, bindP p (.tup [.int (k : Nat), h a]) ρ = some ρ1 ∧ Wp (exS Γ md fr n b ρ1 δ) ⟨J (k + 1) r, J (k + 1) r, P.rt, P.ex⟩) : Wp (forL p (exS Γ md fr n b) (enmL 0 (l.map h)) ρ δ) P := by
  refine for_enm (fun k ds ρ δ => ∃ r, ds = r.map h ∧ J k r ρ δ) ⟨l, rfl, j0⟩ ?_ ?_
  · rintro k ρ δ ⟨r, e, j⟩
    cases r with
    | nil => exact j1 k ρ δ j
    | cons a r => cases e
  · rintro k d ds ρ δ ⟨r, e, j⟩
    cases r with
    | nil => cases e
    | cons a r =>
      injection e with e1 e2
      subst e1
      obtain ⟨ρ1, a1, a2⟩ := j2 k a r ρ δ j
      exact ⟨ρ1, a1, a2.mono (fun _ _ z => ⟨r, e2, z⟩) (fun _ _ z => ⟨r, e2, z⟩) (fun _ _ z => z) (fun _ _ z => z)⟩
end
def N_followed : List Str := ["script", "rows", "at", "found", "number", "word", "what"]
def md_followed : List Bool := []
def s_followed : Sm := (.seq (.par [2, 3] (.cons (.cst (.int 0)) (.cons (.op .lstd .nil) .nil))) (.seq (.fr (.cons (.nm 4) (.cons (.cons (.nm 5) (.cons (.nm 6) .nil)) .nil)) (.op .enm (.cons (.var 0) .nil)) (.seq (.iff (.op .eq (.cons (.var 5) (.cons (.cst (.str [112, 117, 116])) .nil))) (.seq (.asg 3 (.op .add (.cons (.var 3) (.cons (.op .list (.cons (.var 6) .nil)) .nil)))) .skip) (.seq (.iff (.op .gt (.cons (.op .add (.cons (.var 2) (.cons (.var 6) .nil))) (.cons (.op .len (.cons (.var 1) .nil)) .nil))) (.seq .bad .skip) .skip) (.seq (.iff (.op .eq (.cons (.var 5) (.cons (.cst (.str [107, 101, 101, 112])) .nil))) (.seq (.asg 3 (.op .add (.cons (.var 3) (.cons (.op (.slc true true) (.cons (.var 1) (.cons (.var 2) (.cons (.op .add (.cons (.var 2) (.cons (.var 6) .nil))) .nil)))) .nil)))) .skip) .skip) (.seq (.asg 2 (.op .add (.cons (.var 2) (.cons (.var 6) .nil)))) .skip)))) .skip)) (.seq (.iff (.op .lt (.cons (.var 2) (.cons (.op .len (.cons (.var 1) .nil)) .nil))) (.seq .bad .skip) .skip) (.seq (.ret (.var 3)) .skip))))
def N_by_pairs : List Str := ["many", "other", "pairs", "found", "at", "to", "i", "j"]
def md_by_pairs : List Bool := [false, false, false, true]
def s_by_pairs : Sm := (.seq (.par [3, 4, 5] (.cons (.op .lstd .nil) (.cons (.cst (.int 0)) (.cons (.cst (.int 0)) .nil)))) (.seq (.fr (.cons (.nm 6) (.cons (.nm 7) .nil)) (.op .add (.cons (.var 2) (.cons (.op .lstd (.cons (.op .tupd (.cons (.var 0) (.cons (.op .len (.cons (.var 1) .nil)) .nil))) .nil)) .nil))) (.seq (.iff (.op .gt (.cons (.var 6) (.cons (.var 4) .nil))) (.seq (.app 3 (.op .tupd (.cons (.cst (.str [100, 114, 111, 112])) (.cons (.op .sub (.cons (.var 6) (.cons (.var 4) .nil))) .nil)))) .skip) .skip) (.seq (.iff (.op .gt (.cons (.var 7) (.cons (.var 5) .nil))) (.seq (.app 3 (.op .tupd (.cons (.cst (.str [112, 117, 116])) (.cons (.op .tuple (.cons (.op (.slc true true) (.cons (.var 1) (.cons (.var 5) (.cons (.var 7) .nil)))) .nil)) .nil)))) .skip) .skip) (.seq (.iff (.op .lt (.cons (.var 6) (.cons (.var 0) .nil))) (.seq (.app 3 (.op .tupd (.cons (.cst (.str [107, 101, 101, 112])) (.cons (.cst (.int 1)) .nil)))) .skip) .skip) (.seq (.par [4, 5] (.cons (.op .add (.cons (.var 6) (.cons (.cst (.int 1)) .nil))) (.cons (.op .add (.cons (.var 7) (.cons (.cst (.int 1)) .nil))) .nil))) .skip))))) (.seq (.ret (.call "plain_of" false 0 (.cons (.var 3) .nil) .nil)) .skip)))
def fs_followed : Fs := mk2 cScr cRows (fun l rows => okSc l && decide (rows.length ≤ 1000) && (givesF rows l).isSome) fun l rows => optR (givesF rows l)
@[simp] theorem dice_followed : fs_followed.dice = false := id rfl
@[simp] theorem pats_followed : fs_followed.pats = [(2, [], none)] := id rfl
def invF (l : List Step) (rows : List (List Nat)) (δ : Dice) (i : Nat) (r : List Step) (ρ : En) (δ' : Dice) : Prop := δ' = δ ∧ ∃ (st : GSt) (x y z : Option D), l.drop i = r ∧ st.found.length ≤ 1000 * i ∧ ρ = [some (scriptD l), some (rowsD rows), some (.int st.at_), some (rowsD st.found), x, y, z] ∧ r.foldl (stepG rows) (some st) = l.foldl (stepG rows) (some ⟨0, []⟩)
@[simp] theorem enm_scr (l : List Step) : opv .enm [scriptD l] = some (.lst (enmL 0 (l.map stepD))) := rfl
theorem sem_followed {Γ : Glo} : Does Γ md_followed 7 s_followed fs_followed := does2 (a := cScr) (b := cRows) 0 fun l rows δ hl => by
  simp only [Bool.and_eq_true, decide_eq_true_eq] at hl
  obtain ⟨ll, lo⟩ := okSc_iff.mp hl.1.1
  have hsome := hl.2
  show Wp (exS Γ [] false 0 s_followed [some (scriptD l), some (rowsD rows), none, none, none, none, none] δ) _
  simp [s_followed]
  refine for_enmA stepD (l := l) (invF l rows δ) ⟨rfl, ⟨0, []⟩, none, none, none, rfl, by simp, rfl, rfl⟩ ?_ ?_
  · rintro i ρ δ' ⟨rfl, st, x, y, z, e1, e2, rfl, e3⟩
    have e3 : some st = l.foldl (stepG rows) (some ⟨0, []⟩) := e3
    simp [givesF, ← e3] at hsome ⊢
    simp [hsome, optR]
  · rintro i s r ρ δ' ⟨rfl, st, x, y, z, e1, e2, rfl, e3⟩
    have hs : l[i]? = some s := by have := congrArg (fun z => z[0]?) e1; simpa using this
    have hr : l.drop (i + 1) = r := by have := congrArg List.tail e1; simpa using this
    have hi2 : i < l.length := (List.getElem?_eq_some_iff.mp hs).1
    have hok := lo s (List.mem_of_getElem? hs)
    have none_ : ¬ stepG rows (some st) s = none := fun z => by
      rw [List.foldl_cons, z, fold_none] at e3
      simp [givesF, ← e3] at hsome
    cases s with
    | put q =>
      refine ⟨_, rfl, ?_⟩
      have hq : q.length ≤ 1000 := by simp [okStep] at hok; exact hok.1.2
      have b : st.found.length + q.length ≤ 16777216 := by omega
      simp [b]
      exact ⟨rfl, ⟨st.at_, st.found ++ q⟩, _, _, _, hr, by simp; omega, rfl, e3⟩
    | keep n =>
      refine ⟨_, rfl, ?_⟩
      have hn : n ≤ 1000 := by simp [okStep] at hok; exact hok.2
      by_cases hc : st.at_ + n ≤ rows.length
      · have hc' : ¬ (rows.length : Int) < (st.at_ : Int) + n := by omega
        have e : (st.at_ : Int) + n = ((st.at_ + n : Nat) : Int) := by omega
        have b : st.found.length + min n (rows.length - st.at_) ≤ 16777216 := by omega
        simp [hc']
        rw [e, cut_both]
        simp [b]
        refine ⟨rfl, ⟨st.at_ + n, st.found ++ (rows.drop st.at_).take n⟩, _, _, _, hr, by simp; omega, rfl, ?_⟩
        rw [← e3, List.foldl_cons]
        simp [stepG, hc]
      · exact absurd (by simp [stepG, hc]) none_
    | drop n =>
      refine ⟨_, rfl, ?_⟩
      by_cases hc : st.at_ + n ≤ rows.length
      · have hc' : ¬ (rows.length : Int) < (st.at_ : Int) + n := by omega
        simp [hc']
        refine ⟨rfl, ⟨st.at_ + n, st.found⟩, _, _, _, hr, by simp; omega, by rw [← Int.natCast_add], ?_⟩
        rw [← e3, List.foldl_cons]
        simp [stepG, hc]
      · exact absurd (by simp [stepG, hc]) none_
theorem followed_at {l : List Step} {rows other : List (List Nat)} (h : okSc l = true) (h2 : rows.length ≤ 1000) (h3 : givesF rows l = some other) (δ : Dice) : fs_followed.sem [scriptD l, rowsD rows] δ = .ok (rowsD other) δ := by
  have := mk2_at (a := cScr) (b := cRows) (ok := fun l rows => okSc l && decide (rows.length ≤ 1000) && (givesF rows l).isSome) (g := fun l rows => optR (givesF rows l)) (x := l) (y := rows) (by simp [h, h2, h3]) δ
  rw [h3] at this
  exact this
def rawF (many : Nat) (other : List (List Nat)) : Nat → Nat → List (Nat × Nat) → List Step
  | a, t, [] => Ds (many - a) ++ Ps (other.drop t)
  | a, t, (i, j) :: r => Ds (i - a) ++ Ps ((other.drop t).take (j - t)) ++ [.keep 1] ++ rawF many other (i + 1) (j + 1) r
def incB (m n : Nat) : Nat → Nat → List (Nat × Nat) → Bool
  | a, t, [] => decide (a ≤ m) && decide (t ≤ n)
  | a, t, (i, j) :: r => decide (a ≤ i) && decide (i < m) && decide (t ≤ j) && decide (j < n) && incB m n (i + 1) (j + 1) r
theorem inc_cons {m n a t i j : Nat} {r : List (Nat × Nat)} : incB m n a t ((i, j) :: r) = true ↔ a ≤ i ∧ i < m ∧ t ≤ j ∧ j < n ∧ incB m n (i + 1) (j + 1) r = true := by
  simp [incB, and_assoc]
theorem inc_nil {m n a t : Nat} : incB m n a t [] = true ↔ a ≤ m ∧ t ≤ n := by simp [incB]
theorem inc_le {m n : Nat} : ∀ {ps : List (Nat × Nat)} {a t : Nat}, incB m n a t ps = true → a + ps.length ≤ m ∧ t + ps.length ≤ n
  | [], a, t, h => by have := inc_nil.mp h; simp; omega
  | (i, j) :: r, a, t, h => by
    obtain ⟨h1, h2, h3, h4, h5⟩ := inc_cons.mp h
    have := inc_le h5
    simp; omega
theorem raw_ok {many : Nat} {other : List (List Nat)} (hm : many ≤ 1000) (ho : other.length ≤ 1000) (hr : ∀ x ∈ other, rowB x = true) : ∀ {ps : List (Nat × Nat)} {a t : Nat}, incB many other.length a t ps = true → (rawF many other a t ps).length ≤ 2 + 3 * ps.length ∧ ∀ s ∈ rawF many other a t ps, okStep s = true := by
  have hd : ∀ d, d ≤ 1000 → ∀ s ∈ Ds d, okStep s = true := fun d h s hs => by
    unfold Ds at hs
    split at hs
    · have : s = .drop d := by simpa using hs
      subst this
      simp [okStep]; omega
    · cases hs
  have hp : ∀ p : List (List Nat), p.length ≤ 1000 → (∀ x ∈ p, rowB x = true) → ∀ s ∈ Ps p, okStep s = true := fun p h h2 s hs => by
    unfold Ps at hs
    split at hs
    · cases hs
    · rename_i hne
      have : s = .put p := by simpa using hs
      subst this
      simp [okStep, hne, h]
      exact h2
  have ld : ∀ d, (Ds d).length ≤ 1 := fun d => by unfold Ds; split <;> simp
  have lp : ∀ p, (Ps p).length ≤ 1 := fun d => by unfold Ps; split <;> simp
  intro ps
  induction ps with
  | nil =>
    intro a t h
    have := ld (many - a)
    have := lp (other.drop t)
    refine ⟨by simp [rawF]; omega, fun s hs => ?_⟩
    rcases List.mem_append.mp hs with hs | hs
    · exact hd _ (by omega) s hs
    · exact hp _ (by simp; omega) (fun x hx => hr x (List.mem_of_mem_drop hx)) s hs
  | cons p ps ih =>
    intro a t h
    obtain ⟨i, j⟩ := p
    obtain ⟨h1, h2, h3, h4, h5⟩ := inc_cons.mp h
    obtain ⟨i1, i2⟩ := ih h5
    have := ld (i - a)
    have := lp ((other.drop t).take (j - t))
    refine ⟨by simp [rawF]; omega, fun s hs => ?_⟩
    rcases List.mem_append.mp hs with hs | hs
    · rcases List.mem_append.mp hs with hs | hs
      · rcases List.mem_append.mp hs with hs | hs
        · exact hd _ (by omega) s hs
        · exact hp _ (by simp; omega) (fun x hx => hr x (List.mem_of_mem_drop (List.mem_of_mem_take hx))) s hs
      · have : s = .keep 1 := by simpa using hs
        subst this; rfl
    · exact i2 s hs
def okBy (many : Nat) (other : List (List Nat)) (ps : List (Nat × Nat)) : Bool := decide (many ≤ 300) && decide (other.length ≤ 300) && other.all rowB && incB many other.length 0 0 ps
def fs_by_pairs : Fs := mk3 cNat cRows cPairs okBy fun many other ps => scriptD (plainF (rawF many other 0 0 ps))
@[simp] theorem dice_by_pairs : fs_by_pairs.dice = false := id rfl
@[simp] theorem pats_by_pairs : fs_by_pairs.pats = [(3, [], none)] := id rfl
def stB (many : Nat) (other : List (List Nat)) (found : List Step) (a t i j : Nat) : List Step := found ++ Ds (i - a) ++ Ps ((other.drop t).take (j - t)) ++ (if i < many then [.keep 1] else [])
def eB (many : Nat) (other : List (List Nat)) (ps : List (Nat × Nat)) (found : List Step) (a t : Nat) (x y : Option D) : En := [some (.int many), some (rowsD other), some (pairsD ps), some (.lst (found.map stepD)), some (.int a), some (.int t), x, y]
def bodyB : Sm := (.seq (.iff (.op .gt (.cons (.var 6) (.cons (.var 4) .nil))) (.seq (.app 3 (.op .tupd (.cons (.cst (.str [100, 114, 111, 112])) (.cons (.op .sub (.cons (.var 6) (.cons (.var 4) .nil))) .nil)))) .skip) .skip) (.seq (.iff (.op .gt (.cons (.var 7) (.cons (.var 5) .nil))) (.seq (.app 3 (.op .tupd (.cons (.cst (.str [112, 117, 116])) (.cons (.op .tuple (.cons (.op (.slc true true) (.cons (.var 1) (.cons (.var 5) (.cons (.var 7) .nil)))) .nil)) .nil)))) .skip) .skip) (.seq (.iff (.op .lt (.cons (.var 6) (.cons (.var 0) .nil))) (.seq (.app 3 (.op .tupd (.cons (.cst (.str [107, 101, 101, 112])) (.cons (.cst (.int 1)) .nil)))) .skip) .skip) (.seq (.par [4, 5] (.cons (.op .add (.cons (.var 6) (.cons (.cst (.int 1)) .nil))) (.cons (.op .add (.cons (.var 7) (.cons (.cst (.int 1)) .nil))) .nil))) .skip))))
theorem tup_rows (x : List (List Nat)) : opv .tuple [rowsD x] = some (.tup (x.map D.str)) := rfl
theorem by_step {Γ : Glo} (many : Nat) (other : List (List Nat)) (ps : List (Nat × Nat)) (found : List Step) (a t i j : Nat) (δ : Dice) (h1 : a ≤ i) (h2 : t ≤ j) (h3 : j ≤ other.length) (h4 : found.length ≤ 10000) :
    Wp (exS Γ [false, false, false, true] false 0 bodyB (eB many other ps found a t (some (.int i)) (some (.int j))) δ) ⟨fun ρ δ' => δ' = δ ∧ ρ = eB many other ps (stB many other found a t i j) (i + 1) (j + 1) (some (.int i)) (some (.int j)), fun _ _ => False, fun _ _ => False, fun _ _ => False⟩ := by
  have b1 : found.length + 1 ≤ 16777216 := by omega
  have b2 : found.length + 1 + 1 ≤ 16777216 := by omega
  have b3 : found.length + 1 + 1 + 1 ≤ 16777216 := by omega
  have c1 : found.length < 16777216 := by omega
  have c2 : found.length + 1 < 16777216 := by omega
  have c3 : found.length + 1 + 1 < 16777216 := by omega
  have ec : cutD other (some (t : Int)) (some (j : Int)) = (other.drop t).take (j - t) := cut_both other t j
  unfold eB bodyB
  by_cases k1 : a < i
  · have k1' : (a : Int) < i := by omega
    have ei : (i : Int) - a = ((i - a : Nat) : Int) := by omega
    have q1 : 0 < i - a := by omega
    by_cases k2 : t < j
    · have k2' : (t : Int) < j := by omega
      have hne : ¬ (other.drop t).take (j - t) = [] := fun z => by have := congrArg List.length z; simp at this; omega
      by_cases k3 : i < many
      · have k3' : (i : Int) < many := by omega
        simp [k1', k2', k3', b1, b2, b3, c1, c2, c3, ec, tup_rows, ei]
        simp [stB, Ds, Ps, q1, hne, k3, stepD]
      · have k3' : ¬ (i : Int) < many := by omega
        simp [k1', k2', k3', b1, b2, b3, c1, c2, c3, ec, tup_rows, ei]
        simp [stB, Ds, Ps, q1, hne, k3, stepD]
    · have k2' : ¬ (t : Int) < j := by omega
      have hne : (other.drop t).take (j - t) = [] := by rw [show j - t = 0 by omega]; simp
      by_cases k3 : i < many
      · have k3' : (i : Int) < many := by omega
        simp [k1', k2', k3', b1, b2, b3, c1, c2, c3, ec, tup_rows, ei]
        simp [stB, Ds, Ps, q1, hne, k3, stepD]
      · have k3' : ¬ (i : Int) < many := by omega
        simp [k1', k2', k3', b1, b2, b3, c1, c2, c3, ec, tup_rows, ei]
        simp [stB, Ds, Ps, q1, hne, k3, stepD]
  · have k1' : ¬ (a : Int) < i := by omega
    have q1 : ¬ 0 < i - a := by omega
    by_cases k2 : t < j
    · have k2' : (t : Int) < j := by omega
      have hne : ¬ (other.drop t).take (j - t) = [] := fun z => by have := congrArg List.length z; simp at this; omega
      by_cases k3 : i < many
      · have k3' : (i : Int) < many := by omega
        simp [k1', k2', k3', b1, b2, b3, c1, c2, c3, ec, tup_rows]
        simp [stB, Ds, Ps, q1, hne, k3, stepD]
      · have k3' : ¬ (i : Int) < many := by omega
        simp [k1', k2', k3', b1, b2, b3, c1, c2, c3, ec, tup_rows]
        simp [stB, Ds, Ps, q1, hne, k3, stepD]
    · have k2' : ¬ (t : Int) < j := by omega
      have hne : (other.drop t).take (j - t) = [] := by rw [show j - t = 0 by omega]; simp
      by_cases k3 : i < many
      · have k3' : (i : Int) < many := by omega
        simp [k1', k2', k3', b1, b2, b3, c1, c2, c3, ec, tup_rows]
        simp [stB, Ds, Ps, q1, hne, k3, stepD]
      · have k3' : ¬ (i : Int) < many := by omega
        simp [k1', k2', k3', b1, b2, b3, c1, c2, c3, ec, tup_rows]
        simp [stB, Ds, Ps, q1, hne, k3, stepD]
def invB (many : Nat) (other : List (List Nat)) (ps : List (Nat × Nat)) (δ : Dice) (r : List (Nat × Nat)) (ρ : En) (δ' : Dice) : Prop := δ' = δ ∧ ∃ (found : List Step) (a t : Nat) (x y : Option D), ρ = eB many other ps found a t x y ∧ (r = [] → found = rawF many other 0 0 ps) ∧ (r ≠ [] → ∃ r', r = r' ++ [(many, other.length)] ∧ incB many other.length a t r' = true ∧ found ++ rawF many other a t r' = rawF many other 0 0 ps)
theorem sem_by_pairs {Γ : Glo} (h1 : Γ.fn "plain_of" = some fs_plain_of) : Does Γ md_by_pairs 8 s_by_pairs fs_by_pairs := does3 (a := cNat) (b := cRows) (c := cPairs) 0 fun many other ps δ hl => by
  simp only [okBy, Bool.and_eq_true, decide_eq_true_eq, List.all_eq_true] at hl
  obtain ⟨⟨⟨m1, m2⟩, m3⟩, m4⟩ := hl
  obtain ⟨r1, r2⟩ := raw_ok (by omega) (by omega) m3 m4
  have il := inc_le m4
  have hraw : okSc (rawF many other 0 0 ps) = true := okSc_iff.mpr ⟨by omega, r2⟩
  show Wp (exS Γ [false, false, false, true] false 0 s_by_pairs [some (.int many), some (rowsD other), some (pairsD ps), none, none, none, none, none] δ) _
  have el : ps.length + 1 ≤ 16777216 := by omega
  have ea : dAdd (pairsD ps) (.lst [.tup [.int (many : Nat), .int (other.length : Nat)]]) = some (.lst ((ps ++ [(many, other.length)]).map pairD)) := by
    show (if (ps.map pairD).length + 1 ≤ 16777216 then some (D.lst (ps.map pairD ++ [pairD (many, other.length)])) else none) = _
    rw [List.length_map, if_pos el]; simp
  unfold s_by_pairs
  simp [ea, h1]
  show Wp (forL _ (exS Γ [false, false, false, true] false 0 bodyB) _ _ _) _
  rw [show ps.map pairD ++ [pairD (many, other.length)] = (ps ++ [(many, other.length)]).map pairD by simp]
  refine for_list pairD (l := ps ++ [(many, other.length)]) (invB many other ps δ) ⟨rfl, [], 0, 0, none, none, rfl, fun z => by simp at z, fun _ => ⟨ps, rfl, m4, rfl⟩⟩ ?_ ?_
  · rintro ρ δ' ⟨rfl, found, a, t, x, y, rfl, e1, -⟩
    have e1 := e1 rfl
    subst e1
    simp [eB]
    have := plain_atL hraw
    simp only [stepsD] at this
    simp [this]
  · rintro ⟨i, j⟩ r ρ δ' ⟨rfl, found, a, t, x, y, rfl, -, e1⟩
    obtain ⟨r', e1, e2, e3⟩ := e1 (by simp)
    have fl : found.length ≤ 10000 := by
      have := congrArg List.length e3
      simp at this; omega
    cases r' with
    | nil =>
      have e1 : (i, j) = (many, other.length) ∧ r = [] := by simpa using e1
      obtain ⟨e4, rfl⟩ := e1
      injection e4 with e4 e5
      subst e4; subst e5
      have hi := inc_nil.mp e2
      refine ⟨eB i other ps found a t (some (.int i)) (some (.int other.length)), rfl, (by_step (Γ := Γ) i other ps found a t i other.length δ' hi.1 hi.2 (by omega) fl).mono ?_ (fun _ _ z => z.elim) (fun _ _ z => z.elim) (fun _ _ z => z.elim)⟩
      rintro ρ δ ⟨rfl, rfl⟩
      refine ⟨rfl, _, _, _, _, _, rfl, fun _ => ?_, fun z => absurd rfl z⟩
      rw [← e3]
      simp [stB, rawF]
      rw [List.take_of_length_le (by simp)]
    | cons p r' =>
      have e1 : (i, j) = p ∧ r = r' ++ [(many, other.length)] := by simpa using e1
      obtain ⟨rfl, rfl⟩ := e1
      obtain ⟨g1, g2, g3, g4, g5⟩ := inc_cons.mp e2
      refine ⟨eB many other ps found a t (some (.int i)) (some (.int j)), rfl, (by_step (Γ := Γ) many other ps found a t i j δ' g1 g3 (by omega) fl).mono ?_ (fun _ _ z => z.elim) (fun _ _ z => z.elim) (fun _ _ z => z.elim)⟩
      rintro ρ δ ⟨rfl, rfl⟩
      refine ⟨rfl, _, _, _, _, _, rfl, fun z => by simp at z, fun _ => ⟨r', rfl, g5, ?_⟩⟩
      rw [← e3]
      simp [stB, rawF, g2]
theorem by_at {many : Nat} {other : List (List Nat)} {ps : List (Nat × Nat)} (h : okBy many other ps = true) (δ : Dice) : fs_by_pairs.sem [.int many, rowsD other, pairsD ps] δ = .ok (scriptD (plainF (rawF many other 0 0 ps))) δ := mk3_at (a := cNat) (b := cRows) (c := cPairs) (x := many) (y := other) (z := ps) h δ
end DF
set_option Elab.async false
set_option linter.all false
set_option maxRecDepth 100000
set_option maxHeartbeats 400000
namespace DF
open PySem PySem.Spec L2 DC
theorem q_D (d : Nat) (st : QSt) : (Ds d).foldl stepQ st = ⟨st.found, st.at_ + d, st.to⟩ := by
  unfold Ds
  split
  · rfl
  · have : d = 0 := by omega
    subst this; rfl
theorem q_P (p : List (List Nat)) (st : QSt) : (Ps p).foldl stepQ st = ⟨st.found, st.at_, st.to + p.length⟩ := by
  unfold Ps
  split
  · rename_i h; subst h; rfl
  · rfl
theorem raw_q {many : Nat} {other : List (List Nat)} : ∀ {ps : List (Nat × Nat)} {a t : Nat} (f : List (Nat × Nat)), incB many other.length a t ps = true → ((rawF many other a t ps).foldl stepQ ⟨f, a, t⟩).found = f ++ ps
  | [], a, t, f, h => by simp [rawF, List.foldl_append, q_D, q_P]
  | (i, j) :: r, a, t, f, h => by
    obtain ⟨h1, h2, h3, h4, h5⟩ := inc_cons.mp h
    rw [rawF, List.foldl_append, List.foldl_append, List.foldl_append, q_D, q_P]
    have e1 : a + (i - a) = i := by omega
    have e2 : t + ((other.drop t).take (j - t)).length = j := by simp; omega
    show ((rawF many other (i + 1) (j + 1) r).foldl stepQ (stepQ ⟨f, a + (i - a), t + ((other.drop t).take (j - t)).length⟩ (.keep 1))).found = _
    rw [e1, e2]
    show ((rawF many other (i + 1) (j + 1) r).foldl stepQ ⟨f ++ runP i j 1, i + 1, j + 1⟩).found = _
    rw [raw_q _ h5]
    simp [runP]
theorem g_D (rows : List (List Nat)) (d : Nat) (st : GSt) (h : st.at_ + d ≤ rows.length) : (Ds d).foldl (stepG rows) (some st) = some ⟨st.at_ + d, st.found⟩ := by
  unfold Ds
  split
  · simp [stepG, h]
  · have : d = 0 := by omega
    subst this; rfl
theorem g_P (rows : List (List Nat)) (p : List (List Nat)) (st : GSt) : (Ps p).foldl (stepG rows) (some st) = some ⟨st.at_, st.found ++ p⟩ := by
  unfold Ps
  split
  · rename_i h; subst h; simp
  · simp [stepG]
theorem raw_g {rows other : List (List Nat)} : ∀ {ps : List (Nat × Nat)} {a t : Nat}, incB rows.length other.length a t ps = true → (∀ p ∈ ps, rows[p.1]? = other[p.2]?) → (rawF rows.length other a t ps).foldl (stepG rows) (some ⟨a, other.take t⟩) = some ⟨rows.length, other⟩
  | [], a, t, h, _ => by
    have := inc_nil.mp h
    rw [rawF, List.foldl_append, g_D _ _ _ (by simp only; omega), g_P]
    simp only [List.take_append_drop]
    rw [show a + (rows.length - a) = rows.length by omega]
  | (i, j) :: r, a, t, h, hp => by
    obtain ⟨h1, h2, h3, h4, h5⟩ := inc_cons.mp h
    have hij : rows[i]? = other[j]? := hp (i, j) (by simp)
    rw [rawF, List.foldl_append, List.foldl_append, List.foldl_append, g_D _ _ _ (by simp only; omega), g_P]
    have e1 : a + (i - a) = i := by omega
    have e2 : other.take t ++ (other.drop t).take (j - t) = other.take j := by
      rw [← List.take_add, show t + (j - t) = j by omega]
    simp only [e1, e2]
    show (rawF rows.length other (i + 1) (j + 1) r).foldl (stepG rows) (stepG rows (some ⟨i, other.take j⟩) (.keep 1)) = _
    have e3 : stepG rows (some ⟨i, other.take j⟩) (.keep 1) = some ⟨i + 1, other.take (j + 1)⟩ := by
      have : i + 1 ≤ rows.length := by omega
      simp only [stepG, Option.bind_some, this, if_true]
      congr 2
      rw [List.take_add_one (l := other), ← hij]
      congr 1
      rw [List.getElem?_eq_getElem h2]
      rw [List.drop_eq_getElem_cons h2]
      rfl
    rw [e3]
    exact raw_g h5 fun p hp' => hp p (List.mem_cons_of_mem _ hp')
theorem raw_gives {rows other : List (List Nat)} {ps : List (Nat × Nat)} (h : incB rows.length other.length 0 0 ps = true) (hp : ∀ p ∈ ps, rows[p.1]? = other[p.2]?) : givesF rows (rawF rows.length other 0 0 ps) = some other := by
  unfold givesF
  have := raw_g h hp
  rw [List.take_zero] at this
  rw [this]
  simp
def fab (many : Nat) (other : List (List Nat)) : Nat → List (Nat × Nat) → List (List Nat)
  | a, [] => List.replicate (many - a) []
  | a, (i, j) :: r => List.replicate (i - a) [] ++ other.getD j [] :: fab many other (i + 1) r
theorem fab_len {many : Nat} {other : List (List Nat)} : ∀ {ps : List (Nat × Nat)} {a t : Nat}, incB many other.length a t ps = true → (fab many other a ps).length = many - a
  | [], a, t, h => by simp [fab]
  | (i, j) :: r, a, t, h => by
    obtain ⟨h1, h2, h3, h4, h5⟩ := inc_cons.mp h
    simp [fab, fab_len h5]; omega
theorem fab_at {many : Nat} {other : List (List Nat)} : ∀ {ps : List (Nat × Nat)} {a t : Nat}, incB many other.length a t ps = true → ∀ p ∈ ps, a ≤ p.1 ∧ (fab many other a ps)[p.1 - a]? = other[p.2]?
  | [], a, t, h, p, hp => by cases hp
  | (i, j) :: r, a, t, h, p, hp => by
    obtain ⟨h1, h2, h3, h4, h5⟩ := inc_cons.mp h
    rcases List.mem_cons.mp hp with rfl | hp
    · refine ⟨h1, ?_⟩
      simp only [fab]
      rw [List.getElem?_append_right (by simp)]
      simp [List.getD, List.getElem?_eq_getElem h4]
    · obtain ⟨k1, k2⟩ := fab_at h5 p hp
      refine ⟨by omega, ?_⟩
      simp only [fab]
      rw [List.getElem?_append_right (by simp; omega), List.length_replicate, show p.1 - a - (i - a) = (p.1 - (i + 1)) + 1 by omega, List.getElem?_cons_succ]
      exact k2
theorem by_T {many : Nat} {other : List (List Nat)} {ps : List (Nat × Nat)} (h : okBy many other ps = true) : ∃ t, wf t ∧ plainF (rawF many other 0 0 ps) = kdpS t ∧ okT many other 0 0 t ∧ prs 0 0 t = ps := by
  simp only [okBy, Bool.and_eq_true, decide_eq_true_eq, List.all_eq_true] at h
  obtain ⟨⟨⟨m1, m2⟩, m3⟩, m4⟩ := h
  obtain ⟨r1, r2⟩ := raw_ok (by omega) (by omega) m3 m4
  obtain ⟨t, hw, ht⟩ := plain_wf r2
  have hl := fab_len m4
  rw [Nat.sub_zero] at hl
  have hg := raw_gives (rows := fab many other 0 ps) (ps := ps) (by rw [hl]; exact m4) (fun p hp => (fab_at m4 p hp).2)
  rw [hl, ← plain_gives r2, ht] at hg
  have ho := gives_T hg
  rw [hl] at ho
  refine ⟨t, hw, ht, ho, ?_⟩
  rw [← pairs_kdp, ← ht, plain_pairs r2]
  exact raw_q [] m4
theorem cost_D (d : Nat) : costF (Ds d) = d := by
  unfold Ds
  split
  · simp [costF, cost1]
  · have : d = 0 := by omega
    subst this; rfl
theorem cost_P (p : List (List Nat)) : costF (Ps p) = p.length := by
  unfold Ps
  split
  · rename_i h; subst h; rfl
  · simp [costF, cost1]
theorem raw_cost {many : Nat} {other : List (List Nat)} : ∀ {ps : List (Nat × Nat)} {a t : Nat}, incB many other.length a t ps = true → costF (rawF many other a t ps) + a + t + 2 * ps.length = many + other.length
  | [], a, t, h => by
    have := inc_nil.mp h
    rw [rawF, cost_app, cost_D, cost_P]
    simp; omega
  | (i, j) :: r, a, t, h => by
    obtain ⟨h1, h2, h3, h4, h5⟩ := inc_cons.mp h
    have ih := raw_cost h5
    rw [rawF, cost_app, cost_app, cost_app, cost_D, cost_P]
    have : costF [.keep 1] = 0 := rfl
    simp; omega
end DF
set_option Elab.async false
set_option linter.all false
set_option maxRecDepth 100000
set_option maxHeartbeats 400000
namespace DF
open PySem PySem.Spec L2 DC
inductive Cg : List Step → List Step → Prop
  | refl (l : List Step) : Cg l l
  | trans {l m n : List Step} : Cg l m → Cg m n → Cg l n
  | app {a b c d : List Step} : Cg a b → Cg c d → Cg (a ++ c) (b ++ d)
  | kk (n m : Nat) : Cg [.keep n, .keep m] [.keep (n + m)]
  | dd (n m : Nat) : Cg [.drop n, .drop m] [.drop (n + m)]
  | pp (p q : List (List Nat)) : Cg [.put p, .put q] [.put (p ++ q)]
  | pd (p : List (List Nat)) (n : Nat) : Cg [.put p, .drop n] [.drop n, .put p]
theorem cg_K (k n : Nat) (h : 1 ≤ n) : Cg (Ks k ++ [.keep n]) (Ks (k + n)) := by
  unfold Ks
  rw [if_pos (show 0 < k + n by omega)]
  by_cases hk : 0 < k
  · rw [if_pos hk]; exact Cg.kk k n
  · rw [if_neg hk, show k + n = n by omega]; exact Cg.refl _
theorem cg_D (k n : Nat) (h : 1 ≤ n) : Cg (Ds k ++ [.drop n]) (Ds (k + n)) := by
  unfold Ds
  rw [if_pos (show 0 < k + n by omega)]
  by_cases hk : 0 < k
  · rw [if_pos hk]; exact Cg.dd k n
  · rw [if_neg hk, show k + n = n by omega]; exact Cg.refl _
theorem cg_P (p r : List (List Nat)) (h : r ≠ []) : Cg (Ps p ++ [.put r]) (Ps (p ++ r)) := by
  unfold Ps
  rw [if_neg (show ¬ p ++ r = [] by simp [h])]
  by_cases hp : p = []
  · rw [if_pos hp, hp]; exact Cg.refl _
  · rw [if_neg hp]; exact Cg.pp p r
theorem cg_step (st : PSt) (s : Step) (h : okStep s = true) : Cg (stepsP st ++ [s]) (stepsP (stepP st s)) := by
  cases s with
  | keep n =>
    have hn : 1 ≤ n := by simp [okStep] at h; exact h.1
    simp only [stepsP, stepP, as_eq, List.append_assoc]
    exact (Cg.refl _).app ((Cg.refl _).app ((Cg.refl _).app (cg_K _ _ hn)))
  | drop n =>
    have hn : 1 ≤ n := by simp [okStep] at h; exact h.1
    by_cases hk : 0 < st.keeps
    · simp only [stepsP, stepP, flushP, hk, if_true, as_eq]
      have : Ds (0 + n) ++ Ps [] ++ Ks 0 = [.drop n] := by simp [Ds]; omega
      rw [this]
      exact Cg.refl _
    · have hk0 : st.keeps = 0 := by omega
      have fl : flushP st = st := if_neg hk
      simp only [stepsP, stepP, fl, as_eq, hk0, Ks0, List.append_nil, List.append_assoc]
      refine (Cg.refl _).app ?_
      have : Cg (Ps st.puts ++ [.drop n]) ([.drop n] ++ Ps st.puts) := by
        unfold Ps
        split
        · exact Cg.refl _
        · exact Cg.pd _ _
      refine ((Cg.refl _).app this).trans ?_
      rw [← List.append_assoc]
      exact (cg_D _ _ hn).app (Cg.refl _)
  | put r =>
    have hr : r ≠ [] := by simp [okStep] at h; exact h.1.1
    by_cases hk : 0 < st.keeps
    · simp only [stepsP, stepP, flushP, hk, if_true, as_eq]
      have : Ds 0 ++ Ps ([] ++ r) ++ Ks 0 = [.put r] := by simp [Ps, hr]
      rw [this]
      exact Cg.refl _
    · have hk0 : st.keeps = 0 := by omega
      have fl : flushP st = st := if_neg hk
      simp only [stepsP, stepP, fl, as_eq, hk0, Ks0, List.append_nil, List.append_assoc]
      exact (Cg.refl _).app ((Cg.refl _).app (cg_P _ _ hr))
theorem cg_fold : ∀ (l : List Step) (st : PSt), (∀ s ∈ l, okStep s = true) → Cg (stepsP st ++ l) (stepsP (l.foldl stepP st))
  | [], st, _ => by simp only [List.append_nil, List.foldl_nil]; exact Cg.refl _
  | s :: l, st, h => by
    have := cg_fold l (stepP st s) fun x hx => h x (List.mem_cons_of_mem _ hx)
    rw [List.foldl_cons]
    refine Cg.trans ?_ this
    rw [show stepsP st ++ s :: l = (stepsP st ++ [s]) ++ l by simp]
    exact (cg_step st s (h s (by simp))).app (Cg.refl _)
theorem plain_cg {l : List Step} (h : ∀ s ∈ l, okStep s = true) : Cg l (plainF l) := by
  have := cg_fold l ⟨[], 0, [], 0⟩ h
  simpa [stepsP, asSteps, plainF] using this
theorem Cg.fold {σ : Type} (f : σ → Step → σ) (kk : ∀ s n m, f (f s (.keep n)) (.keep m) = f s (.keep (n + m))) (dd : ∀ s n m, f (f s (.drop n)) (.drop m) = f s (.drop (n + m))) (pp : ∀ s n m, f (f s (.put n)) (.put m) = f s (.put (n ++ m))) (pd : ∀ s n m, f (f s (.put n)) (.drop m) = f (f s (.drop m)) (.put n)) {l m : List Step} (h : Cg l m) : ∀ s, l.foldl f s = m.foldl f s := by
  induction h with
  | refl l => exact fun _ => rfl
  | trans _ _ i1 i2 => exact fun s => (i1 s).trans (i2 s)
  | app _ _ i1 i2 => exact fun s => by rw [List.foldl_append, List.foldl_append, i1, i2]
  | kk n m => exact fun s => kk s n m
  | dd n m => exact fun s => dd s n m
  | pp n m => exact fun s => pp s n m
  | pd n m => exact fun s => pd s n m
end DF
set_option Elab.async false
set_option linter.all false
set_option maxRecDepth 100000
set_option maxHeartbeats 400000
namespace DF
open PySem PySem.Spec L2 DC
theorem alk_ints (ns : List Int) : alk (ns.map .int) = true := by
  unfold alk
  have e1 : (D.lst (ns.map .int)).shp = true := by
    obtain ⟨n, e, h⟩ := deps_all (f := D.int) (k := 0) (fun a => ⟨0, rfl, Nat.le_refl _⟩) ns
    exact shp_iff.mpr ⟨n + 1, by simp [D.dep, e], by omega⟩
  rw [e1, Bool.true_and, List.all_eq_true]
  intro a ha
  obtain ⟨n, -, rfl⟩ := List.mem_map.mp ha
  simp only [Bool.and_eq_true, List.all_eq_true]
  refine ⟨rfl, fun b hb => ?_⟩
  obtain ⟨m, -, rfl⟩ := List.mem_map.mp hb
  rfl
theorem max_ints : ∀ (ns : List Int) (x : Int), maxF (.int x) (ns.map .int) = .int (ns.foldl max x)
  | [], x => rfl
  | n :: ns, x => by
    rw [List.map_cons, List.foldl_cons]
    show maxF (if PySem.W.dataLt (D.int x).py (D.int n).py then .int n else .int x) (ns.map .int) = _
    have : (if PySem.W.dataLt (D.int x).py (D.int n).py then D.int n else .int x) = .int (max x n) := by
      have e : PySem.W.dataLt (D.int x).py (D.int n).py = decide (x < n) := by simp only [D.py]; exact PySem.W.dataLt_int x n
      rw [e]
      by_cases h : x < n
      · simp [h]; omega
      · simp [h]; omega
    rw [this, max_ints]
def maxN (ns : List Nat) : Nat := ns.foldl max 0
theorem max_cast : ∀ (ns : List Nat) (x : Nat), (ns.map fun (n : Nat) => (n : Int)).foldl max (x : Int) = ((ns.foldl max x : Nat) : Int)
  | [], x => rfl
  | n :: ns, x => by
    rw [List.map_cons, List.foldl_cons, List.foldl_cons, ← max_cast ns]
    congr 1
    omega
theorem o_maxdN (ns : List Nat) : opv .maxd [.lst (ns.map fun (n : Nat) => D.int n), .int 0] = some (.int (maxN ns)) := by
  cases ns with
  | nil => rfl
  | cons n ns =>
    have e : (n :: ns).map (fun (n : Nat) => D.int n) = D.int n :: (ns.map fun (n : Nat) => (n : Int)).map D.int := by simp
    have a := alk_ints ((n :: ns).map fun (n : Nat) => (n : Int))
    rw [show ((n :: ns).map fun (n : Nat) => (n : Int)).map D.int = D.int n :: (ns.map fun (n : Nat) => (n : Int)).map D.int by simp] at a
    rw [e, o_maxd, a, if_pos rfl, max_ints, max_cast]
    simp [maxN]
def N__law_measure : List Str := ["script", "many", "groups", "high", "run", "is_new", "word", "what"]
def md__law_measure : List Bool := []
def s__law_measure : Sm := (.seq (.par [1, 2, 3, 4, 5] (.cons (.cst (.int 0)) (.cons (.cst (.int 0)) (.cons (.cst (.int 0)) (.cons (.cst (.int 0)) (.cons (.cst (.bl true)) .nil)))))) (.seq (.fr (.cons (.nm 6) (.cons (.nm 7) .nil)) (.var 0) (.seq (.iff (.op .eq (.cons (.var 6) (.cons (.cst (.str [107, 101, 101, 112])) .nil))) (.seq (.par [4, 5] (.cons (.op .add (.cons (.var 4) (.cons (.var 7) .nil))) (.cons (.cst (.bl true)) .nil))) (.seq (.asg 3 (.op .max2 (.cons (.var 3) (.cons (.var 4) .nil)))) .skip)) (.seq (.asg 1 (.op .add (.cons (.var 1) (.cons (.ife (.op .eq (.cons (.var 6) (.cons (.cst (.str [112, 117, 116])) .nil))) (.op .len (.cons (.var 7) .nil)) (.var 7)) .nil)))) (.seq (.par [2, 4, 5] (.cons (.op .add (.cons (.var 2) (.cons (.op .int (.cons (.var 5) .nil)) .nil))) (.cons (.cst (.int 0)) (.cons (.cst (.bl false)) .nil)))) .skip))) .skip)) (.seq (.ret (.op .tupd (.cons (.var 1) (.cons (.var 2) (.cons (.var 3) .nil))))) .skip)))
def N_measured : List Str := ["script", "costs", "word", "what", "keeps", "at", "step", "groups"]
def md_measured : List Bool := []
def s_measured : Sm := (.seq (.asg 1 (.comp [2, 3] (.cons (.nm 2) (.cons (.nm 3) .nil)) (.var 0) (.op .ne (.cons (.var 2) (.cons (.cst (.str [107, 101, 101, 112])) .nil))) (.ife (.op .eq (.cons (.var 2) (.cons (.cst (.str [112, 117, 116])) .nil))) (.op .len (.cons (.var 3) .nil)) (.var 3)))) (.seq (.asg 4 (.comp [5, 6] (.cons (.nm 5) (.cons (.nm 6) .nil)) (.op .enm (.cons (.var 0) .nil)) (.op .eq (.cons (.op .idx (.cons (.var 6) (.cons (.cst (.int 0)) .nil))) (.cons (.cst (.str [107, 101, 101, 112])) .nil))) (.var 5))) (.seq (.asg 7 (.op .len (.cons (.comp [5, 6] (.cons (.nm 5) (.cons (.nm 6) .nil)) (.op .enm (.cons (.var 0) .nil)) (.and (.op .ne (.cons (.op .idx (.cons (.var 6) (.cons (.cst (.int 0)) .nil))) (.cons (.cst (.str [107, 101, 101, 112])) .nil))) (.or (.op .eq (.cons (.var 5) (.cons (.cst (.int 0)) .nil))) (.op .isin (.cons (.op .sub (.cons (.var 5) (.cons (.cst (.int 1)) .nil))) (.cons (.var 4) .nil))))) (.var 5)) .nil))) (.seq (.ret (.op .tupd (.cons (.op .sum (.cons (.var 1) .nil)) (.cons (.var 7) (.cons (.op .maxd (.cons (.comp [5] (.nm 5) (.var 4) (.cst (.bl true)) (.op .idx (.cons (.op .idx (.cons (.var 0) (.cons (.var 5) .nil))) (.cons (.cst (.int 1)) .nil)))) (.cons (.cst (.int 0)) .nil))) .nil))))) .skip))))
def N_measure : List Str := ["script"]
def md_measure : List Bool := []
def s_measure : Sm := (.seq (.exp (.call "need_script" false 0 (.cons (.var 0) .nil) .nil)) (.seq (.ret (.call "measured" false 0 (.cons (.call "plain_of" false 0 (.cons (.var 0) .nil) .nil) .nil) .nil)) .skip))
structure MSt where
  many : Nat
  groups : Nat
  high : Nat
  run : Nat
  new : Bool
def stepM (st : MSt) : Step → MSt
  | .keep n => ⟨st.many, st.groups, max st.high (st.run + n), st.run + n, true⟩
  | .drop n => ⟨st.many + n, st.groups + st.new.toNat, st.high, 0, false⟩
  | .put r => ⟨st.many + r.length, st.groups + st.new.toNat, st.high, 0, false⟩
def meas (l : List Step) : MSt := l.foldl stepM ⟨0, 0, 0, 0, true⟩
def measD (m : MSt) : D := .tup [.int m.many, .int m.groups, .int m.high]
def fs__law_measure : Fs := mk1 cScr okSc fun l => measD (meas l)
@[simp] theorem dice__law_measure : fs__law_measure.dice = false := id rfl
@[simp] theorem pats__law_measure : fs__law_measure.pats = [(1, [], none)] := id rfl
theorem sem__law_measure {Γ : Glo} : Does Γ md__law_measure 8 s__law_measure fs__law_measure := does1 (a := cScr) 0 fun l δ hl => by
  show Wp (exS Γ [] false 0 s__law_measure [some (scriptD l), none, none, none, none, none, none, none] δ) _
  simp [s__law_measure]
  refine for_fold stepD (fun i st ρ => ∃ x y, ρ = [some (scriptD l), some (.int st.many), some (.int st.groups), some (.int st.high), some (.int st.run), some (.bl st.new), x, y]) stepM (st := ⟨0, 0, 0, 0, true⟩) ⟨none, none, rfl⟩ ?_ ?_
  · rintro i st s ρ hs ⟨x, y, rfl⟩
    cases s with
    | keep n =>
      refine ⟨_, rfl, ?_⟩
      simp [stepM]
      split <;> omega
    | drop n =>
      refine ⟨_, rfl, ?_⟩
      simp [stepM]
      cases st.new <;> simp
    | put r =>
      refine ⟨_, rfl, ?_⟩
      simp [stepM]
      cases st.new <;> simp
  · rintro ρ ⟨x, y, rfl⟩
    simp [measD, meas]
theorem lmeas_at {l : List Step} (h : okSc l = true) (δ : Dice) : fs__law_measure.sem [scriptD l] δ = .ok (measD (meas l)) δ := mk1_at (a := cScr) (x := l) h δ
def isK : Step → Bool
  | .keep _ => true
  | _ => false
def amt : Step → Nat
  | .keep n => n
  | .drop n => n
  | .put r => r.length
def keepsF (l : List Step) : List Nat := (l.zipIdx.filter fun q => isK q.1).map fun q => q.2
def groupsF (l : List Step) : Nat := (l.zipIdx.filter fun q => !isK q.1 && (decide (q.2 = 0) || decide (q.2 - 1 ∈ keepsF l))).length
def highF (l : List Step) : Nat := maxN ((keepsF l).map fun i => (l[i]?.map amt).getD 0)
def fs_measured : Fs := mk1 cScr okSc fun l => .tup [.int (costF l), .int (groupsF l), .int (highF l)]
@[simp] theorem dice_measured : fs_measured.dice = false := id rfl
@[simp] theorem pats_measured : fs_measured.pats = [(1, [], none)] := id rfl
theorem enm_zip {α : Type} (f : α → D) (l : List α) : enmL 0 (l.map f) = l.zipIdx.map fun q => .tup [.int (q.2 : Nat), f q.1] := by
  rw [enm_map, List.zipIdx_map]
  simp [List.map_map, Function.comp_def]
theorem keep_mem {l : List Step} {i : Nat} : i ∈ keepsF l ↔ ∃ n, l[i]? = some (.keep n) := by
  unfold keepsF
  simp only [List.mem_map, List.mem_filter, Prod.exists, List.mem_zipIdx_iff_getElem?]
  constructor
  · rintro ⟨s, j, ⟨h1, h2⟩, rfl⟩
    cases s with
    | keep n => exact ⟨n, h1⟩
    | drop n => cases h2
    | put n => cases h2
  · rintro ⟨n, h⟩
    exact ⟨_, i, ⟨h, rfl⟩, rfl⟩
theorem sum_nats (ns : List Nat) : intsOf (ns.map fun (n : Nat) => D.int n) = some (ns.map fun (n : Nat) => (n : Int)) := by
  induction ns with
  | nil => rfl
  | cons a m ih => simp [intsOf, ih]
theorem sum_cast (ns : List Nat) : (ns.map fun (n : Nat) => (n : Int)).sum = (ns.sum : Nat) := by
  induction ns with
  | nil => rfl
  | cons a m ih => simp [ih]
theorem cost_filt : ∀ l : List Step, ((l.filter fun s => !isK s).map amt).sum = costF l
  | [] => rfl
  | s :: l => by
    have ih := cost_filt l
    cases s <;> simp [costF, cost1, isK, amt] at ih ⊢ <;> omega
theorem sem_measured {Γ : Glo} : Does Γ md_measured 8 s_measured fs_measured := does1 (a := cScr) 0 fun l δ hl => by
  show Wp (exS Γ [] false 0 s_measured [some (scriptD l), none, none, none, none, none, none, none] δ) _
  simp [s_measured]
  refine compA stepD (fun s => !isK s) (fun s => .int (amt s)) (fun s _ => ?_) ?_
  · cases s <;> refine ⟨_, rfl, ?_, ?_⟩ <;> simp [isK, amt]
  rw [enm_zip]
  refine compA _ (fun q => isK q.1) (fun q => .int (q.2 : Nat)) (fun q _ => ?_) ?_
  · obtain ⟨s, i⟩ := q
    cases s <;> refine ⟨_, rfl, ?_, ?_⟩ <;> simp [isK, stepD]
  rw [show (l.zipIdx.filter fun q => isK q.1).map (fun q => D.int (q.2 : Nat)) = (keepsF l).map fun (n : Nat) => D.int n by simp [keepsF, Function.comp_def]]
  refine compA _ (fun q => !isK q.1 && (decide (q.2 = 0) || decide (q.2 - 1 ∈ keepsF l))) (fun q => .int (q.2 : Nat)) (fun q _ => ?_) ?_
  · obtain ⟨s, i⟩ := q
    have hin : ∀ h : ¬ i = 0, dIn (.int ((i : Int) - 1)) (.lst ((keepsF l).map fun (n : Nat) => D.int n)) = some (decide (i - 1 ∈ keepsF l)) := fun h => by
      rw [show (i : Int) - 1 = ((i - 1 : Nat) : Int) by omega]
      exact in_nats _ _
    cases s with
    | keep n => refine ⟨_, rfl, ?_, ?_⟩ <;> simp [isK, stepD]
    | drop n =>
      refine ⟨_, rfl, ?_, ?_⟩
      · by_cases h : i = 0
        · simp [isK, stepD, h]
        · simp [isK, stepD, h, hin h]
      · simp
    | put n =>
      refine ⟨_, rfl, ?_, ?_⟩
      · by_cases h : i = 0
        · simp [isK, stepD, h]
        · simp [isK, stepD, h, hin h]
      · simp
  simp
  have es : intsOf ((l.filter fun s => !isK s).map fun s => D.int (amt s)) = some (((l.filter fun s => !isK s).map amt).map fun (n : Nat) => (n : Int)) := by
    rw [← sum_nats]; simp [Function.comp_def]
  rw [es]
  simp only [Option.map_some, Wo_some, sum_cast, cost_filt]
  refine compA _ (fun _ => true) (fun (i : Nat) => .int ((l[i]?.map amt).getD 0 : Nat)) (fun i hi => ?_) ?_
  · obtain ⟨n, hn⟩ := keep_mem.mp hi
    refine ⟨_, rfl, by simp, fun _ => ?_⟩
    have : dIdx (scriptD l) (.int (i : Nat)) = some (stepD (.keep n)) := by
      show atI (l.map stepD) (i : Int) = _
      exact atI_n (by simp [hn])
    simp [this, stepD, hn, amt]
  rw [filt_true]
  have em := o_maxdN ((keepsF l).map fun i => (l[i]?.map amt).getD 0)
  rw [List.map_map] at em
  simp only [Function.comp_def] at em
  rw [em]
  simp [highF, groupsF]
theorem measured_at {l : List Step} (h : okSc l = true) (δ : Dice) : fs_measured.sem [scriptD l] δ = .ok (.tup [.int (costF l), .int (groupsF l), .int (highF l)]) δ := mk1_at (a := cScr) (x := l) h δ
end DF
set_option Elab.async false
set_option linter.all false
set_option maxRecDepth 100000
set_option maxHeartbeats 400000
namespace DF
open PySem PySem.Spec L2 DC
theorem many_fold : ∀ (l : List Step) (st : MSt), (l.foldl stepM st).many = st.many + costF l
  | [], st => by simp [costF]
  | s :: l, st => by
    rw [List.foldl_cons, many_fold l]
    cases s <;> simp [stepM, costF, cost1] <;> omega
theorem maxN_fold : ∀ (ns : List Nat) (x : Nat), ns.foldl max x = max x (maxN ns)
  | [], x => by simp [maxN]
  | n :: ns, x => by
    have e1 := maxN_fold ns (max x n)
    have e2 := maxN_fold ns (max 0 n)
    simp only [maxN, List.foldl_cons] at *
    rw [e1, e2]; omega
theorem maxN_cons (n : Nat) (ns : List Nat) : maxN (n :: ns) = max n (maxN ns) := by
  show ns.foldl max (max 0 n) = _
  rw [maxN_fold, Nat.zero_max]
theorem high_fold : ∀ (l : List Step) (st : MSt), nb l → (st.run = 0 ∨ ∀ n r, l ≠ .keep n :: r) → (l.foldl stepM st).high = max st.high (maxN ((l.filter isK).map amt))
  | [], st, _, _ => by simp [maxN]
  | s :: l, st, hn, hr => by
    rw [List.foldl_cons]
    cases s with
    | keep n =>
      have h0 : st.run = 0 := by
        rcases hr with h | h
        · exact h
        · exact absurd rfl (h n l)
      rw [high_fold l _ (nb_tail hn) (.inr fun m r e => by subst e; exact hn.1.1 rfl)]
      rw [List.filter_cons, if_pos (show isK (.keep n) = true from rfl), List.map_cons, maxN_cons]
      simp [stepM, amt, h0, Nat.max_assoc]
    | drop n =>
      rw [high_fold l _ (nb_tail hn) (.inl rfl), List.filter_cons, if_neg (show ¬ isK (.drop n) = true from Bool.false_ne_true)]
      simp [stepM]
    | put n =>
      rw [high_fold l _ (nb_tail hn) (.inl rfl), List.filter_cons, if_neg (show ¬ isK (.put n) = true from Bool.false_ne_true)]
      simp [stepM]
theorem high_list (l : List Step) : (keepsF l).map (fun i => (l[i]?.map amt).getD 0) = (l.filter isK).map amt := by
  unfold keepsF
  rw [List.map_map]
  have e1 : (l.zipIdx.filter fun q => isK q.1).map ((fun i => (l[i]?.map amt).getD 0) ∘ fun q => q.2) = (l.zipIdx.filter fun q => isK q.1).map fun q => amt q.1 := by
    refine List.map_congr_left fun q hq => ?_
    have h1 := (List.mem_filter.mp hq).1
    have h2 := List.mem_zipIdx_iff_getElem?.mp h1
    simp [h2]
  rw [e1]
  have e2 : ∀ (l : List Step) (k : Nat), ((l.zipIdx k).filter fun q => isK q.1).map (fun q => amt q.1) = (l.filter isK).map amt := by
    intro l
    induction l with
    | nil => intro k; rfl
    | cons s l ih =>
      intro k
      rw [List.zipIdx_cons, List.filter_cons, List.filter_cons]
      by_cases h : isK s = true
      · simp only [h, if_true, List.map_cons, ih]
      · rw [if_neg h, if_neg h, ih]
  exact e2 l 0
theorem grp_fold {l0 : List Step} : ∀ (l pre : List Step) (st : MSt), pre ++ l = l0 → (st.new = true ↔ pre = [] ∨ ∃ p n, pre = p ++ [.keep n]) → (l.foldl stepM st).groups = st.groups + ((l.zipIdx pre.length).filter fun q => !isK q.1 && (decide (q.2 = 0) || decide (q.2 - 1 ∈ keepsF l0))).length
  | [], pre, st, h, hn => by simp
  | s :: l, pre, st, h, hn => by
    have hc : (decide (pre.length = 0) || decide (pre.length - 1 ∈ keepsF l0)) = st.new := by
      rw [Bool.eq_iff_iff, hn]
      simp only [Bool.or_eq_true, decide_eq_true_eq, keep_mem]
      constructor
      · rintro (h1 | ⟨n, h1⟩)
        · exact .inl (List.length_eq_zero_iff.mp h1)
        · by_cases hp : pre = []
          · exact .inl hp
          · right
            have hl : 0 < pre.length := List.length_pos_iff.mpr hp
            rw [← h, List.getElem?_append_left (by omega)] at h1
            refine ⟨pre.dropLast, n, ?_⟩
            have := List.dropLast_concat_getLast hp
            rw [← this]
            have e2 : pre.getLast hp = .keep n := by
              rw [List.getLast_eq_getElem]
              have := List.getElem?_eq_getElem (l := pre) (show pre.length - 1 < pre.length by omega)
              rw [this] at h1
              simpa using h1
            rw [e2, List.dropLast_concat]
      · rintro (h1 | ⟨p, n, h1⟩)
        · exact .inl (by simp [h1])
        · right
          refine ⟨n, ?_⟩
          rw [← h, h1]
          simp
    have ih := grp_fold (l0 := l0) l (pre ++ [s]) (stepM st s) (by rw [← h]; simp) (by
      cases s with
      | keep n => simp [stepM]
      | drop n => simp [stepM]
      | put n => simp [stepM])
    rw [List.foldl_cons, ih, List.zipIdx_cons, List.filter_cons, List.length_append]
    simp only [hc]
    cases s with
    | keep n => simp [isK, stepM]
    | drop n => cases hh : st.new <;> simp [isK, stepM, hh] <;> omega
    | put n => cases hh : st.new <;> simp [isK, stepM, hh] <;> omega
theorem measured_eq {l : List Step} (h : nb l) : D.tup [.int (costF l), .int (groupsF l), .int (highF l)] = measD (meas l) := by
  have e1 := many_fold l ⟨0, 0, 0, 0, true⟩
  have e2 := high_fold l ⟨0, 0, 0, 0, true⟩ h (.inl rfl)
  have e3 := grp_fold (l0 := l) l [] ⟨0, 0, 0, 0, true⟩ rfl (by simp)
  unfold measD meas highF groupsF
  rw [e1, e2, e3, high_list]
  simp
theorem meas_plain {l : List Step} (h : ∀ s ∈ l, okStep s = true) : meas (plainF l) = meas l := by
  refine ((plain_cg h).fold stepM ?_ ?_ ?_ ?_ _).symm
  · intro s n m; simp [stepM]; omega
  · intro s n m; simp [stepM]; omega
  · intro s n m; simp [stepM]; omega
  · intro s n m; simp [stepM]; omega
def swT (rows : List (List Nat)) : Nat → List KDP → List KDP
  | _, [] => []
  | a, x :: r => (x.1, x.2.2.length, (rows.drop (a + x.1)).take x.2.1) :: swT rows (a + x.1 + x.2.1) r
theorem sw_prs {rows other : List (List Nat)} : ∀ {t : List KDP} {a b : Nat}, okT rows.length other a b t → prs b a (swT rows a t) = (prs a b t).map fun p => (p.2, p.1)
  | [], a, b, _ => rfl
  | x :: t, a, b, h => by
    have hl := okT_le h.2
    have ih := sw_prs h.2
    have el : ((rows.drop (a + x.1)).take x.2.1).length = x.2.1 := by simp; omega
    rw [swT, prs, prs, List.map_append, el, ih]
    congr 1
    simp [runP, Function.comp_def]
theorem sw_ok {rows other : List (List Nat)} : ∀ {t : List KDP} {a b : Nat}, okT rows.length other a b t → okT other.length rows b a (swT rows a t)
  | [], a, b, h => ⟨h.2, h.1⟩
  | x :: t, a, b, h => by
    have hl := okT_le h.2
    have ih := sw_ok h.2
    have el : ((rows.drop (a + x.1)).take x.2.1).length = x.2.1 := by simp; omega
    rw [swT, okT]
    simp only [el]
    exact ⟨trivial, ih⟩
theorem sw_nz {rows : List (List Nat)} {x : KDP} {a : Nat} (h : a + x.1 + x.2.1 ≤ rows.length) : nz (x.1, x.2.2.length, (rows.drop (a + x.1)).take x.2.1) ↔ nz x := by
  have el : ((rows.drop (a + x.1)).take x.2.1).length = x.2.1 := by simp; omega
  unfold nz
  simp only
  rw [← List.length_pos_iff (l := x.2.2), ← List.length_pos_iff (l := (rows.drop (a + x.1)).take x.2.1), el]
  exact Or.comm
theorem sw_wfT {rows other : List (List Nat)} : ∀ {t : List KDP} {a b : Nat}, okT rows.length other a b t → wfT t → wfT (swT rows a t)
  | [], a, b, h, w => trivial
  | [x], a, b, h, w => w
  | x :: y :: r, a, b, h, w => ⟨w.1, (sw_nz (okT_le h.2).1).mpr w.2.1, sw_wfT h.2 w.2.2⟩
theorem sw_wf {rows other : List (List Nat)} : ∀ {t : List KDP} {a b : Nat}, okT rows.length other a b t → wf t → wf (swT rows a t)
  | [], a, b, h, w => trivial
  | [x], a, b, h, w => by
    rcases w with w | w
    · exact .inl w
    · exact .inr ((sw_nz (okT_le h.2).1).mpr w)
  | x :: y :: r, a, b, h, w => ⟨(sw_nz (okT_le h.2).1).mpr w.1, sw_wfT h.2 w.2⟩
def mK (st : MSt) (k : Nat) : MSt := if 0 < k then ⟨st.many, st.groups, max st.high (st.run + k), st.run + k, true⟩ else st
def mDP (st : MSt) (n : Nat) : MSt := if 0 < n then ⟨st.many + n, st.groups + st.new.toNat, st.high, 0, false⟩ else st
theorem m_one (x : KDP) (st : MSt) : (kdp1 x).foldl stepM st = mDP (mK st x.1) (x.2.1 + x.2.2.length) := by
  obtain ⟨k, d, p⟩ := x
  unfold kdp1
  rw [List.foldl_append, List.foldl_append]
  have e1 : (Ks k).foldl stepM st = mK st k := by
    unfold Ks mK
    split <;> rfl
  rw [e1]
  generalize mK st k = st
  unfold Ds Ps mDP
  by_cases h2 : 0 < d
  · by_cases h3 : p = []
    · simp [h2, h3, stepM]
    · have : 0 < d + p.length := by omega
      simp [h2, h3, stepM, this]; omega
  · have h0 : d = 0 := by omega
    subst h0
    by_cases h3 : p = []
    · simp [h3]
    · have : 0 < p.length := List.length_pos_iff.mpr h3
      simp [h3, stepM, this]
theorem sw_meas {rows other : List (List Nat)} : ∀ {t : List KDP} {a b : Nat} (st : MSt), okT rows.length other a b t → (kdpS (swT rows a t)).foldl stepM st = (kdpS t).foldl stepM st
  | [], a, b, st, h => rfl
  | x :: t, a, b, st, h => by
    have hl := okT_le h.2
    have el : ((rows.drop (a + x.1)).take x.2.1).length = x.2.1 := by simp; omega
    rw [swT, show ∀ (y : KDP) r, y :: r = [y] ++ r from fun _ _ => rfl, kdpS_app, kdpS_one, show x :: t = [x] ++ t from rfl, kdpS_app, kdpS_one, List.foldl_append, List.foldl_append, m_one, m_one, sw_meas _ h.2]
    simp only [el]
    rw [Nat.add_comm x.2.2.length]
end DF
set_option Elab.async false
set_option linter.all false
set_option maxRecDepth 100000
set_option maxHeartbeats 400000
namespace DF
open PySem PySem.Spec L2 DC
def N_turned : List Str := ["script", "rows", "i", "j"]
def md_turned : List Bool := []
def s_turned : Sm := (.seq (.exp (.call "need_script" false 0 (.cons (.var 0) .nil) .nil)) (.seq (.exp (.call "need_rows" false 0 (.cons (.var 1) .nil) .nil)) (.seq (.ret (.call "by_pairs" false 0 (.cons (.op .len (.cons (.call "followed" false 0 (.cons (.var 0) (.cons (.var 1) .nil)) .nil) .nil)) (.cons (.var 1) (.cons (.comp [2, 3] (.cons (.nm 2) (.cons (.nm 3) .nil)) (.call "paired" false 0 (.cons (.var 0) .nil) .nil) (.cst (.bl true)) (.op .tupd (.cons (.var 3) (.cons (.var 2) .nil)))) .nil))) .nil)) .skip)))
def swapP (l : List (Nat × Nat)) : List (Nat × Nat) := l.map fun p => (p.2, p.1)
def okTu (l : List Step) (rows : List (List Nat)) : Bool := okSc l && (areRowsD (rowsD rows) == some true) && (match givesF rows l with
  | some other => okBy other.length rows (swapP (pairsF l))
  | none => false)
def turnF (l : List Step) (rows : List (List Nat)) : List Step := plainF (rawF ((givesF rows l).getD []).length rows 0 0 (swapP (pairsF l)))
def fs_turned : Fs := mk2 cScr cRows okTu fun l rows => scriptD (turnF l rows)
@[simp] theorem dice_turned : fs_turned.dice = false := id rfl
@[simp] theorem pats_turned : fs_turned.pats = [(2, [], none)] := id rfl
@[simp] theorem dice_need_rows : fs_need_rows.dice = false := id rfl
@[simp] theorem pats_need_rows : fs_need_rows.pats = [(1, [], none)] := id rfl
theorem need_rows_at {x : List (List Nat)} (h : areRowsD (rowsD x) = some true) (δ : Dice) : fs_need_rows.sem [rowsD x] δ = .ok .non δ := by
  simp only [fs_need_rows, sem1_at, h]
  rfl
theorem sem_turned {Γ : Glo} (h1 : Γ.fn "need_script" = some fs_need_script) (h2 : Γ.fn "need_rows" = some fs_need_rows) (h3 : Γ.fn "followed" = some fs_followed) (h4 : Γ.fn "paired" = some fs_paired) (h5 : Γ.fn "by_pairs" = some fs_by_pairs) : Does Γ md_turned 4 s_turned fs_turned := does2 (a := cScr) (b := cRows) 0 fun l rows δ hl => by
  simp only [okTu, Bool.and_eq_true, beq_iff_eq] at hl
  obtain ⟨⟨k1, k2⟩, k3⟩ := hl
  cases hg : givesF rows l with
  | none => rw [hg] at k3; cases k3
  | some other =>
    rw [hg] at k3
    simp only at k3
    have hr : rows.length ≤ 1000 := by
      have := k3
      simp only [okBy, Bool.and_eq_true, decide_eq_true_eq] at this
      omega
    show Wp (exS Γ [] false 0 s_turned [some (scriptD l), some (rowsD rows), none, none] δ) _
    simp [s_turned, h1, h2, h3, h4, h5, need_at k1, need_rows_at k2, followed_at k1 hr hg, paired_at k1]
    refine compA pairD (fun _ => true) (fun p => pairD (p.2, p.1)) (fun p _ => ⟨_, rfl, by simp, fun _ => by simp [pairD]⟩) ?_
    rw [filt_true]
    have e : D.lst ((pairsF l).map fun p => pairD (p.2, p.1)) = pairsD (swapP (pairsF l)) := by simp [pairsD, swapP, Function.comp_def]
    rw [e]
    simp [by_at k3, turnF, hg]
theorem turned_at {l : List Step} {rows : List (List Nat)} (h : okTu l rows = true) (δ : Dice) : fs_turned.sem [scriptD l, rowsD rows] δ = .ok (scriptD (turnF l rows)) δ := mk2_at (a := cScr) (b := cRows) (x := l) (y := rows) h δ
def fs_measure : Fs := mk1 cScr (fun l => okSc l && okSc (plainF l)) fun l => measD (meas l)
@[simp] theorem dice_measure : fs_measure.dice = false := id rfl
@[simp] theorem pats_measure : fs_measure.pats = [(1, [], none)] := id rfl
theorem sem_measure {Γ : Glo} (h1 : Γ.fn "need_script" = some fs_need_script) (h2 : Γ.fn "plain_of" = some fs_plain_of) (h3 : Γ.fn "measured" = some fs_measured) : Does Γ md_measure 1 s_measure fs_measure := does1 (a := cScr) 0 fun l δ hl => by
  simp only [Bool.and_eq_true] at hl
  obtain ⟨k1, k2⟩ := hl
  have hs := (okSc_iff.mp k1).2
  obtain ⟨t, hw, ht⟩ := plain_wf hs
  have hn : nb (plainF l) := by rw [ht]; exact nb_wf hw
  have em := measured_eq hn
  rw [meas_plain hs] at em
  have hat := measured_at k2
  rw [em] at hat
  show Wp (exS Γ [] false 0 s_measure [some (scriptD l)] δ) _
  simp [s_measure, h1, h2, h3, need_at k1, plain_at k1, hat]
theorem measure_at {l : List Step} (h : okSc l = true) (h2 : okSc (plainF l) = true) (δ : Dice) : fs_measure.sem [scriptD l] δ = .ok (measD (meas l)) δ := mk1_at (a := cScr) (x := l) (by rw [h, h2]; rfl) δ
end DF
set_option Elab.async false
set_option linter.all false
set_option maxRecDepth 100000
set_option maxHeartbeats 400000
namespace DF
open PySem PySem.Spec L2 DC
theorem takes_K (k : Nat) : takesF (Ks k) = k := by
  unfold Ks
  split
  · show k + 0 = k; rfl
  · show 0 = k; omega
theorem takes_D (k : Nat) : takesF (Ds k) = k := by
  unfold Ds
  split
  · show k + 0 = k; rfl
  · show 0 = k; omega
theorem takes_P (p : List (List Nat)) : takesF (Ps p) = 0 := by
  unfold Ps
  split <;> rfl
theorem takes_kdp (x : KDP) : takesF (kdp1 x) = x.1 + x.2.1 := by
  unfold kdp1
  rw [takes_app, takes_app, takes_K, takes_D, takes_P]; rfl
theorem puts_kdp (x : KDP) : putsF (kdp1 x) = x.2.2 := by
  obtain ⟨k, d, p⟩ := x
  unfold kdp1 Ks Ds Ps
  rw [puts_app, puts_app]
  split <;> split <;> split <;> simp_all [putsF, put1]
theorem okT_size {m : Nat} {o : List (List Nat)} : ∀ {t : List KDP} {a b : Nat}, okT m o a b t → a + takesF (kdpS t) = m ∧ b + (putsF (kdpS t)).length ≤ o.length ∧ ∀ x ∈ putsF (kdpS t), x ∈ o
  | [], a, b, h => by simp [kdpS, takesF, putsF]; exact ⟨h.1, by have := h.2; omega⟩
  | x :: t, a, b, h => by
    obtain ⟨i1, i2, i3⟩ := okT_size h.2
    have hl := okT_le h.2
    rw [show x :: t = [x] ++ t from rfl, kdpS_app, kdpS_one, takes_app, puts_app, takes_kdp, puts_kdp]
    refine ⟨by omega, by simp; omega, fun y hy => ?_⟩
    rcases List.mem_append.mp hy with hy | hy
    · rw [← h.1] at hy
      exact List.mem_of_mem_drop (List.mem_of_mem_take hy)
    · exact i3 y hy
theorem T_ok {m : Nat} {o : List (List Nat)} {t : List KDP} (h : okT m o 0 0 t) (hb : m + o.length ≤ 1000) (hr : ∀ x ∈ o, rowB x = true) : okSc (kdpS t) = true := by
  obtain ⟨i1, i2, i3⟩ := okT_size h
  exact kdp_ok (by omega) fun x hx => hr x (i3 x hx)
theorem T_len {m : Nat} {o : List (List Nat)} {t : List KDP} (hw : wf t) (h : okT m o 0 0 t) : t.length ≤ m + o.length := by
  obtain ⟨i1, i2, i3⟩ := okT_size h
  have := wf_len hw
  have := kdp_lenS (t := t)
  omega
theorem T_uniq {m : Nat} {o : List (List Nat)} {t t' : List KDP} (hw : wf t) (h : okT m o 0 0 t) (hw' : wf t') (h' : okT m o 0 0 t') (hb : m + o.length ≤ 1000) (e : prs 0 0 t = prs 0 0 t') : kdpS t = kdpS t' := by
  have a := lby_at (Γ := ⟨fun _ => none, fun _ => none⟩) hw h (by omega) (by omega) (by have := T_len hw h; omega) default
  have b := lby_at (Γ := ⟨fun _ => none, fun _ => none⟩) hw' h' (by omega) (by omega) (by have := T_len hw' h'; omega) default
  rw [← e, a] at b
  exact scr_inj.mp (by injection b)
theorem run_at {rows o : List (List Nat)} {a b : Nat} : ∀ {k : Nat}, a + k ≤ rows.length → b + k ≤ o.length → (∀ p ∈ runP a b k, rows[p.1]? = o[p.2]?) → (rows.drop a).take k = (o.drop b).take k := by
  intro k h1 h2 h
  refine List.ext_getElem? fun i => ?_
  by_cases hi : i < k
  · rw [List.getElem?_take, List.getElem?_take, if_pos hi, if_pos hi, List.getElem?_drop, List.getElem?_drop]
    exact h (a + i, b + i) (mem_run.mpr ⟨i, hi, rfl, rfl⟩)
  · rw [List.getElem?_take, List.getElem?_take, if_neg hi, if_neg hi]
theorem T_g {rows o : List (List Nat)} : ∀ {t : List KDP} {a b : Nat}, okT rows.length o a b t → (∀ p ∈ prs a b t, rows[p.1]? = o[p.2]?) → (kdpS t).foldl (stepG rows) (some ⟨a, o.take b⟩) = some ⟨rows.length, o⟩
  | [], a, b, h, _ => by
    obtain ⟨rfl, rfl⟩ := h
    simp [kdpS]
  | x :: t, a, b, h, hp => by
    have hl := okT_le h.2
    rw [show x :: t = [x] ++ t from rfl, kdpS_app, kdpS_one, List.foldl_append, g_one rows x _ (by simp only; omega), if_pos (by simp only; omega)]
    have e1 := run_at (k := x.1) (a := a) (b := b) (rows := rows) (o := o) (by omega) (by omega) fun p hp' => hp p (List.mem_append.mpr (.inl hp'))
    have e2 : o.take b ++ (rows.drop a).take x.1 ++ x.2.2 = o.take (b + x.1 + x.2.2.length) := by
      rw [e1, List.take_add, List.take_add, h.1]
    simp only [e2]
    exact T_g h.2 fun p hp' => hp p (List.mem_append.mpr (.inr hp'))
theorem T_gives {rows o : List (List Nat)} {t : List KDP} (h : okT rows.length o 0 0 t) (hp : ∀ p ∈ prs 0 0 t, rows[p.1]? = o[p.2]?) : givesF rows (kdpS t) = some o := by
  unfold givesF
  have := T_g h hp
  rw [List.take_zero] at this
  rw [this]
  simp
theorem inc_mono {m n : Nat} : ∀ {ps : List (Nat × Nat)} {a t a' t' : Nat}, a ≤ a' → t ≤ t' → incB m n a' t' ps = true → incB m n a t ps = true
  | [], a, t, a', t', h1, h2, h => by have := inc_nil.mp h; exact inc_nil.mpr ⟨by omega, by omega⟩
  | (i, j) :: r, a, t, a', t', h1, h2, h => by
    obtain ⟨g1, g2, g3, g4, g5⟩ := inc_cons.mp h
    exact inc_cons.mpr ⟨by omega, g2, by omega, g4, g5⟩
theorem runP_succ (a t k : Nat) : runP a t (k + 1) = (a, t) :: runP (a + 1) (t + 1) k := by
  rw [show k + 1 = 1 + k by omega, runP_add]
  simp [runP]
theorem inc_run {m n : Nat} {ps : List (Nat × Nat)} : ∀ {k a t : Nat}, incB m n (a + k) (t + k) ps = true → a + k ≤ m → t + k ≤ n → incB m n a t (runP a t k ++ ps) = true
  | 0, a, t, h, _, _ => by simpa [runP] using h
  | k + 1, a, t, h, h1, h2 => by
    rw [runP_succ, List.cons_append]
    exact inc_cons.mpr ⟨Nat.le_refl _, by omega, Nat.le_refl _, by omega, inc_run (by rw [show a + 1 + k = a + (k + 1) by omega, show t + 1 + k = t + (k + 1) by omega]; exact h) (by omega) (by omega)⟩
theorem prs_inc {m : Nat} {o : List (List Nat)} : ∀ {t : List KDP} {a b : Nat}, okT m o a b t → incB m o.length a b (prs a b t) = true
  | [], a, b, h => by
    obtain ⟨rfl, rfl⟩ := h
    exact inc_nil.mpr ⟨Nat.le_refl _, Nat.le_refl _⟩
  | x :: t, a, b, h => by
    have hl := okT_le h.2
    exact inc_run (inc_mono (by omega) (by omega) (prs_inc h.2)) (by omega) (by omega)
theorem T_idem {m : Nat} {o : List (List Nat)} {t : List KDP} (hw : wf t) (h : okT m o 0 0 t) (hb : m + o.length ≤ 1000) (hr : ∀ x ∈ o, rowB x = true) : plainF (kdpS t) = kdpS t := by
  have hi := prs_inc h
  have hl := fab_len hi
  rw [Nat.sub_zero] at hl
  have hg := T_gives (rows := fab m o 0 (prs 0 0 t)) (by rw [hl]; exact h) fun p hp => (fab_at hi p hp).2
  obtain ⟨i1, i2, i3⟩ := okT_size h
  exact plain_idem hw (by rw [hl]; omega) (by omega) hg (T_ok h hb hr) (by omega)
theorem by_full {many : Nat} {other : List (List Nat)} {ps : List (Nat × Nat)} (h : okBy many other ps = true) : ∃ t, wf t ∧ plainF (rawF many other 0 0 ps) = kdpS t ∧ okT many other 0 0 t ∧ prs 0 0 t = ps ∧ okSc (kdpS t) = true ∧ plainF (kdpS t) = kdpS t := by
  obtain ⟨t, h1, h2, h3, h4⟩ := by_T h
  simp only [okBy, Bool.and_eq_true, decide_eq_true_eq, List.all_eq_true] at h
  exact ⟨t, h1, h2, h3, h4, T_ok h3 (by omega) h.1.2, T_idem h1 h3 (by omega) h.1.2⟩
theorem puts_le {pot : List (List Nat)} : ∀ {l : List Step}, (∀ s ∈ l, okP pot s) → (putsF l).length ≤ 4 * l.length ∧ ∀ x ∈ putsF l, x ∈ pot
  | [], _ => by simp [putsF]
  | s :: l, h => by
    obtain ⟨a, b⟩ := puts_le fun x hx => h x (List.mem_cons_of_mem _ hx)
    have hs := h s (by simp)
    rw [puts_cons, List.length_append, List.length_cons]
    cases s with
    | keep n => simp only [put1, List.length_nil, List.nil_append]; exact ⟨by omega, b⟩
    | drop n => simp only [put1, List.length_nil, List.nil_append]; exact ⟨by omega, b⟩
    | put r =>
      obtain ⟨c, d⟩ := hs.2 r rfl
      simp only [put1]
      exact ⟨by omega, fun x hx => (List.mem_append.mp hx).elim (d x) (b x)⟩
structure Drawn (rows : List (List Nat)) (l : List Step) (t : List KDP) (other : List (List Nat)) : Prop where
  w : wf t
  p : plainF l = kdpS t
  k : okSc (kdpS t) = true
  i : plainF (kdpS t) = kdpS t
  g : givesF rows l = some other
  n : other.length ≤ 200
  o : okT rows.length other 0 0 t
  q : prs 0 0 t = pairsF l
theorem drawn {pot rows : List (List Nat)} {l : List Step} (p1 : ∀ r ∈ pot, rowB r = true) (r1 : rows.length ≤ 30) (k1 : okSc l = true) (k2 : l.length ≤ 42) (k3 : takesF l = rows.length) (k4 : ∀ s ∈ l, okP pot s) : ∃ t other, Drawn rows l t other := by
  have hs := (okSc_iff.mp k1).2
  obtain ⟨t, hw, ht⟩ := plain_wf hs
  have E := plain_eqv hs
  obtain ⟨q1, q2⟩ := puts_le k4
  have hgs := plain_gives hs rows
  have hps := plain_pairs hs
  rw [ht] at E hgs hps
  have hb : takesF (kdpS t) + (putsF (kdpS t)).length ≤ 1000 := by rw [← E.t, ← E.p]; omega
  have hk : okSc (kdpS t) = true := kdp_ok hb fun x hx => p1 x (q2 x (E.p ▸ hx))
  obtain ⟨other, g1, g2⟩ := gives_some k3
  have gl := glen_le l
  have ho : other.length ≤ 200 := by omega
  rw [g1] at hgs
  exact ⟨t, other, hw, ht, hk, plain_idem hw (by omega) (by omega) hgs hk hb, g1, ho, gives_T hgs, by rw [← pairs_kdp, hps]⟩
end DF
set_option Elab.async false
set_option linter.all false
set_option maxRecDepth 100000
set_option maxHeartbeats 400000
namespace DF
open PySem PySem.Spec L2 DC
theorem pl_meas (m : MSt) : pl (measD m) := ⟨by simp [measD, shp_iff, D.dep, deps], by simp [measD, nobl, nobls]⟩
theorem ne_meas_self (m : MSt) : opv .ne [measD m, measD m] = some (.bl false) := ne_pl (p := True) (pl_meas m) (pl_meas m) (by simp)
theorem meas_zero (d : Nat) : D.tup [.int 0, .int 0, .int d] = measD ⟨0, 0, d, 0, true⟩ := rfl
end DF
namespace K29
open PySem PySem.Spec L2 DC DF
def N_law : List Str := ["script", "dice", "pot", "rows", "steps", "found"]
def md_law : List Bool := []
def s_law : Sm := (.seq (.asg 2 (.call "_law_pot" true 0 .nil .nil)) (.seq (.asg 3 (.call "_law_draw" true 0 (.cons (.var 2) (.cons (.cst (.int 14)) .nil)) .nil)) (.seq (.asg 4 (.call "_law_script" true 0 (.cons (.var 3) (.cons (.var 2) .nil)) .nil)) (.seq (.asg 5 (.call "measure" false 0 (.cons (.var 4) .nil) .nil)) (.seq (.iff (.or (.op .ne (.cons (.var 5) (.cons (.call "_law_measure" false 0 (.cons (.var 4) .nil) .nil) .nil))) (.or (.op .ne (.cons (.var 5) (.cons (.call "measure" false 0 (.cons (.call "plainly" false 0 (.cons (.var 4) .nil) .nil) .nil) .nil) .nil))) (.op .ne (.cons (.op .idx (.cons (.var 5) (.cons (.cst (.int 0)) .nil))) (.cons (.call "cost" false 0 (.cons (.var 4) .nil) .nil) .nil))))) (.seq (.ret (.cst (.bl false))) .skip) .skip) (.seq (.iff (.or (.op .ne (.cons (.call "measure" false 0 (.cons (.op .tupd .nil) .nil) .nil) (.cons (.op .tupd (.cons (.cst (.int 0)) (.cons (.cst (.int 0)) (.cons (.cst (.int 0)) .nil)))) .nil))) (.op .ne (.cons (.call "measure" false 0 (.cons (.op .tupd (.cons (.op .tupd (.cons (.cst (.str [107, 101, 101, 112])) (.cons (.cst (.int 3)) .nil))) (.cons (.op .tupd (.cons (.cst (.str [107, 101, 101, 112])) (.cons (.cst (.int 4)) .nil))) .nil))) .nil) .nil) (.cons (.op .tupd (.cons (.cst (.int 0)) (.cons (.cst (.int 0)) (.cons (.cst (.int 7)) .nil)))) .nil)))) (.seq (.ret (.cst (.bl false))) .skip) .skip) (.seq (.iff (.op .ne (.cons (.call "measure" false 0 (.cons (.call "turned" false 0 (.cons (.var 4) (.cons (.var 3) .nil)) .nil) .nil) .nil) (.cons (.var 5) .nil))) (.seq (.ret (.cst (.bl false))) .skip) .skip) .skip)))))))
theorem law29 {Γ Γa Γb Γc : Glo} (ha : Γa.fn "_law_roll" = some fs__law_roll) (h1 : Γ.fn "_law_pot" = some (fs__law_pot Γa)) (hb : Γb.fn "_law_roll" = some fs__law_roll) (h2 : Γ.fn "_law_draw" = some (fs__law_draw Γb)) (hc : Γc.fn "_law_roll" = some fs__law_roll) (h3 : Γ.fn "_law_script" = some (fs__law_script Γc))
    (h4 : Γ.fn "plainly" = some fs_plainly) (h5 : Γ.fn "_law_measure" = some fs__law_measure) (h6 : Γ.fn "measure" = some fs_measure) (h7 : Γ.fn "cost" = some fs_cost) (h8 : Γ.fn "turned" = some fs_turned) (cell : Int) :
    ∃ m ρ' δ', exS Γ md_law false m s_law (List.replicate 6 none) (cell, 0, []) = .nx ρ' δ' ∨ exS Γ md_law false m s_law (List.replicate 6 none) (cell, 0, []) = .ct ρ' δ' := by
  refine hrun_of (m := 0) ?_
  show Wp (exS Γ [] false 0 s_law [none, none, none, none, none, none] (cell, 0, [])) _
  unfold s_law
  simp [h1, h2, h3, h4, h5, h6, h7, h8]
  refine pot_we ha fun pot δ1 hpot => ?_
  obtain ⟨p1, p2, p3, p4, p5⟩ := pot_rows hpot
  refine draw_we hb (most := 14) p3 p4 (by decide) fun rows δ2 r1 r2 => ?_
  refine script_we hc p3 p4 p1 (by omega) fun l δ3 k1 k2 k3 k4 => ?_
  obtain ⟨t, other, F⟩ := drawn p1 (show rows.length ≤ 30 by omega) k1 k2 k3 k4
  have hs := (okSc_iff.mp k1).2
  have kp : okSc (plainF l) = true := F.p ▸ F.k
  have kp2 : okSc (plainF (plainF l)) = true := by rw [F.p, F.i]; exact F.k
  have em : meas (plainF l) = meas l := meas_plain hs
  have ec : (meas l).many = costF l := by
    have := many_fold l ⟨0, 0, 0, 0, true⟩
    simpa [meas] using this
  have e0 : fs_measure.sem [.tup []] (0, 0, []) = .ok (measD ⟨0, 0, 0, 0, true⟩) (0, 0, []) := measure_at (l := []) (by decide) (by decide) _
  have e7 : fs_measure.sem [.tup [.tup [.str [107, 101, 101, 112], .int 3], .tup [.str [107, 101, 101, 112], .int 4]]] (0, 0, []) = .ok (measD ⟨0, 0, 7, 7, true⟩) (0, 0, []) := measure_at (l := [.keep 3, .keep 4]) (by decide) (by decide) _
  have rr : ∀ x ∈ rows, rowB x = true := fun x hx => p1 x (r2 x hx)
  have hw' := sw_wf F.o F.w
  have ho' := sw_ok F.o
  have hq' : prs 0 0 (swT rows 0 t) = swapP (pairsF l) := by rw [sw_prs F.o, F.q]; rfl
  have hin := prs_inc ho'
  rw [hq'] at hin
  have hby : okBy other.length rows (swapP (pairsF l)) = true := by
    simp only [okBy, Bool.and_eq_true, decide_eq_true_eq, List.all_eq_true]
    exact ⟨⟨⟨by have := F.n; omega, by omega⟩, rr⟩, hin⟩
  have htu : okTu l rows = true := by
    simp only [okTu, k1, ar_of rr (show rows.length ≤ 60 by omega), F.g, hby]
    rfl
  obtain ⟨t', w', e', o', q', k', i'⟩ := by_full hby
  have et : turnF l rows = kdpS t' := by simp only [turnF, F.g, Option.getD_some]; exact e'
  have eu : kdpS t' = kdpS (swT rows 0 t) := T_uniq w' o' hw' ho' (by have := F.n; omega) (by rw [q', hq'])
  have ems : meas (turnF l rows) = meas l := by
    rw [et, eu, ← em, F.p]
    exact sw_meas _ F.o
  have kt : okSc (turnF l rows) = true := et ▸ k'
  have kt2 : okSc (plainF (turnF l rows)) = true := by rw [et, i']; exact k'
  simp [measure_at k1 kp, lmeas_at k1, ne_meas_self, plainly_at k1, measure_at kp kp2, em, cost_at k1, e0, e7, turned_at htu, measure_at kt kt2, ems]
  have d0 : dIdx (measD (meas l)) (.int 0) = some (.int (costF l)) := by rw [← ec]; rfl
  have z0 : opv .ne [measD ⟨0, 0, 0, 0, true⟩, .tup [.int 0, .int 0, .int 0]] = some (.bl false) := ne_meas_self ⟨0, 0, 0, 0, true⟩
  have z7 : opv .ne [measD ⟨0, 0, 7, 7, true⟩, .tup [.int 0, .int 0, .int 7]] = some (.bl false) := ne_meas_self ⟨0, 0, 7, 7, true⟩
  simp [d0, z0, z7]
end K29
set_option Elab.async false
set_option linter.all false
set_option maxRecDepth 100000
set_option maxHeartbeats 0
namespace K29
open PySem PySem.Spec PyProof.Rows L2 He DC DF
def top (i : Nat) : Stmt := PySem.Challenge.pw_diffcourt_k29_whole_measures.main.body.getD i (.Pass ⟨0, 0, 0, 0⟩)
def df (x : Str) (i : Nat) (dfl : List Dv) (kwd : List (Str × Dv)) : DefD := ⟨(x, none), x, x, defArgs (top i), defBody (top i), defScope (top i), dfl, kwd⟩
def d_is_number : DefD := df "is_number" 7 [.non] []
def d_is_row : DefD := df "is_row" 8 [] []
def d_are_rows : DefD := df "are_rows" 9 [] []
def d_need_rows : DefD := df "need_rows" 10 [] []
def d_is_step : DefD := df "is_step" 12 [] []
def d_form_fault : DefD := df "form_fault" 13 [] []
def d_need_script : DefD := df "need_script" 14 [] []
def d_followed : DefD := df "followed" 15 [] []
def d_cost : DefD := df "cost" 16 [] []
def d_as_steps : DefD := df "as_steps" 17 [] []
def d_plain_of : DefD := df "plain_of" 18 [] []
def d_plainly : DefD := df "plainly" 19 [] []
def d_paired : DefD := df "paired" 20 [] []
def d_by_pairs : DefD := df "by_pairs" 21 [] []
def d_turned : DefD := df "turned" 22 [] []
def d_measured : DefD := df "measured" 24 [] []
def d_measure : DefD := df "measure" 25 [] []
def d__law_drawn : DefD := df "_law_drawn" 28 [] []
def d__law_roll : DefD := df "_law_roll" 29 [] []
def d__law_pot : DefD := df "_law_pot" 31 [] []
def d__law_draw : DefD := df "_law_draw" 32 [] []
def d__law_script : DefD := df "_law_script" 33 [] []
def d__law_measure : DefD := df "_law_measure" 34 [] []
def d__law_cell : DefD := df "_law_cell" 27 [] []
def d__law_rounds : DefD := df "_law_rounds" 30 [] []
def d_law : DefD := df "law" 35 [] []
def fn : List DefD := [d_is_number, d_is_row, d_are_rows, d_need_rows, d_is_step, d_form_fault, d_need_script, d_followed, d_cost, d_as_steps, d_plain_of, d_plainly, d_paired, d_by_pairs, d_turned, d_measured, d_measure, d__law_drawn, d__law_roll, d__law_pot, d__law_draw, d__law_script, d__law_measure, d__law_cell, d__law_rounds, d_law]
def xb : List (PySem.W.Frag → Bool) := [fun K => (Fa.ok K (.glo "is_number")), fun K => (Fa.ok K (.glo "is_row")), fun K => (Fa.ok K (.glo "are_rows")), fun K => (Fa.ok K (.glo "need_rows")), fun K => (Fa.ok K (.glo "is_step")), fun K => (Fa.ok K (.glo "form_fault")), fun K => (Fa.ok K (.glo "need_script")), fun K => (Fa.ok K (.glo "followed")), fun K => (Fa.ok K (.glo "cost")), fun K => (Fa.ok K (.glo "as_steps")), fun K => (Fa.ok K (.glo "plain_of")), fun K => (Fa.ok K (.glo "plainly")), fun K => (Fa.ok K (.glo "paired")), fun K => (Fa.ok K (.glo "by_pairs")), fun K => (Fa.ok K (.glo "turned")), fun K => (Fa.ok K (.glo "measured")), fun K => (Fa.ok K (.glo "measure")), fun K => (Fa.ok K (.glo "_law_drawn")), fun K => (Fa.ok K (.glo "_law_roll")), fun K => (Fa.ok K (.glo "_law_pot")), fun K => (Fa.ok K (.glo "_law_draw")), fun K => (Fa.ok K (.glo "_law_script")), fun K => (Fa.ok K (.glo "_law_measure")), fun K => (Fa.ok K (.glo "_law_cell")), fun K => (Fa.ok K (.glo "_law_rounds")), fun K => (Fa.ok K (.glo "law")), fun K => (Fa.ok K (.free "len")), fun K => (Fa.ok K (.free "all")), fun K => (Fa.ok K (.free "any")), fun K => (Fa.ok K (.free "sum")), fun K => (Fa.ok K (.free "abs")), fun K => (Fa.ok K (.free "max")), fun K => (Fa.ok K (.free "min")), fun K => (Fa.ok K (.free "list")), fun K => (Fa.ok K (.free "tuple")), fun K => (Fa.ok K (.free "int")), fun K => (Fa.ok K (.free "isinstance")), fun K => (Fa.ok K (.free "str")), fun K => (Fa.ok K (.free "bool")), fun K => (Fa.ok K (.free "range")), fun K => (Fa.ok K (.free "enumerate")), fun K => (Fa.ok K (.free "zip")), fun K => (Fa.ok K (.free "reversed")), fun K => (Fa.ok K (.free "sorted")), fun K => (Fa.ok K (.free "dict")), fun K => (Fa.ok K (.int "MOST_ROWS" 60)), fun K => (Fa.ok K (.int "MOST_SIGNS" 40)), fun K => (Fa.ok K (.glo "BadRows")), fun K => (Fa.ok K (.exc "BadRows"))]
def loose : List Str := ["DiffError", "BadRows", "BadScript", "is_number", "is_row", "are_rows", "need_rows", "is_step", "form_fault", "need_script", "followed", "cost", "as_steps", "plain_of", "plainly", "paired", "by_pairs", "turned", "measured", "measure", "_law_cell", "_law_drawn", "_law_roll", "_law_rounds", "_law_pot", "_law_draw", "_law_script", "_law_measure", "MOST_ROWS", "MOST_SIGNS"]
abbrev R : PySem.W.OpenRow := PySem.W.OpenLaw.row PySem.Challenge.rw_diffcourt_k29_whole_measures
abbrev hk : PySem.W.Hook := hookX 4 xb fn
def ob (s : PySem.W.SharedT) : AlD := obsXG 4 xb fn (HandSHeadRun.getT s)
theorem ob_eq (s : PySem.W.SharedT) : ob s = hk.obs s.abs := obsXG_eq (HandSHeadRun.getT_eq s)
theorem run (w : World) : HandSHeadRun.RunEq R (PySem.W.view R.prog [35]) hk ob 8000 loose w := by
  intro os
  kernel_rfl
def sgT : List (Str × List (Nat × List Str)) := [("is_number", [(2, []), (3, [])]), ("is_row", [(1, [])]), ("are_rows", [(1, [])]), ("need_rows", [(1, [])]), ("is_step", [(1, [])]), ("form_fault", [(1, [])]), ("need_script", [(1, [])]), ("followed", [(2, [])]), ("cost", [(1, [])]), ("as_steps", [(3, [])]), ("plain_of", [(1, [])]), ("plainly", [(1, [])]), ("paired", [(1, [])]), ("by_pairs", [(3, [])]), ("turned", [(2, [])]), ("measured", [(1, [])]), ("measure", [(1, [])]), ("_law_drawn", [(2, [])]), ("_law_roll", [(2, [])]), ("_law_pot", [(1, [])]), ("_law_draw", [(3, [])]), ("_law_script", [(3, [])]), ("_law_measure", [(1, [])]), ("_law_cell", [(2, [])])]
def dcT : List Str := ["_law_roll", "_law_pot", "_law_draw", "_law_script"]
def sg (f : Str) : List (Nat × List Str) := (sgT.lookup f).getD []
def dc (f : Str) : Bool := dcT.contains f
def exN : List Str := ["BadRows"]
def exF (f : Str) : Bool := exN.contains f
def cs (x : Str) : Option D := if x = "MOST_ROWS" then some (.int 60) else if x = "MOST_SIGNS" then some (.int 40) else none
def c_is_number : TrC := { N := N_is_number, md := md_is_number, dk := 3, dc := dc, sg := sg }
def c_is_row : TrC := { N := N_is_row, md := md_is_row, dk := 2, dc := dc, sg := sg }
def c_are_rows : TrC := { N := N_are_rows, md := md_are_rows, dk := 2, dc := dc, sg := sg }
def c_need_rows : TrC := { N := N_need_rows, md := md_need_rows, dk := 1, dc := dc, sg := sg }
def c_is_step : TrC := { N := N_is_step, md := md_is_step, dk := 2, dc := dc, sg := sg }
def c_form_fault : TrC := { N := N_form_fault, md := md_form_fault, dk := 3, dc := dc, sg := sg }
def c_need_script : TrC := { N := N_need_script, md := md_need_script, dk := 2, dc := dc, sg := sg }
def c_followed : TrC := { N := N_followed, md := md_followed, dk := 7, dc := dc, sg := sg }
def c_cost : TrC := { N := N_cost, md := md_cost, dk := 4, dc := dc, sg := sg }
def c_as_steps : TrC := { N := N_as_steps, md := md_as_steps, dk := 4, dc := dc, sg := sg }
def c_plain_of : TrC := { N := N_plain_of, md := md_plain_of, dk := 7, dc := dc, sg := sg }
def c_plainly : TrC := { N := N_plainly, md := md_plainly, dk := 1, dc := dc, sg := sg }
def c_paired : TrC := { N := N_paired, md := md_paired, dk := 7, dc := dc, sg := sg }
def c_by_pairs : TrC := { N := N_by_pairs, md := md_by_pairs, dk := 8, dc := dc, sg := sg }
def c_turned : TrC := { N := N_turned, md := md_turned, dk := 4, dc := dc, sg := sg }
def c_measured : TrC := { N := N_measured, md := md_measured, dk := 8, dc := dc, sg := sg }
def c_measure : TrC := { N := N_measure, md := md_measure, dk := 1, dc := dc, sg := sg }
def c__law_drawn : TrC := { N := N__law_drawn, md := md__law_drawn, dk := 3, dc := dc, sg := sg }
def c__law_roll : TrC := { N := N__law_roll, md := md__law_roll, dk := 0, dc := dc, sg := sg }
def c__law_pot : TrC := { N := N__law_pot, md := md__law_pot, dk := 0, dc := dc, sg := sg }
def c__law_draw : TrC := { N := N__law_draw, md := md__law_draw, dk := 0, dc := dc, sg := sg }
def c__law_script : TrC := { N := N__law_script, md := md__law_script, dk := 0, dc := dc, sg := sg }
def c__law_measure : TrC := { N := N__law_measure, md := md__law_measure, dk := 8, dc := dc, sg := sg }
def c__law_cell : TrC := { N := N__law_cell, md := md__law_cell, dk := 2, dc := dc, sg := sg }
def c__law_rounds : TrC := { N := N__law_rounds, md := md__law_rounds, dk := 3, dc := dc, sg := sg }
def c_law : TrC := { N := N_law, md := md_law, dk := 1, dc := dc, sg := sg }
theorem sc_is_number : FnScope N_is_number ["thing", "low", "high"] (defScope (top 7)) := ⟨rfl, rfl, rfl, by decide +kernel, rfl, by decide +kernel, by decide +kernel⟩
theorem sc_is_row : FnScope N_is_row ["thing"] (defScope (top 8)) := ⟨rfl, rfl, rfl, by decide +kernel, rfl, by decide +kernel, by decide +kernel⟩
theorem sc_are_rows : FnScope N_are_rows ["thing"] (defScope (top 9)) := ⟨rfl, rfl, rfl, by decide +kernel, rfl, by decide +kernel, by decide +kernel⟩
theorem sc_need_rows : FnScope N_need_rows ["thing"] (defScope (top 10)) := ⟨rfl, rfl, rfl, by decide +kernel, rfl, by decide +kernel, by decide +kernel⟩
theorem sc_is_step : FnScope N_is_step ["thing"] (defScope (top 12)) := ⟨rfl, rfl, rfl, by decide +kernel, rfl, by decide +kernel, by decide +kernel⟩
theorem sc_form_fault : FnScope N_form_fault ["thing"] (defScope (top 13)) := ⟨rfl, rfl, rfl, by decide +kernel, rfl, by decide +kernel, by decide +kernel⟩
theorem sc_need_script : FnScope N_need_script ["thing"] (defScope (top 14)) := ⟨rfl, rfl, rfl, by decide +kernel, rfl, by decide +kernel, by decide +kernel⟩
theorem sc_followed : FnScope N_followed ["script", "rows"] (defScope (top 15)) := ⟨rfl, rfl, rfl, by decide +kernel, rfl, by decide +kernel, by decide +kernel⟩
theorem sc_cost : FnScope N_cost ["script"] (defScope (top 16)) := ⟨rfl, rfl, rfl, by decide +kernel, rfl, by decide +kernel, by decide +kernel⟩
theorem sc_as_steps : FnScope N_as_steps ["drops", "puts", "keeps"] (defScope (top 17)) := ⟨rfl, rfl, rfl, by decide +kernel, rfl, by decide +kernel, by decide +kernel⟩
theorem sc_plain_of : FnScope N_plain_of ["script"] (defScope (top 18)) := ⟨rfl, rfl, rfl, by decide +kernel, rfl, by decide +kernel, by decide +kernel⟩
theorem sc_plainly : FnScope N_plainly ["script"] (defScope (top 19)) := ⟨rfl, rfl, rfl, by decide +kernel, rfl, by decide +kernel, by decide +kernel⟩
theorem sc_paired : FnScope N_paired ["script"] (defScope (top 20)) := ⟨rfl, rfl, rfl, by decide +kernel, rfl, by decide +kernel, by decide +kernel⟩
theorem sc_by_pairs : FnScope N_by_pairs ["many", "other", "pairs"] (defScope (top 21)) := ⟨rfl, rfl, rfl, by decide +kernel, rfl, by decide +kernel, by decide +kernel⟩
theorem sc_turned : FnScope N_turned ["script", "rows"] (defScope (top 22)) := ⟨rfl, rfl, rfl, by decide +kernel, rfl, by decide +kernel, by decide +kernel⟩
theorem sc_measured : FnScope N_measured ["script"] (defScope (top 24)) := ⟨rfl, rfl, rfl, by decide +kernel, rfl, by decide +kernel, by decide +kernel⟩
theorem sc_measure : FnScope N_measure ["script"] (defScope (top 25)) := ⟨rfl, rfl, rfl, by decide +kernel, rfl, by decide +kernel, by decide +kernel⟩
theorem sc__law_drawn : FnScope N__law_drawn ["cell", "k"] (defScope (top 28)) := ⟨rfl, rfl, rfl, by decide +kernel, rfl, by decide +kernel, by decide +kernel⟩
theorem sc__law_roll : FnScope N__law_roll ["dice", "many"] (defScope (top 29)) := ⟨rfl, rfl, rfl, by decide +kernel, rfl, by decide +kernel, by decide +kernel⟩
theorem sc__law_pot : FnScope N__law_pot ["dice"] (defScope (top 31)) := ⟨rfl, rfl, rfl, by decide +kernel, rfl, by decide +kernel, by decide +kernel⟩
theorem sc__law_draw : FnScope N__law_draw ["dice", "pot", "most"] (defScope (top 32)) := ⟨rfl, rfl, rfl, by decide +kernel, rfl, by decide +kernel, by decide +kernel⟩
theorem sc__law_script : FnScope N__law_script ["dice", "rows", "pot"] (defScope (top 33)) := ⟨rfl, rfl, rfl, by decide +kernel, rfl, by decide +kernel, by decide +kernel⟩
theorem sc__law_measure : FnScope N__law_measure ["script"] (defScope (top 34)) := ⟨rfl, rfl, rfl, by decide +kernel, rfl, by decide +kernel, by decide +kernel⟩
theorem sc__law_cell : FnScope N__law_cell ["script", "k"] (defScope (top 27)) := ⟨rfl, rfl, rfl, by decide +kernel, rfl, by decide +kernel, by decide +kernel⟩
theorem sc__law_rounds : FnScope N__law_rounds ["script", "most"] (defScope (top 30)) := ⟨rfl, rfl, rfl, by decide +kernel, rfl, by decide +kernel, by decide +kernel⟩
theorem sc_law : FnScope N_law ["script"] (defScope (top 35)) := ⟨rfl, rfl, rfl, by decide +kernel, rfl, by decide +kernel, by decide +kernel⟩
theorem tr_is_number : trS.trSs (trS c_is_number (defScope (top 7)) exF 40) (defBody (top 7)) = some s_is_number := by kernel_rfl
theorem tr_is_row : trS.trSs (trS c_is_row (defScope (top 8)) exF 40) (defBody (top 8)) = some s_is_row := by kernel_rfl
theorem tr_are_rows : trS.trSs (trS c_are_rows (defScope (top 9)) exF 40) (defBody (top 9)) = some s_are_rows := by kernel_rfl
theorem tr_need_rows : trS.trSs (trS c_need_rows (defScope (top 10)) exF 40) (defBody (top 10)) = some s_need_rows := by kernel_rfl
theorem tr_is_step : trS.trSs (trS c_is_step (defScope (top 12)) exF 40) (defBody (top 12)) = some s_is_step := by kernel_rfl
theorem tr_form_fault : trS.trSs (trS c_form_fault (defScope (top 13)) exF 40) (defBody (top 13)) = some s_form_fault := by kernel_rfl
theorem tr_need_script : trS.trSs (trS c_need_script (defScope (top 14)) exF 40) (defBody (top 14)) = some s_need_script := by kernel_rfl
theorem tr_followed : trS.trSs (trS c_followed (defScope (top 15)) exF 40) (defBody (top 15)) = some s_followed := by kernel_rfl
theorem tr_cost : trS.trSs (trS c_cost (defScope (top 16)) exF 40) (defBody (top 16)) = some s_cost := by kernel_rfl
theorem tr_as_steps : trS.trSs (trS c_as_steps (defScope (top 17)) exF 40) (defBody (top 17)) = some s_as_steps := by kernel_rfl
theorem tr_plain_of : trS.trSs (trS c_plain_of (defScope (top 18)) exF 40) (defBody (top 18)) = some s_plain_of := by kernel_rfl
theorem tr_plainly : trS.trSs (trS c_plainly (defScope (top 19)) exF 40) (defBody (top 19)) = some s_plainly := by kernel_rfl
theorem tr_paired : trS.trSs (trS c_paired (defScope (top 20)) exF 40) (defBody (top 20)) = some s_paired := by kernel_rfl
theorem tr_by_pairs : trS.trSs (trS c_by_pairs (defScope (top 21)) exF 40) (defBody (top 21)) = some s_by_pairs := by kernel_rfl
theorem tr_turned : trS.trSs (trS c_turned (defScope (top 22)) exF 40) (defBody (top 22)) = some s_turned := by kernel_rfl
theorem tr_measured : trS.trSs (trS c_measured (defScope (top 24)) exF 40) (defBody (top 24)) = some s_measured := by kernel_rfl
theorem tr_measure : trS.trSs (trS c_measure (defScope (top 25)) exF 40) (defBody (top 25)) = some s_measure := by kernel_rfl
theorem tr__law_drawn : trS.trSs (trS c__law_drawn (defScope (top 28)) exF 40) (defBody (top 28)) = some s__law_drawn := by kernel_rfl
theorem tr__law_roll : trS.trSs (trS c__law_roll (defScope (top 29)) exF 40) (defBody (top 29)) = some s__law_roll := by kernel_rfl
theorem tr__law_pot : trS.trSs (trS c__law_pot (defScope (top 31)) exF 40) (defBody (top 31)) = some s__law_pot := by kernel_rfl
theorem tr__law_draw : trS.trSs (trS c__law_draw (defScope (top 32)) exF 40) (defBody (top 32)) = some s__law_draw := by kernel_rfl
theorem tr__law_script : trS.trSs (trS c__law_script (defScope (top 33)) exF 40) (defBody (top 33)) = some s__law_script := by kernel_rfl
theorem tr__law_measure : trS.trSs (trS c__law_measure (defScope (top 34)) exF 40) (defBody (top 34)) = some s__law_measure := by kernel_rfl
theorem tr__law_cell : trS.trSs (trS c__law_cell (defScope (top 27)) exF 40) (defBody (top 27)) = some s__law_cell := by kernel_rfl
def lawB : List Stmt := match defBody (top 35) with
  | .For _ _ B _ _ :: _ => B
  | _ => []
theorem tr_law : trS.trSs (trS c_law (defScope (top 35)) exF 40) lawB = some s_law := by kernel_rfl
section
variable {P : Program} {w : World} {K : PySem.W.Frag} {mg : Str → Option Value} {h base : Heap}
theorem hcs (X : K.In h) (G : h.Ns mainGlobals mg) (c : SaysX xb fn K) : csOk K mg cs := by
  intro x d e
  unfold cs at e
  split at e
  · rename_i ex; subst ex; cases e
    obtain ⟨t, z⟩ := int_ok X G (c.fact 45 rfl)
    exact cs_int z
  split at e
  · rename_i ex; subst ex; cases e
    obtain ⟨t, z⟩ := int_ok X G (c.fact 46 rfl)
    exact cs_int z
  cases e
theorem hbl (X : K.In h) (G : h.Ns mainGlobals mg) (c : SaysX xb fn K) : ∀ x ∈ bltN, mg x = none := by
  intro x hx
  unfold bltN at hx
  simp only [List.mem_cons, List.not_mem_nil, or_false] at hx
  rcases hx with rfl | rfl | rfl | rfl | rfl | rfl | rfl | rfl | rfl | rfl | rfl | rfl | rfl | rfl | rfl | rfl | rfl | rfl | rfl
  · exact free_ok X G (c.fact 26 rfl)
  · exact free_ok X G (c.fact 27 rfl)
  · exact free_ok X G (c.fact 28 rfl)
  · exact free_ok X G (c.fact 29 rfl)
  · exact free_ok X G (c.fact 30 rfl)
  · exact free_ok X G (c.fact 31 rfl)
  · exact free_ok X G (c.fact 32 rfl)
  · exact free_ok X G (c.fact 33 rfl)
  · exact free_ok X G (c.fact 34 rfl)
  · exact free_ok X G (c.fact 35 rfl)
  · exact free_ok X G (c.fact 36 rfl)
  · exact free_ok X G (c.fact 37 rfl)
  · exact free_ok X G (c.fact 38 rfl)
  · exact free_ok X G (c.fact 39 rfl)
  · exact free_ok X G (c.fact 40 rfl)
  · exact free_ok X G (c.fact 41 rfl)
  · exact free_ok X G (c.fact 42 rfl)
  · exact free_ok X G (c.fact 43 rfl)
  · exact free_ok X G (c.fact 44 rfl)
theorem hex (X : K.In h) (G : h.Ns mainGlobals mg) (c : SaysX xb fn K) : ∀ y, exF y = true → ∀ X : Cx, X.K = K → X.mg = mg → Gl X y → ∃ Ca, mg y = some (.ref Ca) ∧ ∀ m j p p2 pos, PMk X (.Call (.Name y p) [.Constant (.str m) j p2] [] pos) (fun _ H Q => Q (.ref Ca) none H) := by
  intro y hy
  have hy : y ∈ exN := List.contains_iff_mem.mp hy
  unfold exN at hy
  simp only [List.mem_cons, List.not_mem_nil, or_false] at hy
  rcases hy with rfl
  · exact exc_mk X G (c.fact 47 rfl) (c.fact 48 rfl) (by decide)
def SgOk (L : List (Str × Fs)) : Prop := ∀ p ∈ L, p.2.pats.map (fun q => (q.1, q.2.1)) = sg p.1 ∧ p.2.dice = dc p.1
theorem SgOk.add {L : List (Str × Fs)} {f : Str} {fs : Fs} (h : SgOk L) (h1 : fs.pats.map (fun q => (q.1, q.2.1)) = sg f) (h2 : fs.dice = dc f) : SgOk ((f, fs) :: L) := fun p hp => by
  rcases List.mem_cons.mp hp with rfl | hp
  · exact ⟨h1, h2⟩
  · exact h p hp
def L0 : List (Str × Fs) := []
def L1 : List (Str × Fs) := ("is_number", fs_is_number) :: L0
def L2 : List (Str × Fs) := ("is_row", fs_is_row) :: L1
def L3 : List (Str × Fs) := ("are_rows", fs_are_rows) :: L2
def L4 : List (Str × Fs) := ("need_rows", fs_need_rows) :: L3
def L5 : List (Str × Fs) := ("is_step", fs_is_step) :: L4
def L6 : List (Str × Fs) := ("form_fault", fs_form_fault) :: L5
def L7 : List (Str × Fs) := ("need_script", fs_need_script) :: L6
def L8 : List (Str × Fs) := ("followed", fs_followed) :: L7
def L9 : List (Str × Fs) := ("cost", fs_cost) :: L8
def L10 : List (Str × Fs) := ("as_steps", fs_as_steps) :: L9
def L11 : List (Str × Fs) := ("plain_of", fs_plain_of) :: L10
def L12 : List (Str × Fs) := ("plainly", fs_plainly) :: L11
def L13 : List (Str × Fs) := ("paired", fs_paired) :: L12
def L14 : List (Str × Fs) := ("by_pairs", fs_by_pairs) :: L13
def L15 : List (Str × Fs) := ("turned", fs_turned) :: L14
def L16 : List (Str × Fs) := ("measured", fs_measured) :: L15
def L17 : List (Str × Fs) := ("measure", fs_measure) :: L16
def L18 : List (Str × Fs) := ("_law_drawn", fs__law_drawn) :: L17
def L19 : List (Str × Fs) := ("_law_roll", fs__law_roll) :: L18
def L20 : List (Str × Fs) := ("_law_pot", (fs__law_pot ⟨lkF L19, cs⟩)) :: L19
def L21 : List (Str × Fs) := ("_law_draw", (fs__law_draw ⟨lkF L20, cs⟩)) :: L20
def L22 : List (Str × Fs) := ("_law_script", (fs__law_script ⟨lkF L21, cs⟩)) :: L21
def L23 : List (Str × Fs) := ("_law_measure", fs__law_measure) :: L22
def L24 : List (Str × Fs) := ("_law_cell", fs__law_cell) :: L23
theorem facts {fa : Addr} (X : K.In h) (G : h.Ns mainGlobals mg) (hfa : mg ("law" : Str) = some (.ref fa)) (c : SaysX xb fn K) :
    ∃ fd : FuncData, (∀ (s : Shared) (v : Value), BindsTo s fd ⟨[v], []⟩ [("script", v)]) ∧ ∀ base : Heap, K.In base → base.Ns mainGlobals mg → FnOk P w K mg base C8.CX0 26 fa fd ["script"] (spL K) := by
  obtain ⟨fd_is_number, F_is_number⟩ := c.def_ 0 (d := d_is_number) rfl
  obtain ⟨fd_is_row, F_is_row⟩ := c.def_ 1 (d := d_is_row) rfl
  obtain ⟨fd_are_rows, F_are_rows⟩ := c.def_ 2 (d := d_are_rows) rfl
  obtain ⟨fd_need_rows, F_need_rows⟩ := c.def_ 3 (d := d_need_rows) rfl
  obtain ⟨fd_is_step, F_is_step⟩ := c.def_ 4 (d := d_is_step) rfl
  obtain ⟨fd_form_fault, F_form_fault⟩ := c.def_ 5 (d := d_form_fault) rfl
  obtain ⟨fd_need_script, F_need_script⟩ := c.def_ 6 (d := d_need_script) rfl
  obtain ⟨fd_followed, F_followed⟩ := c.def_ 7 (d := d_followed) rfl
  obtain ⟨fd_cost, F_cost⟩ := c.def_ 8 (d := d_cost) rfl
  obtain ⟨fd_as_steps, F_as_steps⟩ := c.def_ 9 (d := d_as_steps) rfl
  obtain ⟨fd_plain_of, F_plain_of⟩ := c.def_ 10 (d := d_plain_of) rfl
  obtain ⟨fd_plainly, F_plainly⟩ := c.def_ 11 (d := d_plainly) rfl
  obtain ⟨fd_paired, F_paired⟩ := c.def_ 12 (d := d_paired) rfl
  obtain ⟨fd_by_pairs, F_by_pairs⟩ := c.def_ 13 (d := d_by_pairs) rfl
  obtain ⟨fd_turned, F_turned⟩ := c.def_ 14 (d := d_turned) rfl
  obtain ⟨fd_measured, F_measured⟩ := c.def_ 15 (d := d_measured) rfl
  obtain ⟨fd_measure, F_measure⟩ := c.def_ 16 (d := d_measure) rfl
  obtain ⟨fd__law_drawn, F__law_drawn⟩ := c.def_ 17 (d := d__law_drawn) rfl
  obtain ⟨fd__law_roll, F__law_roll⟩ := c.def_ 18 (d := d__law_roll) rfl
  obtain ⟨fd__law_pot, F__law_pot⟩ := c.def_ 19 (d := d__law_pot) rfl
  obtain ⟨fd__law_draw, F__law_draw⟩ := c.def_ 20 (d := d__law_draw) rfl
  obtain ⟨fd__law_script, F__law_script⟩ := c.def_ 21 (d := d__law_script) rfl
  obtain ⟨fd__law_measure, F__law_measure⟩ := c.def_ 22 (d := d__law_measure) rfl
  obtain ⟨fd__law_cell, F__law_cell⟩ := c.def_ 23 (d := d__law_cell) rfl
  obtain ⟨fd__law_rounds, F__law_rounds⟩ := c.def_ 24 (d := d__law_rounds) rfl
  obtain ⟨fd_law, F_law⟩ := c.def_ 25 (d := d_law) rfl
  have e := hfa.symm.trans (glo_ok X G (c.fact 25 rfl))
  cases e
  have b := FunD.bindsA (ps := ["script"]) F_law fun _ _ _ _ _ _ us hl => match us, hl with | [_], _ => rfl
  refine ⟨fd_law, fun s v => b s [v] rfl, fun base _ _ => ?_⟩
  have hc := hcs X G c
  have hb := hbl X G c
  have hx := hex X G c
  have A0 : AllD P w K mg base 0 L0 := fun p hp => by cases hp
  have S0 : SgOk L0 := fun p hp => by cases hp
  have G0 : GloOk P w K mg base ⟨lkF L0, cs⟩ c_is_number 0 := glo_of A0 hc hb S0
  have ok0 := fn_sem (c := c_is_number) (ex := exF) (n := 40) (fs := fs_is_number) F_is_number sc_is_number G0 hx rfl (by decide) (by decide) rfl tr_is_number (sem_is_number)
  obtain ⟨ds0, vb0, bb0⟩ := FunD.binds1 (ps := ["thing", "low", "high"]) F_is_number 2 0 (by simp [DefD.dvs, d_is_number, df]) rfl (fun _ _ _ _ _ _ _ us its l1 l2 => match us, its, l1, l2 with | [_, _], [_], _, _ => ⟨_, rfl, rfl⟩)
  have D0 : FnD P w K mg base 1 "is_number" fs_is_number := fnD_of (glo_ok X G (c.fact 0 rfl)) F_is_number.kp ok0 (show PatsOk K _ _ _ (fs_is_number).pats from ⟨pat_of_binds (n := 2) (ds := [D.non]) bb0 vb0 rfl rfl rfl rfl, ⟨pat_D F_is_number (by simp [DefD.dvs, d_is_number, df]) (fun _ _ _ _ _ _ _ us ws its l1 l2 l3 => match us, ws, its, l1, l2, l3 with | [_, _, _], [], [_], _, _, _ => ⟨_, rfl, rfl⟩) rfl, True.intro⟩⟩)
  have A1 : AllD P w K mg base 1 L1 := A0.add D0
  have S1 : SgOk L1 := S0.add rfl rfl
  have G1 : GloOk P w K mg base ⟨lkF L1, cs⟩ c_is_row 1 := glo_of A1 hc hb S1
  have ok1 := fn_sem (c := c_is_row) (ex := exF) (n := 40) (fs := fs_is_row) F_is_row sc_is_row G1 hx rfl (by decide) (by decide) rfl tr_is_row (sem_is_row rfl)
  have D1 : FnD P w K mg base 2 "is_row" fs_is_row := fnD_of (glo_ok X G (c.fact 1 rfl)) F_is_row.kp ok1 (show PatsOk K _ _ _ (fs_is_row).pats from ⟨pat_A F_is_row (fun _ _ _ _ _ _ us ws l1 l2 => match us, ws, l1, l2 with | [_], [], _, _ => rfl) rfl, True.intro⟩)
  have A2 : AllD P w K mg base 2 L2 := A1.add D1
  have S2 : SgOk L2 := S1.add rfl rfl
  have G2 : GloOk P w K mg base ⟨lkF L2, cs⟩ c_are_rows 2 := glo_of A2 hc hb S2
  have ok2 := fn_sem (c := c_are_rows) (ex := exF) (n := 40) (fs := fs_are_rows) F_are_rows sc_are_rows G2 hx rfl (by decide) (by decide) rfl tr_are_rows (sem_are_rows rfl rfl)
  have D2 : FnD P w K mg base 3 "are_rows" fs_are_rows := fnD_of (glo_ok X G (c.fact 2 rfl)) F_are_rows.kp ok2 (show PatsOk K _ _ _ (fs_are_rows).pats from ⟨pat_A F_are_rows (fun _ _ _ _ _ _ us ws l1 l2 => match us, ws, l1, l2 with | [_], [], _, _ => rfl) rfl, True.intro⟩)
  have A3 : AllD P w K mg base 3 L3 := A2.add D2
  have S3 : SgOk L3 := S2.add rfl rfl
  have G3 : GloOk P w K mg base ⟨lkF L3, cs⟩ c_need_rows 3 := glo_of A3 hc hb S3
  have ok3 := fn_sem (c := c_need_rows) (ex := exF) (n := 40) (fs := fs_need_rows) F_need_rows sc_need_rows G3 hx rfl (by decide) (by decide) rfl tr_need_rows (sem_need_rows rfl)
  have D3 : FnD P w K mg base 4 "need_rows" fs_need_rows := fnD_of (glo_ok X G (c.fact 3 rfl)) F_need_rows.kp ok3 (show PatsOk K _ _ _ (fs_need_rows).pats from ⟨pat_A F_need_rows (fun _ _ _ _ _ _ us ws l1 l2 => match us, ws, l1, l2 with | [_], [], _, _ => rfl) rfl, True.intro⟩)
  have A4 : AllD P w K mg base 4 L4 := A3.add D3
  have S4 : SgOk L4 := S3.add rfl rfl
  have G4 : GloOk P w K mg base ⟨lkF L4, cs⟩ c_is_step 4 := glo_of A4 hc hb S4
  have ok4 := fn_sem (c := c_is_step) (ex := exF) (n := 40) (fs := fs_is_step) F_is_step sc_is_step G4 hx rfl (by decide) (by decide) rfl tr_is_step (sem_is_step rfl rfl)
  have D4 : FnD P w K mg base 5 "is_step" fs_is_step := fnD_of (glo_ok X G (c.fact 4 rfl)) F_is_step.kp ok4 (show PatsOk K _ _ _ (fs_is_step).pats from ⟨pat_A F_is_step (fun _ _ _ _ _ _ us ws l1 l2 => match us, ws, l1, l2 with | [_], [], _, _ => rfl) rfl, True.intro⟩)
  have A5 : AllD P w K mg base 5 L5 := A4.add D4
  have S5 : SgOk L5 := S4.add rfl rfl
  have G5 : GloOk P w K mg base ⟨lkF L5, cs⟩ c_form_fault 5 := glo_of A5 hc hb S5
  have ok5 := fn_sem (c := c_form_fault) (ex := exF) (n := 40) (fs := fs_form_fault) F_form_fault sc_form_fault G5 hx rfl (by decide) (by decide) rfl tr_form_fault (sem_form_fault rfl)
  have D5 : FnD P w K mg base 6 "form_fault" fs_form_fault := fnD_of (glo_ok X G (c.fact 5 rfl)) F_form_fault.kp ok5 (show PatsOk K _ _ _ (fs_form_fault).pats from ⟨pat_A F_form_fault (fun _ _ _ _ _ _ us ws l1 l2 => match us, ws, l1, l2 with | [_], [], _, _ => rfl) rfl, True.intro⟩)
  have A6 : AllD P w K mg base 6 L6 := A5.add D5
  have S6 : SgOk L6 := S5.add rfl rfl
  have G6 : GloOk P w K mg base ⟨lkF L6, cs⟩ c_need_script 6 := glo_of A6 hc hb S6
  have ok6 := fn_sem (c := c_need_script) (ex := exF) (n := 40) (fs := fs_need_script) F_need_script sc_need_script G6 hx rfl (by decide) (by decide) rfl tr_need_script (sem_need_script rfl)
  have D6 : FnD P w K mg base 7 "need_script" fs_need_script := fnD_of (glo_ok X G (c.fact 6 rfl)) F_need_script.kp ok6 (show PatsOk K _ _ _ (fs_need_script).pats from ⟨pat_A F_need_script (fun _ _ _ _ _ _ us ws l1 l2 => match us, ws, l1, l2 with | [_], [], _, _ => rfl) rfl, True.intro⟩)
  have A7 : AllD P w K mg base 7 L7 := A6.add D6
  have S7 : SgOk L7 := S6.add rfl rfl
  have G7 : GloOk P w K mg base ⟨lkF L7, cs⟩ c_followed 7 := glo_of A7 hc hb S7
  have ok7 := fn_sem (c := c_followed) (ex := exF) (n := 40) (fs := fs_followed) F_followed sc_followed G7 hx rfl (by decide) (by decide) rfl tr_followed (sem_followed)
  have D7 : FnD P w K mg base 8 "followed" fs_followed := fnD_of (glo_ok X G (c.fact 7 rfl)) F_followed.kp ok7 (show PatsOk K _ _ _ (fs_followed).pats from ⟨pat_A F_followed (fun _ _ _ _ _ _ us ws l1 l2 => match us, ws, l1, l2 with | [_, _], [], _, _ => rfl) rfl, True.intro⟩)
  have A8 : AllD P w K mg base 8 L8 := A7.add D7
  have S8 : SgOk L8 := S7.add rfl rfl
  have G8 : GloOk P w K mg base ⟨lkF L8, cs⟩ c_cost 8 := glo_of A8 hc hb S8
  have ok8 := fn_sem (c := c_cost) (ex := exF) (n := 40) (fs := fs_cost) F_cost sc_cost G8 hx rfl (by decide) (by decide) rfl tr_cost (sem_cost rfl)
  have D8 : FnD P w K mg base 9 "cost" fs_cost := fnD_of (glo_ok X G (c.fact 8 rfl)) F_cost.kp ok8 (show PatsOk K _ _ _ (fs_cost).pats from ⟨pat_A F_cost (fun _ _ _ _ _ _ us ws l1 l2 => match us, ws, l1, l2 with | [_], [], _, _ => rfl) rfl, True.intro⟩)
  have A9 : AllD P w K mg base 9 L9 := A8.add D8
  have S9 : SgOk L9 := S8.add rfl rfl
  have G9 : GloOk P w K mg base ⟨lkF L9, cs⟩ c_as_steps 9 := glo_of A9 hc hb S9
  have ok9 := fn_sem (c := c_as_steps) (ex := exF) (n := 40) (fs := fs_as_steps) F_as_steps sc_as_steps G9 hx rfl (by decide) (by decide) rfl tr_as_steps (sem_as_steps)
  have D9 : FnD P w K mg base 10 "as_steps" fs_as_steps := fnD_of (glo_ok X G (c.fact 9 rfl)) F_as_steps.kp ok9 (show PatsOk K _ _ _ (fs_as_steps).pats from ⟨pat_A F_as_steps (fun _ _ _ _ _ _ us ws l1 l2 => match us, ws, l1, l2 with | [_, _, _], [], _, _ => rfl) rfl, True.intro⟩)
  have A10 : AllD P w K mg base 10 L10 := A9.add D9
  have S10 : SgOk L10 := S9.add rfl rfl
  have G10 : GloOk P w K mg base ⟨lkF L10, cs⟩ c_plain_of 10 := glo_of A10 hc hb S10
  have ok10 := fn_sem (c := c_plain_of) (ex := exF) (n := 40) (fs := fs_plain_of) F_plain_of sc_plain_of G10 hx rfl (by decide) (by decide) rfl tr_plain_of (sem_plain_of rfl)
  have D10 : FnD P w K mg base 11 "plain_of" fs_plain_of := fnD_of (glo_ok X G (c.fact 10 rfl)) F_plain_of.kp ok10 (show PatsOk K _ _ _ (fs_plain_of).pats from ⟨pat_A F_plain_of (fun _ _ _ _ _ _ us ws l1 l2 => match us, ws, l1, l2 with | [_], [], _, _ => rfl) rfl, True.intro⟩)
  have A11 : AllD P w K mg base 11 L11 := A10.add D10
  have S11 : SgOk L11 := S10.add rfl rfl
  have G11 : GloOk P w K mg base ⟨lkF L11, cs⟩ c_plainly 11 := glo_of A11 hc hb S11
  have ok11 := fn_sem (c := c_plainly) (ex := exF) (n := 40) (fs := fs_plainly) F_plainly sc_plainly G11 hx rfl (by decide) (by decide) rfl tr_plainly (sem_plainly rfl rfl)
  have D11 : FnD P w K mg base 12 "plainly" fs_plainly := fnD_of (glo_ok X G (c.fact 11 rfl)) F_plainly.kp ok11 (show PatsOk K _ _ _ (fs_plainly).pats from ⟨pat_A F_plainly (fun _ _ _ _ _ _ us ws l1 l2 => match us, ws, l1, l2 with | [_], [], _, _ => rfl) rfl, True.intro⟩)
  have A12 : AllD P w K mg base 12 L12 := A11.add D11
  have S12 : SgOk L12 := S11.add rfl rfl
  have G12 : GloOk P w K mg base ⟨lkF L12, cs⟩ c_paired 12 := glo_of A12 hc hb S12
  have ok12 := fn_sem (c := c_paired) (ex := exF) (n := 40) (fs := fs_paired) F_paired sc_paired G12 hx rfl (by decide) (by decide) rfl tr_paired (sem_paired)
  have D12 : FnD P w K mg base 13 "paired" fs_paired := fnD_of (glo_ok X G (c.fact 12 rfl)) F_paired.kp ok12 (show PatsOk K _ _ _ (fs_paired).pats from ⟨pat_A F_paired (fun _ _ _ _ _ _ us ws l1 l2 => match us, ws, l1, l2 with | [_], [], _, _ => rfl) rfl, True.intro⟩)
  have A13 : AllD P w K mg base 13 L13 := A12.add D12
  have S13 : SgOk L13 := S12.add rfl rfl
  have G13 : GloOk P w K mg base ⟨lkF L13, cs⟩ c_by_pairs 13 := glo_of A13 hc hb S13
  have ok13 := fn_sem (c := c_by_pairs) (ex := exF) (n := 40) (fs := fs_by_pairs) F_by_pairs sc_by_pairs G13 hx rfl (by decide) (by decide) rfl tr_by_pairs (sem_by_pairs rfl)
  have D13 : FnD P w K mg base 14 "by_pairs" fs_by_pairs := fnD_of (glo_ok X G (c.fact 13 rfl)) F_by_pairs.kp ok13 (show PatsOk K _ _ _ (fs_by_pairs).pats from ⟨pat_A F_by_pairs (fun _ _ _ _ _ _ us ws l1 l2 => match us, ws, l1, l2 with | [_, _, _], [], _, _ => rfl) rfl, True.intro⟩)
  have A14 : AllD P w K mg base 14 L14 := A13.add D13
  have S14 : SgOk L14 := S13.add rfl rfl
  have G14 : GloOk P w K mg base ⟨lkF L14, cs⟩ c_turned 14 := glo_of A14 hc hb S14
  have ok14 := fn_sem (c := c_turned) (ex := exF) (n := 40) (fs := fs_turned) F_turned sc_turned G14 hx rfl (by decide) (by decide) rfl tr_turned (sem_turned rfl rfl rfl rfl rfl)
  have D14 : FnD P w K mg base 15 "turned" fs_turned := fnD_of (glo_ok X G (c.fact 14 rfl)) F_turned.kp ok14 (show PatsOk K _ _ _ (fs_turned).pats from ⟨pat_A F_turned (fun _ _ _ _ _ _ us ws l1 l2 => match us, ws, l1, l2 with | [_, _], [], _, _ => rfl) rfl, True.intro⟩)
  have A15 : AllD P w K mg base 15 L15 := A14.add D14
  have S15 : SgOk L15 := S14.add rfl rfl
  have G15 : GloOk P w K mg base ⟨lkF L15, cs⟩ c_measured 15 := glo_of A15 hc hb S15
  have ok15 := fn_sem (c := c_measured) (ex := exF) (n := 40) (fs := fs_measured) F_measured sc_measured G15 hx rfl (by decide) (by decide) rfl tr_measured (sem_measured)
  have D15 : FnD P w K mg base 16 "measured" fs_measured := fnD_of (glo_ok X G (c.fact 15 rfl)) F_measured.kp ok15 (show PatsOk K _ _ _ (fs_measured).pats from ⟨pat_A F_measured (fun _ _ _ _ _ _ us ws l1 l2 => match us, ws, l1, l2 with | [_], [], _, _ => rfl) rfl, True.intro⟩)
  have A16 : AllD P w K mg base 16 L16 := A15.add D15
  have S16 : SgOk L16 := S15.add rfl rfl
  have G16 : GloOk P w K mg base ⟨lkF L16, cs⟩ c_measure 16 := glo_of A16 hc hb S16
  have ok16 := fn_sem (c := c_measure) (ex := exF) (n := 40) (fs := fs_measure) F_measure sc_measure G16 hx rfl (by decide) (by decide) rfl tr_measure (sem_measure rfl rfl rfl)
  have D16 : FnD P w K mg base 17 "measure" fs_measure := fnD_of (glo_ok X G (c.fact 16 rfl)) F_measure.kp ok16 (show PatsOk K _ _ _ (fs_measure).pats from ⟨pat_A F_measure (fun _ _ _ _ _ _ us ws l1 l2 => match us, ws, l1, l2 with | [_], [], _, _ => rfl) rfl, True.intro⟩)
  have A17 : AllD P w K mg base 17 L17 := A16.add D16
  have S17 : SgOk L17 := S16.add rfl rfl
  have G17 : GloOk P w K mg base ⟨lkF L17, cs⟩ c__law_drawn 17 := glo_of A17 hc hb S17
  have ok17 := fn_sem (c := c__law_drawn) (ex := exF) (n := 40) (fs := fs__law_drawn) F__law_drawn sc__law_drawn G17 hx rfl (by decide) (by decide) rfl tr__law_drawn (sem__law_drawn)
  have D17 : FnD P w K mg base 18 "_law_drawn" fs__law_drawn := fnD_of (glo_ok X G (c.fact 17 rfl)) F__law_drawn.kp ok17 (show PatsOk K _ _ _ (fs__law_drawn).pats from ⟨pat_A F__law_drawn (fun _ _ _ _ _ _ us ws l1 l2 => match us, ws, l1, l2 with | [_, _], [], _, _ => rfl) rfl, True.intro⟩)
  have A18 : AllD P w K mg base 18 L18 := A17.add D17
  have S18 : SgOk L18 := S17.add rfl rfl
  have G18 : GloOk P w K mg base ⟨lkF L18, cs⟩ c__law_roll 18 := glo_of A18 hc hb S18
  have ok18 := fn_sem (c := c__law_roll) (ex := exF) (n := 40) (fs := fs__law_roll) F__law_roll sc__law_roll G18 hx rfl (by decide) (by decide) rfl tr__law_roll (sem__law_roll rfl)
  have D18 : FnD P w K mg base 19 "_law_roll" fs__law_roll := fnD_of (glo_ok X G (c.fact 18 rfl)) F__law_roll.kp ok18 (show PatsOk K _ _ _ (fs__law_roll).pats from ⟨pat_A F__law_roll (fun _ _ _ _ _ _ us ws l1 l2 => match us, ws, l1, l2 with | [_, _], [], _, _ => rfl) rfl, True.intro⟩)
  have A19 : AllD P w K mg base 19 L19 := A18.add D18
  have S19 : SgOk L19 := S18.add rfl rfl
  have G19 : GloOk P w K mg base ⟨lkF L19, cs⟩ c__law_pot 19 := glo_of A19 hc hb S19
  have ok19 := fn_sem (c := c__law_pot) (ex := exF) (n := 40) (fs := (fs__law_pot ⟨lkF L19, cs⟩)) F__law_pot sc__law_pot G19 hx rfl (by decide) (by decide) rfl tr__law_pot (fun ds δ _ => ⟨0, rfl⟩)
  have D19 : FnD P w K mg base 20 "_law_pot" (fs__law_pot ⟨lkF L19, cs⟩) := fnD_of (glo_ok X G (c.fact 19 rfl)) F__law_pot.kp ok19 (show PatsOk K _ _ _ ((fs__law_pot ⟨lkF L19, cs⟩)).pats from ⟨pat_A F__law_pot (fun _ _ _ _ _ _ us ws l1 l2 => match us, ws, l1, l2 with | [_], [], _, _ => rfl) rfl, True.intro⟩)
  have A20 : AllD P w K mg base 20 L20 := A19.add D19
  have S20 : SgOk L20 := S19.add rfl rfl
  have G20 : GloOk P w K mg base ⟨lkF L20, cs⟩ c__law_draw 20 := glo_of A20 hc hb S20
  have ok20 := fn_sem (c := c__law_draw) (ex := exF) (n := 40) (fs := (fs__law_draw ⟨lkF L20, cs⟩)) F__law_draw sc__law_draw G20 hx rfl (by decide) (by decide) rfl tr__law_draw (fun ds δ _ => ⟨0, rfl⟩)
  have D20 : FnD P w K mg base 21 "_law_draw" (fs__law_draw ⟨lkF L20, cs⟩) := fnD_of (glo_ok X G (c.fact 20 rfl)) F__law_draw.kp ok20 (show PatsOk K _ _ _ ((fs__law_draw ⟨lkF L20, cs⟩)).pats from ⟨pat_A F__law_draw (fun _ _ _ _ _ _ us ws l1 l2 => match us, ws, l1, l2 with | [_, _, _], [], _, _ => rfl) rfl, True.intro⟩)
  have A21 : AllD P w K mg base 21 L21 := A20.add D20
  have S21 : SgOk L21 := S20.add rfl rfl
  have G21 : GloOk P w K mg base ⟨lkF L21, cs⟩ c__law_script 21 := glo_of A21 hc hb S21
  have ok21 := fn_sem (c := c__law_script) (ex := exF) (n := 40) (fs := (fs__law_script ⟨lkF L21, cs⟩)) F__law_script sc__law_script G21 hx rfl (by decide) (by decide) rfl tr__law_script (fun ds δ _ => ⟨0, rfl⟩)
  have D21 : FnD P w K mg base 22 "_law_script" (fs__law_script ⟨lkF L21, cs⟩) := fnD_of (glo_ok X G (c.fact 21 rfl)) F__law_script.kp ok21 (show PatsOk K _ _ _ ((fs__law_script ⟨lkF L21, cs⟩)).pats from ⟨pat_A F__law_script (fun _ _ _ _ _ _ us ws l1 l2 => match us, ws, l1, l2 with | [_, _, _], [], _, _ => rfl) rfl, True.intro⟩)
  have A22 : AllD P w K mg base 22 L22 := A21.add D21
  have S22 : SgOk L22 := S21.add rfl rfl
  have G22 : GloOk P w K mg base ⟨lkF L22, cs⟩ c__law_measure 22 := glo_of A22 hc hb S22
  have ok22 := fn_sem (c := c__law_measure) (ex := exF) (n := 40) (fs := fs__law_measure) F__law_measure sc__law_measure G22 hx rfl (by decide) (by decide) rfl tr__law_measure (sem__law_measure)
  have D22 : FnD P w K mg base 23 "_law_measure" fs__law_measure := fnD_of (glo_ok X G (c.fact 22 rfl)) F__law_measure.kp ok22 (show PatsOk K _ _ _ (fs__law_measure).pats from ⟨pat_A F__law_measure (fun _ _ _ _ _ _ us ws l1 l2 => match us, ws, l1, l2 with | [_], [], _, _ => rfl) rfl, True.intro⟩)
  have A23 : AllD P w K mg base 23 L23 := A22.add D22
  have S23 : SgOk L23 := S22.add rfl rfl
  have G23 : GloOk P w K mg base ⟨lkF L23, cs⟩ c__law_cell 23 := glo_of A23 hc hb S23
  have ok23 := fn_sem (c := c__law_cell) (ex := exF) (n := 40) (fs := fs__law_cell) F__law_cell sc__law_cell G23 hx rfl (by decide) (by decide) rfl tr__law_cell (sem__law_cell)
  have D23 : FnD P w K mg base 24 "_law_cell" fs__law_cell := fnD_of (glo_ok X G (c.fact 23 rfl)) F__law_cell.kp ok23 (show PatsOk K _ _ _ (fs__law_cell).pats from ⟨pat_A F__law_cell (fun _ _ _ _ _ _ us ws l1 l2 => match us, ws, l1, l2 with | [_, _], [], _, _ => rfl) rfl, True.intro⟩)
  have A24 : AllD P w K mg base 24 L24 := A23.add D23
  have S24 : SgOk L24 := S23.add rfl rfl
  have Gr : GloOk P w K mg base ⟨lkF L24, cs⟩ c__law_rounds 24 := glo_of A24 hc hb S24
  have okr := rounds_ok (n := 40) F__law_rounds sc__law_rounds Gr (by decide) (by decide) rfl (by rfl) (by kernel_rfl) (by kernel_rfl) (fun ns most hl => rounds_sem rfl ns most hl)
  have br : Binds K fd__law_rounds ["script", "most"] [] := F__law_rounds.bindsN fun _ _ _ _ _ _ us hl => match us, hl with | [_, _], _ => rfl
  have Gl : GloOk P w K mg base ⟨lkF L24, cs⟩ c_law 25 := glo_of (A24.up (Nat.le_succ _)) hc hb S24
  have okl := law_ok (c := c_law) (ex := exF) (n := 40) F_law sc_law Gl hx (B := lawB) (by rfl) rfl rfl (by decide) rfl (by kernel_rfl) (by kernel_rfl) (by kernel_rfl) (glo_ok X G (c.fact 24 rfl)) F__law_rounds.kp br okr tr_law (fun cell => law29 rfl rfl rfl rfl rfl rfl rfl rfl rfl rfl rfl cell)
  exact FnOk.cx0 okl fun vs H Q E ⟨a, ns, h1, h2, h3, h4, h5⟩ => ⟨a, ns, h1, h2, h3, h4, h5⟩
end
end K29
open PySem PySem.W PySem.Calls PyProof.Rows
set_option maxHeartbeats 0 in
theorem PySem.Challenge.cw_diffcourt_k29_whole_measures_holds : PySem.Challenge.rw_diffcourt_k29_whole_measures.Holds := by
  w_on; o_law
  refine HandSHeadRun.head_any (r := OpenLaw.row PySem.Challenge.rw_diffcourt_k29_whole_measures) (q := view (OpenLaw.row PySem.Challenge.rw_diffcourt_k29_whole_measures).prog [35]) (H := K29.hk) (ob := K29.ob) (M := 8000) (loose := K29.loose) (d := HandSHeadRun.topDef (OpenLaw.row PySem.Challenge.rw_diffcourt_k29_whole_measures).prog 35) (kwd := []) K29.ob_eq
    (by kernel_rfl) (fun s => by kernel_rfl) K29.run (by kernel_rfl) (by kernel_rfl) (by kernel_rfl) (by rfl) (by first | assumption | decide +kernel) (by decide +kernel) ⟨rfl, rfl, rfl, rfl, rfl, by decide +kernel⟩ ?hw ?hc
  case hw => w_witness2
  case hc =>
    refine L2.walk_ofE (l := PySem.Challenge.rw_diffcourt_k29_whole_measures) (n := 63) (k := 26) (x := "script") (CX := C8.CX0) rfl (by decide) (by kernel_rfl) ⟨rfl, by decide, by decide⟩ ?F (fun _ _ _ _ z => z)
    intro w mg fa h Y G hmg0
    obtain ⟨K, KX, c⟩ := Y
    have hmg : mg ("law" : PySem.Str) = some (.ref fa) := by
      have e : (HandSHeadRun.topDef (OpenLaw.row PySem.Challenge.rw_diffcourt_k29_whole_measures).prog 35).name = ("law" : PySem.Str) := by kernel_rfl
      rw [← e]
      exact hmg0
    obtain ⟨fd, hb, hF⟩ := K29.facts (P := (PySem.Challenge.rw_diffcourt_k29_whole_measures).prog) (w := w) KX G hmg c
    exact ⟨K, fd, DC.spL K, KX, hb, fun H a ns hl ho hS => ⟨a, ns, rfl, hS, Nat.le_trans hl (by decide), DC.kd_only ho, fun _ => rfl⟩, hF⟩
