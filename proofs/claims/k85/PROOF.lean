import PyProof.Rows.All
import Wide.All
import OpenK.AllK
import Wide.FinOn
import HandS.ForMost
import HandS.ForExc
import HandS.CallSlots
import HandS.Walk
import HandS.HotCalls
import HandS.Defaults
import HandS.Wide
import HandS.Gcd
import HandS.IsInst
import HandS.StrMore
import HandS.TupAny
import HandS.Conv
import HandS.Steps
import HandS.ExcInit
import KE.KExcSuper
import HandS.TryMany
import HandS.ExcField
import HandS.ExcInitHot
import KE.KStateDown
import HandS.Ends
import HandS.Head0
import HandS.Head1
import HandS.Head2
import HandS.Head3
import HandS.HeadEnd
import HandS.HeadHook1
import HandS.HeadHook2
import KE.IntTextLaws
import KE.IntTextText
import PyProof.P3Eq
import PySem.Challenge.RW_plansasnewscome_k85_numbers_read_and_wri
set_option Elab.async false
set_option linter.all false
set_option maxRecDepth 100000
set_option maxHeartbeats 2000000
/-! DL1: readings told by plain data (PyData): a frozen heap F inside the heap H; own lists stand apart. -/
namespace DL
open PySem L2

/-! ### frozen part and whole -/
structure Ext (F F' H H' : Hp) : Prop where
  a : Same F F'
  b : Same H H'
  c : Same F' H'
  n : ∀ x, H x ≠ none → F x = none → F' x = none
theorem Ext.refl {F H : Hp} (h : Same F H) : Ext F F H H := ⟨Same.refl _, Same.refl _, h, fun _ _ e => e⟩
theorem Ext.trans {F F1 F2 H H1 H2 : Hp} (p : Ext F F1 H H1) (q : Ext F1 F2 H1 H2) : Ext F F2 H H2 :=
  ⟨p.a.trans q.a, p.b.trans q.b, q.c, fun x hx hf => q.n x (fun z => hx (p.b.free z)) (p.n x hx hf)⟩
theorem same_upd {H H' : Hp} {p : Addr} {o : HO} (e : Same H H') (h : H p = none) : Same H (upd H' p o) := fun b u q => by
  rw [upd_ne (ne_of_none q h)]; exact e b u q
theorem same_upd2 {F H : Hp} {p : Addr} {o : HO} (e : Same F H) : Same (upd F p o) (upd H p o) := fun b u q => by
  by_cases hb : b = p
  · subst hb; rw [upd_same] at q ⊢; exact q
  · rw [upd_ne hb] at q ⊢; exact e b u q
/-- a new object, known at once -/
theorem Ext.new {F H : Hp} {p : Addr} {o : HO} (e : Same F H) (h : H p = none) : Ext F (upd F p o) H (upd H p o) :=
  ⟨same_upd (Same.refl _) (e.free h), same_upd (Same.refl _) h, same_upd2 e, fun x hx hf => by
    rw [upd_ne (fun z => hx (by rw [z]; exact h))]; exact hf⟩
/-- a new object, left aside -/
theorem Ext.side {F H : Hp} {p : Addr} {o : HO} (e : Same F H) (h : H p = none) : Ext F F H (upd H p o) :=
  ⟨Same.refl _, same_upd (Same.refl _) h, same_upd e (e.free h), fun _ _ q => q⟩
/-- an object aside changes, told from a base where it did not stand -/
theorem Ext.mut {F F' H H' : Hp} {p : Addr} {o : HO} (e : Ext F F' H H') (h0 : H p = none) (hf : F' p = none) : Ext F F' H (upd H' p o) :=
  ⟨e.a, same_upd e.b h0, same_upd e.c hf, e.n⟩
/-- an object aside is taken in -/
theorem Ext.freeze {F F' H H' : Hp} {p : Addr} {o : HO} (e : Ext F F' H H') (h0 : H p = none) (hf : F' p = none) (hp : H' p = some o) : Ext F (upd F' p o) H H' := by
  refine ⟨fun b u q => ?_, e.b, fun b u q => ?_, fun x hx hf => ?_⟩
  · rw [upd_ne (ne_of_none (e.a b u q) hf)]; exact e.a b u q
  · by_cases hb : b = p
    · subst hb; rw [upd_same] at q; rw [hp]; exact q
    · rw [upd_ne hb] at q; exact e.c b u q
  · rw [upd_ne (fun z => hx (by rw [z]; exact h0))]; exact e.n x hx hf

/-! ### values that bear data -/
section
variable {K : PySem.W.Frag}
theorem rd_mono {F F' : Hp} {a : Addr} {u : HO} (e : Same F F') (h : Rd F a u) : Rd F' a u := by
  rcases h with h | ⟨o, h⟩
  · exact .inl (e _ _ h)
  · exact .inr ⟨o, e _ _ h⟩
theorem sqT_mono {F F' : Hp} {a : Addr} {xs : List V} (e : Same F F') (h : SqT K F a xs) : SqT K F' a xs := by
  rcases h with h | h
  · exact .inl (rd_mono e h)
  · exact .inr h
mutual
theorem dp_mono {F F' : Hp} (e : Same F F') : ∀ (d : PyData) (v : V), Dp K F v d → Dp K F' v d
  | .none, _, h => by cases h; exact .non
  | .bool b, _, h => by cases h; exact .bl b
  | .int i, _, h => by cases h; exact .int i
  | .str x, _, h => by cases h; exact .str x
  | .list ds, _, h => by
    cases h with
    | lst hs ha => exact .lst (e.seq hs) (dpAll_mono e ds _ ha)
  | .tuple ds, _, h => by
    cases h with
    | tup hs ha => exact .tup (sqT_mono e hs) (dpAll_mono e ds _ ha)
  | .dict _, _, h => by cases h
theorem dpAll_mono {F F' : Hp} (e : Same F F') : ∀ (ds : List PyData) (vs : List V), DpAll K F vs ds → DpAll K F' vs ds
  | [], _, h => by cases h; exact .nil
  | d :: ds, _, h => by
    cases h with
    | cons h1 h2 => exact .cons (dp_mono e d _ h1) (dpAll_mono e ds _ h2)
end
theorem dpa_len {F : Hp} : ∀ {vs : List V} {ds : List PyData}, DpAll K F vs ds → vs.length = ds.length
  | _, _, .nil => rfl
  | _, _, .cons _ t => by rw [List.length_cons, List.length_cons, dpa_len t]
theorem dpa_get {F : Hp} : ∀ {vs : List V} {ds : List PyData} {i : Nat} {d : PyData}, DpAll K F vs ds → ds[i]? = some d → ∃ v, vs[i]? = some v ∧ Dp K F v d
  | _, _, i, d, .nil, h => by simp at h
  | _, _, 0, d, .cons h t, e => by simp at e; subst e; exact ⟨_, rfl, h⟩
  | _, _, i + 1, d, .cons h t, e => by
    obtain ⟨v, e1, e2⟩ := dpa_get (i := i) t (by simpa using e)
    exact ⟨v, by simpa using e1, e2⟩
theorem dpa_getV {F : Hp} {vs : List V} {ds : List PyData} {i : Nat} {v : V} (h : DpAll K F vs ds) (e : vs[i]? = some v) : ∃ d, ds[i]? = some d ∧ Dp K F v d := by
  have hl := dpa_len h
  have hi := (List.getElem?_eq_some_iff.mp e).1
  have hd : ds[i]? = some (ds[i]'(by omega)) := List.getElem?_eq_getElem (by omega)
  obtain ⟨v', e1, e2⟩ := dpa_get h hd
  rw [e] at e1; cases e1
  exact ⟨_, hd, e2⟩
theorem dpa_append {F : Hp} : ∀ {vs ws : List V} {ds es : List PyData}, DpAll K F vs ds → DpAll K F ws es → DpAll K F (vs ++ ws) (ds ++ es)
  | _, _, _, _, .nil, s => s
  | _, _, _, _, .cons h t, s => .cons h (dpa_append t s)
theorem dpa_take {F : Hp} : ∀ {vs : List V} {ds : List PyData} (n : Nat), DpAll K F vs ds → DpAll K F (vs.take n) (ds.take n)
  | _, _, 0, _ => .nil
  | _, _, _ + 1, .nil => .nil
  | _, _, n + 1, .cons h t => .cons h (dpa_take n t)
theorem dpa_drop {F : Hp} : ∀ {vs : List V} {ds : List PyData} (n : Nat), DpAll K F vs ds → DpAll K F (vs.drop n) (ds.drop n)
  | _, _, 0, h => h
  | _, _, _ + 1, .nil => .nil
  | _, _, n + 1, .cons h t => dpa_drop n t
theorem dpa_set {F : Hp} {v : V} {d : PyData} (h : Dp K F v d) : ∀ {vs : List V} {ds : List PyData} (n : Nat), DpAll K F vs ds → DpAll K F (vs.set n v) (ds.set n d)
  | _, _, _, .nil => .nil
  | _, _, 0, .cons _ t => .cons h t
  | _, _, n + 1, .cons q t => .cons q (dpa_set h n t)
/-- lists that hold ints alone, texts alone -/
theorem dpAll_ints {F : Hp} : ∀ {vs : List V} {ns : List Int}, DpAll K F vs (ns.map PyData.int) → vs = ns.map V.int
  | vs, [], h => by cases h; rfl
  | vs, n :: ns, h => by
    cases h with
    | cons h1 h2 =>
      cases h1
      rw [dpAll_ints h2]; rfl
theorem dpAll_strs {F : Hp} : ∀ {vs : List V} {ns : List Str}, DpAll K F vs (ns.map PyData.str) → vs = ns.map V.str
  | vs, [], h => by cases h; rfl
  | vs, n :: ns, h => by
    cases h with
    | cons h1 h2 =>
      cases h1
      rw [dpAll_strs h2]; rfl
theorem ints_dpAll {F : Hp} : ∀ (ns : List Int), DpAll K F (ns.map V.int) (ns.map PyData.int)
  | [] => .nil
  | n :: ns => .cons (.int n) (ints_dpAll ns)
theorem strs_dpAll {F : Hp} : ∀ (ns : List Str), DpAll K F (ns.map V.str) (ns.map PyData.str)
  | [] => .nil
  | n :: ns => .cons (.str n) (strs_dpAll ns)
end

/-! ### slots -/
inductive Sl where
  | no | val (d : PyData) | own (l : List PyData) | exc (v : V) (a : Addr) (fs : List (Str × PyData))
abbrev Dn := List Sl
structure EnvR (K : PySem.W.Frag) (H0 F H : Hp) (σ : L2.St) (δ : Dn) : Prop where
  len : σ.length = δ.length
  val : ∀ (i : Nat) (d : PyData), δ[i]? = some (Sl.val d) → ∃ v, σ[i]? = some (some v) ∧ Dp K F v d
  own : ∀ (i : Nat) (l : List PyData), δ[i]? = some (Sl.own l) → ∃ (p : Addr) (vs : List V), σ[i]? = some (some (V.ref p)) ∧ H p = some (HO.lst vs) ∧ F p = none ∧ H0 p = none ∧ DpAll K F vs l
  sep : ∀ (i j : Nat) (p : Addr) (l m : List PyData), i ≠ j → δ[i]? = some (Sl.own l) → δ[j]? = some (Sl.own m) → σ[i]? = some (some (V.ref p)) → σ[j]? ≠ some (some (V.ref p))
  exc : ∀ (i : Nat) (v : V) (a : Addr) (fs : List (Str × PyData)), δ[i]? = some (Sl.exc v a fs) → σ[i]? = some (some v) ∧ ∃ vs : List V, H a = some (HO.xd ((fs.map (·.1)).zip vs)) ∧ DpAll K F vs (fs.map (·.2))
section
variable {K : PySem.W.Frag} {H0 F F' H H' : Hp} {σ : L2.St} {δ : Dn}
theorem EnvR.mono (E : EnvR K H0 F H σ δ) (e : Ext F F' H H') : EnvR K H0 F' H' σ δ where
  len := E.len
  val := fun i d h => by
    obtain ⟨v, h1, h2⟩ := E.val i d h
    exact ⟨v, h1, dp_mono e.a d v h2⟩
  own := fun i l h => by
    obtain ⟨p, vs, h1, h2, h3, h4, h5⟩ := E.own i l h
    exact ⟨p, vs, h1, e.b _ _ h2, e.n p (by rw [h2]; exact fun z => nomatch z) h3, h4, dpAll_mono e.a l vs h5⟩
  sep := E.sep
  exc := fun i v a fs h => by
    obtain ⟨h1, vs, h2, h3⟩ := E.exc i v a fs h
    exact ⟨h1, vs, e.b _ _ h2, dpAll_mono e.a _ _ h3⟩
theorem EnvR.lt (E : EnvR K H0 F H σ δ) {i : Nat} {s : Sl} (h : δ[i]? = some s) : i < σ.length := by
  rw [E.len]; exact (List.getElem?_eq_some_iff.mp h).1
theorem set_get {α : Type} {l : List α} {i j : Nat} {x y : α} (h : (l.set i x)[j]? = some y) : (i = j ∧ y = x) ∨ (i ≠ j ∧ l[j]? = some y) := by
  by_cases e : i = j
  · subst e
    have hl : i < l.length := by
      have := (List.getElem?_eq_some_iff.mp h).1
      simpa using this
    rw [List.getElem?_set_self hl] at h
    cases h
    exact .inl ⟨rfl, rfl⟩
  · rw [List.getElem?_set_ne e] at h
    exact .inr ⟨e, h⟩
/-- a slot gets a known value -/
theorem EnvR.setV (E : EnvR K H0 F H σ δ) {i : Nat} {v : V} {d : PyData} (h : Dp K F v d) : EnvR K H0 F H (σ.set i (some v)) (δ.set i (Sl.val d)) where
  len := by rw [List.length_set, List.length_set]; exact E.len
  val := fun j d' hj => by
    have hl : j < σ.length := by
      have := (List.getElem?_eq_some_iff.mp hj).1
      rw [E.len]; simpa using this
    rcases set_get hj with ⟨rfl, e⟩ | ⟨e, hj'⟩
    · cases e
      exact ⟨v, List.getElem?_set_self hl, h⟩
    · obtain ⟨v', h1, h2⟩ := E.val j d' hj'
      exact ⟨v', by rw [List.getElem?_set_ne e]; exact h1, h2⟩
  own := fun j l hj => by
    rcases set_get hj with ⟨rfl, e⟩ | ⟨e, hj'⟩
    · cases e
    · obtain ⟨p, vs, h1, h2⟩ := E.own j l hj'
      exact ⟨p, vs, by rw [List.getElem?_set_ne e]; exact h1, h2⟩
  sep := fun a b p l m hab ha hb hp => by
    rcases set_get ha with ⟨rfl, e⟩ | ⟨e, ha'⟩
    · cases e
    rcases set_get hb with ⟨rfl, e'⟩ | ⟨e', hb'⟩
    · cases e'
    rw [List.getElem?_set_ne e] at hp
    rw [List.getElem?_set_ne e']
    exact E.sep a b p l m hab ha' hb' hp
  exc := fun j w a fs hj => by
    rcases set_get hj with ⟨rfl, e⟩ | ⟨e, hj'⟩
    · cases e
    · obtain ⟨g1, g2⟩ := E.exc j w a fs hj'
      exact ⟨by rw [List.getElem?_set_ne e]; exact g1, g2⟩
/-- a slot gets a new list of its own -/
theorem EnvR.setO (E : EnvR K H0 F H σ δ) {i : Nat} {p : Addr} {vs : List V} {l : List PyData} (hp : H p = none) (h0 : H0 p = none) (hf : F p = none) (h : DpAll K F vs l) :
    EnvR K H0 F (upd H p (HO.lst vs)) (σ.set i (some (V.ref p))) (δ.set i (Sl.own l)) where
  len := by rw [List.length_set, List.length_set]; exact E.len
  val := fun j d' hj => by
    rcases set_get hj with ⟨rfl, e⟩ | ⟨e, hj'⟩
    · cases e
    · obtain ⟨v', h1, h2⟩ := E.val j d' hj'
      exact ⟨v', by rw [List.getElem?_set_ne e]; exact h1, h2⟩
  own := fun j l' hj => by
    have hl : j < σ.length := by
      have := (List.getElem?_eq_some_iff.mp hj).1
      rw [E.len]; simpa using this
    rcases set_get hj with ⟨rfl, e⟩ | ⟨e, hj'⟩
    · cases e
      exact ⟨p, vs, List.getElem?_set_self hl, upd_same, hf, h0, h⟩
    · obtain ⟨q, ws, h1, h2, h3, h4, h5⟩ := E.own j l' hj'
      exact ⟨q, ws, by rw [List.getElem?_set_ne e]; exact h1, by rw [upd_ne (ne_of_none h2 hp)]; exact h2, h3, h4, h5⟩
  sep := fun a b q l m hab ha hb hq => by
    rcases set_get ha with ⟨rfl, e⟩ | ⟨e, ha'⟩
    · rcases set_get hb with ⟨rfl, e'⟩ | ⟨e', hb'⟩
      · exact absurd rfl hab
      · obtain ⟨q', ws, h1, h2, _⟩ := E.own b m hb'
        rcases set_get hq with ⟨_, eq⟩ | ⟨ne, _⟩
        · cases eq
          rw [List.getElem?_set_ne e', h1]
          intro z; cases z
          rw [hp] at h2; cases h2
        · exact absurd rfl ne
    · rcases set_get hb with ⟨rfl, e'⟩ | ⟨e', hb'⟩
      · obtain ⟨q', ws, h1, h2, _⟩ := E.own a l ha'
        rw [List.getElem?_set_ne e, h1] at hq
        cases hq
        intro z
        rcases set_get z with ⟨_, eq⟩ | ⟨ne, _⟩
        · cases eq
          rw [hp] at h2; cases h2
        · exact ne rfl
      · rw [List.getElem?_set_ne e] at hq
        rw [List.getElem?_set_ne e']
        exact E.sep a b q l m hab ha' hb' hq
  exc := fun j w a fs hj => by
    rcases set_get hj with ⟨rfl, e⟩ | ⟨e, hj'⟩
    · cases e
    · obtain ⟨g1, ws, g2, g3⟩ := E.exc j w a fs hj'
      exact ⟨by rw [List.getElem?_set_ne e]; exact g1, ws, by rw [upd_ne (ne_of_none g2 hp)]; exact g2, g3⟩
/-- an own list is changed -/
theorem EnvR.chg (E : EnvR K H0 F H σ δ) {i : Nat} {p : Addr} {l l' : List PyData} {vs' : List V} (hi : δ[i]? = some (Sl.own l)) (hp : σ[i]? = some (some (V.ref p))) (h : DpAll K F vs' l') :
    EnvR K H0 F (upd H p (HO.lst vs')) σ (δ.set i (Sl.own l')) where
  len := by rw [List.length_set]; exact E.len
  val := fun j d' hj => by
    rcases set_get hj with ⟨rfl, e⟩ | ⟨e, hj'⟩
    · cases e
    · exact E.val j d' hj'
  own := fun j m hj => by
    rcases set_get hj with ⟨rfl, e⟩ | ⟨e, hj'⟩
    · cases e
      obtain ⟨q, vs, h1, h2, h3, h4, h5⟩ := E.own i l hi
      rw [hp] at h1; cases h1
      exact ⟨p, vs', hp, upd_same, h3, h4, h⟩
    · obtain ⟨q, ws, h1, h2, h3, h4, h5⟩ := E.own j m hj'
      have hne : q ≠ p := fun z => by
        subst z
        exact E.sep j i q m l (fun z => e z.symm) hj' hi h1 hp
      exact ⟨q, ws, h1, by rw [upd_ne hne]; exact h2, h3, h4, h5⟩
  sep := fun a b q m m' hab ha hb hq => by
    have fa : ∃ x, δ[a]? = some (Sl.own x) := by
      rcases set_get ha with ⟨rfl, e⟩ | ⟨e, ha'⟩
      · exact ⟨l, hi⟩
      · exact ⟨m, ha'⟩
    have fb : ∃ x, δ[b]? = some (Sl.own x) := by
      rcases set_get hb with ⟨rfl, e⟩ | ⟨e, hb'⟩
      · exact ⟨l, hi⟩
      · exact ⟨m', hb'⟩
    obtain ⟨x, ha'⟩ := fa
    obtain ⟨y, hb'⟩ := fb
    exact E.sep a b q x y hab ha' hb' hq
  exc := fun j w a fs hj => by
    rcases set_get hj with ⟨rfl, e⟩ | ⟨e, hj'⟩
    · cases e
    · obtain ⟨g1, ws, g2, g3⟩ := E.exc j w a fs hj'
      obtain ⟨q, vs, h1, h2, _⟩ := E.own i l hi
      rw [hp] at h1; cases h1
      have hne : a ≠ p := fun z => by
        rw [z, h2] at g2; cases g2
      exact ⟨g1, ws, by rw [upd_ne hne]; exact g2, g3⟩
/-- an own list is taken into the frozen part -/
theorem EnvR.frz (E : EnvR K H0 F H σ δ) {i : Nat} {l : List PyData} (hi : δ[i]? = some (Sl.own l)) {F0 : Hp} (x : Ext F0 F H0 H) :
    ∃ F', Ext F0 F' H0 H ∧ Same F F' ∧ EnvR K H0 F' H σ (δ.set i (Sl.val (.list l))) := by
  obtain ⟨p, vs, h1, h2, h3, h4, h5⟩ := E.own i l hi
  have sF : Same F (upd F p (HO.lst vs)) := same_upd (Same.refl _) h3
  refine ⟨upd F p (HO.lst vs), x.freeze h4 h3 h2, sF, ?_⟩
  refine ⟨by rw [List.length_set]; exact E.len, fun j d hj => ?_, fun j m hj => ?_, fun a b q m m' hab ha hb hq => ?_, fun j w a fs hj => ?_⟩
  · rcases set_get hj with ⟨rfl, e⟩ | ⟨e, hj'⟩
    · cases e
      exact ⟨.ref p, h1, .lst (SqL.of upd_same) (dpAll_mono sF l vs h5)⟩
    · obtain ⟨v, g1, g2⟩ := E.val j d hj'
      exact ⟨v, g1, dp_mono sF d v g2⟩
  · rcases set_get hj with ⟨rfl, e⟩ | ⟨e, hj'⟩
    · cases e
    · obtain ⟨q, ws, g1, g2, g3, g4, g5⟩ := E.own j m hj'
      have hne : q ≠ p := fun z => by
        subst z
        exact E.sep j i q m l (fun z => e z.symm) hj' hi g1 h1
      exact ⟨q, ws, g1, g2, by rw [upd_ne hne]; exact g3, g4, dpAll_mono sF m ws g5⟩
  · rcases set_get ha with ⟨rfl, e⟩ | ⟨e, ha'⟩
    · cases e
    rcases set_get hb with ⟨rfl, e'⟩ | ⟨e', hb'⟩
    · cases e'
    exact E.sep a b q m m' hab ha' hb' hq
  · rcases set_get hj with ⟨rfl, e⟩ | ⟨e, hj'⟩
    · cases e
    · obtain ⟨g1, ws, g2, g3⟩ := E.exc j w a fs hj'
      exact ⟨g1, ws, g2, dpAll_mono sF _ _ g3⟩
/-- a slot is forgotten -/
theorem EnvR.drop (E : EnvR K H0 F H σ δ) (i : Nat) : EnvR K H0 F H σ (δ.set i Sl.no) where
  len := by rw [List.length_set]; exact E.len
  val := fun j d hj => by
    rcases set_get hj with ⟨rfl, e⟩ | ⟨e, hj'⟩
    · cases e
    · exact E.val j d hj'
  own := fun j m hj => by
    rcases set_get hj with ⟨rfl, e⟩ | ⟨e, hj'⟩
    · cases e
    · exact E.own j m hj'
  sep := fun a b q m m' hab ha hb hq => by
    rcases set_get ha with ⟨rfl, e⟩ | ⟨e, ha'⟩
    · cases e
    rcases set_get hb with ⟨rfl, e'⟩ | ⟨e', hb'⟩
    · cases e'
    exact E.sep a b q m m' hab ha' hb' hq
  exc := fun j w a fs hj => by
    rcases set_get hj with ⟨rfl, e⟩ | ⟨e, hj'⟩
    · cases e
    · exact E.exc j w a fs hj'
/-- δ' knows less than δ -/
def Less (δ' δ : Dn) : Prop := δ'.length = δ.length ∧ ∀ (i : Nat) (s : Sl), δ'[i]? = some s → s = Sl.no ∨ δ[i]? = some s
theorem Less.refl (δ : Dn) : Less δ δ := ⟨rfl, fun _ _ h => .inr h⟩
theorem EnvR.less {δ' : Dn} (E : EnvR K H0 F H σ δ) (h : Less δ' δ) : EnvR K H0 F H σ δ' where
  len := by rw [h.1]; exact E.len
  val := fun j d hj => by
    rcases h.2 j _ hj with e | e
    · cases e
    · exact E.val j d e
  own := fun j m hj => by
    rcases h.2 j _ hj with e | e
    · cases e
    · exact E.own j m e
  sep := fun a b q m m' hab ha hb hq => by
    rcases h.2 a _ ha with e | e
    · cases e
    rcases h.2 b _ hb with e' | e'
    · cases e'
    exact E.sep a b q m m' hab e e' hq
  exc := fun j w a fs hj => by
    rcases h.2 j _ hj with e | e
    · cases e
    · exact E.exc j w a fs e
/-- some slots lose their value (a comprehension's own names) -/
theorem EnvR.wipe1 (E : EnvR K H0 F H σ δ) (i : Nat) : EnvR K H0 F H (σ.set i none) (δ.set i Sl.no) where
  len := by rw [List.length_set, List.length_set]; exact E.len
  val := fun j d hj => by
    rcases set_get hj with ⟨rfl, e⟩ | ⟨e, hj'⟩
    · cases e
    · obtain ⟨v, g1, g2⟩ := E.val j d hj'
      exact ⟨v, by rw [List.getElem?_set_ne e]; exact g1, g2⟩
  own := fun j m hj => by
    rcases set_get hj with ⟨rfl, e⟩ | ⟨e, hj'⟩
    · cases e
    · obtain ⟨p, vs, g1, g2⟩ := E.own j m hj'
      exact ⟨p, vs, by rw [List.getElem?_set_ne e]; exact g1, g2⟩
  sep := fun a b q m m' hab ha hb hq => by
    rcases set_get ha with ⟨rfl, e⟩ | ⟨e, ha'⟩
    · cases e
    rcases set_get hb with ⟨rfl, e'⟩ | ⟨e', hb'⟩
    · cases e'
    rw [List.getElem?_set_ne e] at hq
    rw [List.getElem?_set_ne e']
    exact E.sep a b q m m' hab ha' hb' hq
  exc := fun j w a fs hj => by
    rcases set_get hj with ⟨rfl, e⟩ | ⟨e, hj'⟩
    · cases e
    · obtain ⟨g1, g2⟩ := E.exc j w a fs hj'
      exact ⟨by rw [List.getElem?_set_ne e]; exact g1, g2⟩
def wipeD (δ : Dn) : List Nat → Dn
  | [] => δ
  | v :: vs => (wipeD δ vs).set v Sl.no
theorem EnvR.wipes (E : EnvR K H0 F H σ δ) : ∀ vs : List Nat, EnvR K H0 F H (wipe σ vs) (wipeD δ vs)
  | [] => E
  | v :: vs => (EnvR.wipes E vs).wipe1 v
/-- at the entry -/
theorem EnvR.start {N : List Str} {vs : List V} {ds : List PyData} (h : DpAll K F vs ds) (hn : ds.length ≤ N.length) :
    EnvR K H0 F H (L2.start N vs) (ds.map Sl.val ++ List.replicate (N.length - ds.length) Sl.no) := by
  have hl := dpa_len h
  refine ⟨?_, fun i d hi => ?_, fun i m hi => ?_, fun a b q m m' hab ha hb hq => ?_, fun i w a fs hi => ?_⟩
  · unfold L2.start; simp only [List.length_append, List.length_map, List.length_replicate]; omega
  · unfold L2.start
    by_cases hlt : i < ds.length
    · rw [List.getElem?_append_left (by simpa using hlt), List.getElem?_map] at hi
      cases e : ds[i]? with
      | none => rw [e] at hi; cases hi
      | some d' =>
        rw [e] at hi; cases hi
        obtain ⟨v, g1, g2⟩ := dpa_get h e
        exact ⟨v, by rw [List.getElem?_append_left (by simp; omega), List.getElem?_map, g1]; rfl, g2⟩
    · rw [List.getElem?_append_right (by simpa using hlt), List.getElem?_replicate] at hi
      split at hi <;> cases hi
  · by_cases hlt : i < ds.length
    · rw [List.getElem?_append_left (by simpa using hlt), List.getElem?_map] at hi
      cases e : ds[i]? with
      | none => rw [e] at hi; cases hi
      | some d' => rw [e] at hi; cases hi
    · rw [List.getElem?_append_right (by simpa using hlt), List.getElem?_replicate] at hi
      split at hi <;> cases hi
  · by_cases hlt : a < ds.length
    · rw [List.getElem?_append_left (by simpa using hlt), List.getElem?_map] at ha
      cases e : ds[a]? with
      | none => rw [e] at ha; cases ha
      | some d' => rw [e] at ha; cases ha
    · rw [List.getElem?_append_right (by simpa using hlt), List.getElem?_replicate] at ha
      split at ha <;> cases ha
  · by_cases hlt : i < ds.length
    · rw [List.getElem?_append_left (by simpa using hlt), List.getElem?_map] at hi
      cases e : ds[i]? with
      | none => rw [e] at hi; cases hi
      | some d' => rw [e] at hi; cases hi
    · rw [List.getElem?_append_right (by simpa using hlt), List.getElem?_replicate] at hi
      split at hi <;> cases hi
/-- a slot gets the caught error -/
theorem EnvR.setX (E : EnvR K H0 F H σ δ) {i : Nat} {v : V} {b : Addr} {us : List V} {fx : List (Str × PyData)} (hb : H b = some (HO.xd ((fx.map (·.1)).zip us))) (hd : DpAll K F us (fx.map (·.2))) :
    EnvR K H0 F H (σ.set i (some v)) (δ.set i (Sl.exc v b fx)) where
  len := by rw [List.length_set, List.length_set]; exact E.len
  val := fun j d hj => by
    rcases set_get hj with ⟨rfl, e⟩ | ⟨e, hj'⟩
    · cases e
    · obtain ⟨v, g1, g2⟩ := E.val j d hj'
      exact ⟨v, by rw [List.getElem?_set_ne e]; exact g1, g2⟩
  own := fun j m hj => by
    rcases set_get hj with ⟨rfl, e⟩ | ⟨e, hj'⟩
    · cases e
    · obtain ⟨p, vs, g1, g2⟩ := E.own j m hj'
      exact ⟨p, vs, by rw [List.getElem?_set_ne e]; exact g1, g2⟩
  sep := fun a b q m m' hab ha hb hq => by
    rcases set_get ha with ⟨rfl, e⟩ | ⟨e, ha'⟩
    · cases e
    rcases set_get hb with ⟨rfl, e'⟩ | ⟨e', hb'⟩
    · cases e'
    rw [List.getElem?_set_ne e] at hq
    rw [List.getElem?_set_ne e']
    exact E.sep a b q m m' hab ha' hb' hq
  exc := fun j w a fs hj => by
    have hl : j < σ.length := by
      have := (List.getElem?_eq_some_iff.mp hj).1
      rw [E.len]; simpa using this
    rcases set_get hj with ⟨rfl, e⟩ | ⟨e, hj'⟩
    · cases e
      exact ⟨List.getElem?_set_self hl, us, hb, hd⟩
    · obtain ⟨g1, g2⟩ := E.exc j w a fs hj'
      exact ⟨by rw [List.getElem?_set_ne e]; exact g1, g2⟩
end
end DL
set_option Elab.async false
set_option linter.all false
set_option maxRecDepth 100000
set_option maxHeartbeats 2000000
/-! DL2: what an expression, a test, a statement answers of data. -/
namespace DL
open PySem L2

/-- an error: its class, its fields -/
structure Exn where
  c : Addr
  fs : List (Str × PyData)
abbrev Res (α : Type) := Except Exn α
def XAt (K : PySem.W.Frag) (F H : Hp) (x : Exn) (cls : Value) (d : Option Addr) : Prop :=
  cls = .ref x.c ∧ ∃ (a : Addr) (vs : List V), d = some a ∧ H a = some (HO.xd ((x.fs.map (·.1)).zip vs)) ∧ DpAll K F vs (x.fs.map (·.2))
theorem XAt.mono {K : PySem.W.Frag} {F F' H H' : Hp} {x : Exn} {cls : Value} {d : Option Addr} (h : XAt K F H x cls d) (e : Ext F F' H H') : XAt K F' H' x cls d := by
  obtain ⟨h1, a, vs, h2, h3, h4⟩ := h
  exact ⟨h1, a, vs, h2, e.b _ _ h3, dpAll_mono e.a _ _ h4⟩

def EndV (K : PySem.W.Frag) (W : WX) (F H : Hp) (σ : L2.St) (Q : VK) : Res PyData → Prop
  | .ok d => ∀ v F' H', Ext F F' H H' → Dp K F' v d → Q v H'
  | .error x => ∀ cls d F' H', Ext F F' H H' → XAt K F' H' x cls d → W cls d σ H'
def EndA (K : PySem.W.Frag) (W : WX) (F H : Hp) (σ : L2.St) (Q : List V → Hp → Prop) : Res (List PyData) → Prop
  | .ok ds => ∀ vs F' H', Ext F F' H H' → DpAll K F' vs ds → Q vs H'
  | .error x => ∀ cls d F' H', Ext F F' H H' → XAt K F' H' x cls d → W cls d σ H'
def EndT (K : PySem.W.Frag) (W : WX) (F H : Hp) (σ : L2.St) (Q : Bool → Hp → Prop) : Res Bool → Prop
  | .ok b => ∀ F' H', Ext F F' H H' → Q b H'
  | .error x => ∀ cls d F' H', Ext F F' H H' → XAt K F' H' x cls d → W cls d σ H'

/-- te, from slots that bear δ, answers r -/
def EvD (K : PySem.W.Frag) (W : WX) (te : TE) (δ : Dn) (r : Res PyData) : Prop :=
  ∀ (H0 F H : Hp) (σ : L2.St) (Q : VK), Same F H → EnvR K H0 F H σ δ → EndV K W F H σ Q r → te σ H Q
def EvA (K : PySem.W.Frag) (W : WX) (ta : TA) (δ : Dn) (r : Res (List PyData)) : Prop :=
  ∀ (H0 F H : Hp) (σ : L2.St) (Q : List V → Hp → Prop), Same F H → EnvR K H0 F H σ δ → EndA K W F H σ Q r → ta σ H Q
def EvT (K : PySem.W.Frag) (W : WX) (tt : TT) (δ : Dn) (r : Res Bool) : Prop :=
  ∀ (H0 F H : Hp) (σ : L2.St) (Q : Bool → Hp → Prop), Same F H → EnvR K H0 F H σ δ → EndT K W F H σ Q r → tt σ H Q

/-- what follows, as an operation on data -/
def RD (K : PySem.W.Frag) (r : R2) (x y z : PyData) : Prop :=
  ∀ (F H : Hp) (u v : V) (Q : VK), Same F H → Dp K F u x → Dp K F v y → (∀ w F' H', Ext F F' H H' → Dp K F' w z → Q w H') → r u v H Q
def RU1 (K : PySem.W.Frag) (r : V → Hp → VK → Prop) (x z : PyData) : Prop :=
  ∀ (F H : Hp) (u : V) (Q : VK), Same F H → Dp K F u x → (∀ w F' H', Ext F F' H H' → Dp K F' w z → Q w H') → r u H Q
def RC (K : PySem.W.Frag) (r : List V → Hp → VK → Prop) (xs : List PyData) (z : PyData) : Prop :=
  ∀ (F H : Hp) (us : List V) (Q : VK), Same F H → DpAll K F us xs → (∀ w F' H', Ext F F' H H' → Dp K F' w z → Q w H') → r us H Q

section
variable {K : PySem.W.Frag} {W : WX} {δ : Dn} {ta tb te tc : TE} {t u : TT} {x y z d : PyData} {r : R2} {e : Exn}
theorem ev_var {i : Nat} (h : δ[i]? = some (Sl.val d)) : EvD K W (tVar i) δ (.ok d) := fun H0 F H σ Q s E q => by
  obtain ⟨v, h1, h2⟩ := E.val i d h
  exact ⟨v, h1, q v F H (Ext.refl s) h2⟩
theorem ev_int {i : Int} : EvD K W (tC (.int i)) δ (.ok (.int i)) := fun H0 F H σ Q s E q => q _ F H (Ext.refl s) (.int i)
theorem ev_str {i : Str} : EvD K W (tC (.str i)) δ (.ok (.str i)) := fun H0 F H σ Q s E q => q _ F H (Ext.refl s) (.str i)
theorem ev_bl {b : Bool} : EvD K W (tC (.bl b)) δ (.ok (.bool b)) := fun H0 F H σ Q s E q => q _ F H (Ext.refl s) (.bl b)
theorem ev_non : EvD K W (tC .non) δ (.ok .none) := fun H0 F H σ Q s E q => q _ F H (Ext.refl s) .non
/-- a constant of the module: a tuple of the written part -/
theorem ev_glob {v : V} (h : ∀ F : Hp, Dp K F v d) : EvD K W (tC v) δ (.ok d) := fun H0 F H σ Q s E q => q _ F H (Ext.refl s) (h F)
theorem ev_op (ha : EvD K W ta δ (.ok x)) (hb : EvD K W tb δ (.ok y)) (hr : RD K r x y z) : EvD K W (tOp r ta tb) δ (.ok z) := fun H0 F H σ Q s E q =>
  ha H0 F H σ _ s E fun v F1 H1 e1 d1 => hb H0 F1 H1 σ _ e1.c (E.mono e1) fun w F2 H2 e2 d2 =>
    hr F2 H2 v w Q e2.c (dp_mono e2.a _ _ d1) d2 fun w F3 H3 e3 d3 => q w F3 H3 ((e1.trans e2).trans e3) d3
theorem ev_opX1 (ha : EvD K W ta δ (.error e)) : EvD K W (tOp r ta tb) δ (.error e) := fun H0 F H σ Q s E q => ha H0 F H σ _ s E q
theorem ev_opX2 (ha : EvD K W ta δ (.ok x)) (hb : EvD K W tb δ (.error e)) : EvD K W (tOp r ta tb) δ (.error e) := fun H0 F H σ Q s E q =>
  ha H0 F H σ _ s E fun v F1 H1 e1 d1 => hb H0 F1 H1 σ _ e1.c (E.mono e1) fun cls d F2 H2 e2 x => q cls d F2 H2 (e1.trans e2) x
theorem ev_un {r : V → Hp → VK → Prop} (ha : EvD K W ta δ (.ok x)) (hr : RU1 K r x z) : EvD K W (tUn r ta) δ (.ok z) := fun H0 F H σ Q s E q =>
  ha H0 F H σ _ s E fun v F1 H1 e1 d1 => hr F1 H1 v Q e1.c d1 fun w F3 H3 e3 d3 => q w F3 H3 (e1.trans e3) d3
theorem ea_nil : EvA K W tNil δ (.ok []) := fun H0 F H σ Q s E q => q [] F H (Ext.refl s) .nil
theorem ea_cons {tr : TA} {ds : List PyData} (ha : EvD K W ta δ (.ok x)) (hr : EvA K W tr δ (.ok ds)) : EvA K W (tCons ta tr) δ (.ok (x :: ds)) := fun H0 F H σ Q s E q =>
  ha H0 F H σ _ s E fun v F1 H1 e1 d1 => hr H0 F1 H1 σ _ e1.c (E.mono e1) fun vs F2 H2 e2 d2 => q _ F2 H2 (e1.trans e2) (.cons (dp_mono e2.a _ _ d1) d2)
theorem ea_consX1 {tr : TA} (ha : EvD K W ta δ (.error e)) : EvA K W (tCons ta tr) δ (.error e) := fun H0 F H σ Q s E q => ha H0 F H σ _ s E q
theorem ea_consX2 {tr : TA} (ha : EvD K W ta δ (.ok x)) (hr : EvA K W tr δ (.error e)) : EvA K W (tCons ta tr) δ (.error e) := fun H0 F H σ Q s E q =>
  ha H0 F H σ _ s E fun v F1 H1 e1 d1 => hr H0 F1 H1 σ _ e1.c (E.mono e1) fun cls d F2 H2 e2 x => q cls d F2 H2 (e1.trans e2) x
theorem ev_tup {ta : TA} {ds : List PyData} (h : EvA K W ta δ (.ok ds)) (hl : ds.length ≤ sizeLine := by (first | decide | simp)) : EvD K W (tTup ta) δ (.ok (.tuple ds)) := fun H0 F H σ Q s E q =>
  h H0 F H σ _ s E fun vs F1 H1 e1 d1 => ⟨by rw [dpa_len d1]; exact hl, fun p hp => q _ (upd F1 p (.tup vs)) _ (e1.trans (Ext.new e1.c hp)) (.tup (SqT.of upd_same) (dpAll_mono (same_upd (Same.refl _) (e1.c.free hp)) _ _ d1))⟩
theorem ev_tupX {ta : TA} (h : EvA K W ta δ (.error e)) : EvD K W (tTup ta) δ (.error e) := fun H0 F H σ Q s E q => h H0 F H σ _ s E q
theorem ev_lst {ta : TA} {ds : List PyData} (h : EvA K W ta δ (.ok ds)) (hl : ds.length ≤ sizeLine := by (first | decide | simp)) : EvD K W (tLst ta) δ (.ok (.list ds)) := fun H0 F H σ Q s E q =>
  h H0 F H σ _ s E fun vs F1 H1 e1 d1 => ⟨by rw [dpa_len d1]; exact hl, fun p hp => q _ (upd F1 p (.lst vs)) _ (e1.trans (Ext.new e1.c hp)) (.lst (SqL.of upd_same) (dpAll_mono (same_upd (Same.refl _) (e1.c.free hp)) _ _ d1))⟩
theorem ev_cb {rc : List V → Hp → VK → Prop} {ta : TA} {ds : List PyData} (h : EvA K W ta δ (.ok ds)) (hr : RC K rc ds z) : EvD K W (tCB rc ta) δ (.ok z) := fun H0 F H σ Q s E q =>
  h H0 F H σ _ s E fun vs F1 H1 e1 d1 => hr F1 H1 vs Q e1.c d1 fun w F3 H3 e3 d3 => q w F3 H3 (e1.trans e3) d3
theorem ev_cbX {rc : List V → Hp → VK → Prop} {ta : TA} (h : EvA K W ta δ (.error e)) : EvD K W (tCB rc ta) δ (.error e) := fun H0 F H σ Q s E q => h H0 F H σ _ s E q

/-! tests -/
theorem et_B {b : Bool} (h : EvD K W te δ (.ok (.bool b))) : EvT K W (tB te) δ (.ok b) := fun H0 F H σ Q s E q =>
  h H0 F H σ _ s E fun v F1 H1 e1 d1 => by
    cases d1
    exact ⟨b, rfl, q F1 H1 e1⟩
theorem et_BX (h : EvD K W te δ (.error e)) : EvT K W (tB te) δ (.error e) := fun H0 F H σ Q s E q => h H0 F H σ _ s E q
theorem et_test {b : Bool} (h : EvD K W te δ (.ok (.bool b))) : EvT K W (tTest te) δ (.ok b) := fun H0 F H σ Q s E q =>
  h H0 F H σ _ s E fun v F1 H1 e1 d1 => by
    cases d1
    exact ⟨b, rfl, q F1 H1 e1⟩
theorem et_and {a b : Bool} (h1 : EvT K W t δ (.ok a)) (h2 : a = true → EvT K W u δ (.ok b)) : EvT K W (tAnd t u) δ (.ok (a && b)) := fun H0 F H σ Q s E q =>
  h1 H0 F H σ _ s E fun F1 H1 e1 => by
    cases a with
    | true => exact h2 rfl H0 F1 H1 σ Q e1.c (E.mono e1) fun F2 H2 e2 => q F2 H2 (e1.trans e2)
    | false => exact q F1 H1 e1
theorem et_or {a b : Bool} (h1 : EvT K W t δ (.ok a)) (h2 : a = false → EvT K W u δ (.ok b)) : EvT K W (tOr t u) δ (.ok (a || b)) := fun H0 F H σ Q s E q =>
  h1 H0 F H σ _ s E fun F1 H1 e1 => by
    cases a with
    | true => exact q F1 H1 e1
    | false => exact h2 rfl H0 F1 H1 σ Q e1.c (E.mono e1) fun F2 H2 e2 => q F2 H2 (e1.trans e2)
theorem et_not {a : Bool} (h1 : EvT K W t δ (.ok a)) : EvT K W (tNot t) δ (.ok (!a)) := fun H0 F H σ Q s E q => h1 H0 F H σ _ s E q
theorem et_is {a b : Bool} (h : EvT K W t δ (.ok a)) (e : a = b) : EvT K W t δ (.ok b) := e ▸ h
theorem ev_is {x y : PyData} (h : EvD K W te δ (.ok x)) (e : x = y) : EvD K W te δ (.ok y) := e ▸ h
theorem ev_andV {a b : Bool} (h1 : EvD K W ta δ (.ok (.bool a))) (h2 : a = true → EvD K W tb δ (.ok (.bool b))) : EvD K W (tAndV ta tb) δ (.ok (.bool (a && b))) := fun H0 F H σ Q s E q =>
  h1 H0 F H σ _ s E fun v F1 H1 e1 d1 => by
    cases d1
    refine ⟨a, rfl, ?_⟩
    cases a with
    | true => exact h2 rfl H0 F1 H1 σ Q e1.c (E.mono e1) fun v F2 H2 e2 d2 => q v F2 H2 (e1.trans e2) d2
    | false => exact q _ F1 H1 e1 (.bl false)
theorem ev_orV {a b : Bool} (h1 : EvD K W ta δ (.ok (.bool a))) (h2 : a = false → EvD K W tb δ (.ok (.bool b))) : EvD K W (tOrV ta tb) δ (.ok (.bool (a || b))) := fun H0 F H σ Q s E q =>
  h1 H0 F H σ _ s E fun v F1 H1 e1 d1 => by
    cases d1
    refine ⟨a, rfl, ?_⟩
    cases a with
    | true => exact q _ F1 H1 e1 (.bl true)
    | false => exact h2 rfl H0 F1 H1 σ Q e1.c (E.mono e1) fun v F2 H2 e2 d2 => q v F2 H2 (e1.trans e2) d2
theorem ev_notV {a : Bool} (h1 : EvD K W ta δ (.ok (.bool a))) : EvD K W (tNotV ta) δ (.ok (.bool (!a))) := fun H0 F H σ Q s E q =>
  h1 H0 F H σ _ s E fun v F1 H1 e1 d1 => by
    cases d1
    exact ⟨a, rfl, q _ F1 H1 e1 (.bl _)⟩
theorem ev_if {b : Bool} (h : EvT K W t δ (.ok b)) (h1 : b = true → EvD K W ta δ (.ok x)) (h2 : b = false → EvD K W tb δ (.ok x)) : EvD K W (tIf t ta tb) δ (.ok x) := fun H0 F H σ Q s E q =>
  h H0 F H σ _ s E fun F1 H1 e1 => by
    cases b with
    | true => exact h1 rfl H0 F1 H1 σ Q e1.c (E.mono e1) fun v F2 H2 e2 d2 => q v F2 H2 (e1.trans e2) d2
    | false => exact h2 rfl H0 F1 H1 σ Q e1.c (E.mono e1) fun v F2 H2 e2 d2 => q v F2 H2 (e1.trans e2) d2

/-! operations of ints -/
theorem rd_I0b {g : Int → Int → Bool} {i j : Int} : RD K (rI0 fun i j => .bl (g i j)) (.int i) (.int j) (.bool (g i j)) := fun F H u v Q s du dv q => by
  cases du; cases dv
  exact ⟨i, j, rfl, rfl, q _ F H (Ext.refl s) (.bl _)⟩
theorem rd_I0 {g : Int → Int → Int} {i j : Int} : RD K (rI0 fun i j => .int (g i j)) (.int i) (.int j) (.int (g i j)) := fun F H u v Q s du dv q => by
  cases du; cases dv
  exact ⟨i, j, rfl, rfl, q _ F H (Ext.refl s) (.int _)⟩
theorem rd_I {C : Int → Int → Prop} {g : Int → Int → Int} {i j : Int} (hc : C i j) : RD K (rI C fun i j => .int (g i j)) (.int i) (.int j) (.int (g i j)) := fun F H u v Q s du dv q => by
  cases du; cases dv
  exact ⟨i, j, rfl, rfl, hc, q _ F H (Ext.refl s) (.int _)⟩
theorem ru_neg {i : Int} : RU1 K (rU fun i => .int (-i)) (.int i) (.int (-i)) := fun F H u Q s du q => by
  cases du
  exact ⟨i, rfl, q _ F H (Ext.refl s) (.int _)⟩
/-! == and != of scalars -/
def scalD : PyData → PyData → Bool
  | .none, .none => true | .none, .int _ => true | .int _, .none => true | .none, .bool _ => true | .bool _, .none => true | .none, .str _ => true | .str _, .none => true
  | .int _, .int _ => true | .bool _, .bool _ => true | .str _, .str _ => true
  | .int _, .str _ => true | .str _, .int _ => true | .bool _, .str _ => true | .str _, .bool _ => true
  | _, _ => false
def sameD : PyData → PyData → Bool
  | .none, .none => true
  | .int i, .int j => decide (i = j)
  | .bool i, .bool j => decide (i = j)
  | .str i, .str j => decide (i = j)
  | _, _ => false
theorem rd_eq (h : scalD x y = true) : RD K rEq x y (.bool (sameD x y)) := fun F H u v Q s du dv q => by
  cases du <;> cases dv <;> first
    | exact ⟨rfl, by
        refine (q _ F H (Ext.refl s) (.bl _) : Q _ H) |> fun z => ?_
        simpa [sameD] using z⟩
    | exact absurd h (by simp [scalD])
theorem rd_ne (h : scalD x y = true) : RD K rNe x y (.bool (!sameD x y)) := fun F H u v Q s du dv q => by
  cases du <;> cases dv <;> first
    | exact ⟨rfl, by
        refine (q _ F H (Ext.refl s) (.bl _) : Q _ H) |> fun z => ?_
        simpa [sameD] using z⟩
    | exact absurd h (by simp [scalD])
/-! == at any depth -/
theorem rd_eqD (h1 : SeqAt.shaped x = true) (h2 : SeqAt.shaped y = true) : RD K (rEqD K) x y (.bool (PyData.eqv x y)) := fun F H u v Q s du dv q =>
  ⟨x, y, dp_mono s _ _ du, dp_mono s _ _ dv, h1, h2, q _ F H (Ext.refl s) (.bl _)⟩
theorem rd_neD (h1 : SeqAt.shaped x = true) (h2 : SeqAt.shaped y = true) : RD K (rNeD K) x y (.bool (!PyData.eqv x y)) := fun F H u v Q s du dv q =>
  ⟨x, y, dp_mono s _ _ du, dp_mono s _ _ dv, h1, h2, q _ F H (Ext.refl s) (.bl _)⟩
theorem ev_isN (h : EvD K W ta δ (.ok x)) : EvD K W (tIsN ta) δ (.ok (.bool (match x with | .none => true | _ => false))) := fun H0 F H σ Q s E q =>
  h H0 F H σ _ s E fun v F1 H1 e1 d1 => by
    cases d1 <;> first
      | exact q _ F1 H1 e1 (.bl _)
      | (refine (q _ F1 H1 e1 (.bl _) : Q _ H1) |> fun z => ?_; simpa using z)
theorem ev_notN (h : EvD K W ta δ (.ok x)) : EvD K W (tNotN ta) δ (.ok (.bool (match x with | .none => false | _ => true))) := fun H0 F H σ Q s E q =>
  h H0 F H σ _ s E fun v F1 H1 e1 d1 => by
    cases d1 <;> first
      | exact q _ F1 H1 e1 (.bl _)
      | (refine (q _ F1 H1 e1 (.bl _) : Q _ H1) |> fun z => ?_; simpa using z)
/-! items -/
theorem atI_dp {F : Hp} {vs : List V} {ds : List PyData} {i : Int} (h : DpAll K F vs ds) (e : atI ds i = some d) : ∃ v, atI vs i = some v ∧ Dp K F v d := by
  unfold atI at e ⊢
  rw [dpa_len h]
  cases k : ixN ds.length i with
  | none => rw [k] at e; cases e
  | some j =>
    rw [k] at e
    exact dpa_get h e
theorem rd_ixT {ds : List PyData} {i : Int} (e : atI ds i = some d) : RD K (rIxT K) (.tuple ds) (.int i) d := fun F H u v Q s du dv q => by
  cases dv
  cases du with
  | tup hs ha =>
    obtain ⟨v, e1, e2⟩ := atI_dp ha e
    exact ⟨_, _, i, v, rfl, rfl, sqT_mono s hs, e1, q _ F H (Ext.refl s) e2⟩
theorem rd_ixL {ds : List PyData} {i : Int} (e : atI ds i = some d) : RD K (rIxL K) (.list ds) (.int i) d := fun F H u v Q s du dv q => by
  cases dv
  cases du with
  | lst hs ha =>
    obtain ⟨v, e1, e2⟩ := atI_dp ha e
    exact ⟨_, _, i, v, rfl, rfl, s.seq hs, e1, q _ F H (Ext.refl s) e2⟩
theorem rd_ixS {z : Str} {i : Int} {c : Nat} (hl : z.length ≤ sizeLine) (e : atI z.cps.toList i = some c) : RD K rIxS (.str z) (.int i) (.str ⟨#[c]⟩) := fun F H u v Q s du dv q => by
  cases dv; cases du
  exact ⟨z, i, c, rfl, rfl, hl, e, q _ F H (Ext.refl s) (.str _)⟩
/-- any of the three -/
theorem rd_ix_T {ds : List PyData} {i : Int} (e : atI ds i = some d) : RD K (rIx K) (.tuple ds) (.int i) d := fun F H u v Q s du dv q => .inr (.inl (rd_ixT e F H u v Q s du dv q))
theorem rd_ix_L {ds : List PyData} {i : Int} (e : atI ds i = some d) : RD K (rIx K) (.list ds) (.int i) d := fun F H u v Q s du dv q => .inl (rd_ixL e F H u v Q s du dv q)
theorem rd_ix_S {z : Str} {i : Int} {c : Nat} (hl : z.length ≤ sizeLine) (e : atI z.cps.toList i = some c) : RD K (rIx K) (.str z) (.int i) (.str ⟨#[c]⟩) := fun F H u v Q s du dv q => .inr (.inr (rd_ixS hl e F H u v Q s du dv q))
/-- an item of an own list -/
theorem ev_ixO {i : Nat} {l : List PyData} {k : Int} (hi : δ[i]? = some (Sl.own l)) (hb : EvD K W tb δ (.ok (.int k))) (e : atI l k = some d) : EvD K W (tOp (rIxL K) (tVar i) tb) δ (.ok d) := fun H0 F H σ Q s E q => by
  obtain ⟨p, vs, h1, h2, h3, h4, h5⟩ := E.own i l hi
  refine ⟨_, h1, hb H0 F H σ _ s E fun v F1 H1 e1 d1 => ?_⟩
  cases d1
  obtain ⟨v, g1, g2⟩ := atI_dp (dpAll_mono e1.a _ _ h5) e
  exact ⟨p, vs, k, v, rfl, rfl, SqL.of (e1.b _ _ h2), g1, q _ F1 H1 e1 g2⟩
theorem ev_ixO' {i : Nat} {l : List PyData} {k : Int} (hi : δ[i]? = some (Sl.own l)) (hb : EvD K W tb δ (.ok (.int k))) (e : atI l k = some d) : EvD K W (tOp (rIx K) (tVar i) tb) δ (.ok d) := fun H0 F H σ Q s E q => by
  obtain ⟨v, h1, h2⟩ := ev_ixO hi hb e H0 F H σ Q s E q
  refine ⟨v, h1, ?_⟩
  exact (hb H0 F H σ _ s E fun v F1 H1 e1 d1 => by
    cases d1
    obtain ⟨p, vs, g1, g2, g3, g4, g5⟩ := E.own i l hi
    rw [h1] at g1; cases g1
    obtain ⟨v, k1, k2⟩ := atI_dp (dpAll_mono e1.a _ _ g5) e
    exact .inl ⟨p, vs, k, v, rfl, rfl, SqL.of (e1.b _ _ g2), k1, q _ F1 H1 e1 k2⟩)
end

/-! ### statements -/
inductive Out where
  | nx (δ : Dn) | rt (d : PyData) | bk (δ : Dn) | ct (δ : Dn) | ex (δ : Dn) (x : Exn)
def Fin (K : PySem.W.Frag) (W : WX) (D : Ends) (F0 H0 : Hp) : Out → Prop
  | .nx δ => ∀ F H σ, Ext F0 F H0 H → EnvR K H0 F H σ δ → D.nx σ H
  | .rt d => ∀ v F H, Ext F0 F H0 H → Dp K F v d → D.rt v H
  | .bk δ => ∀ F H σ, Ext F0 F H0 H → EnvR K H0 F H σ δ → D.bk σ H
  | .ct δ => ∀ F H σ, Ext F0 F H0 H → EnvR K H0 F H σ δ → D.ct σ H
  | .ex δ x => ∀ cls d σ F H, Ext F0 F H0 H → EnvR K H0 F H σ δ → XAt K F H x cls d → W cls d σ H
def Rn (K : PySem.W.Frag) (W : WX) (ts : TS) (δ : Dn) (o : Out) : Prop :=
  ∀ (D : Ends) (F0 H0 F H : Hp) (σ : L2.St), Ext F0 F H0 H → EnvR K H0 F H σ δ → Fin K W D F0 H0 o → ts D σ H
section
variable {K : PySem.W.Frag} {W : WX} {δ δ1 δ2 : Dn} {ta tb te tc : TE} {tt : TT} {t u : TS} {x y z d : PyData} {o : Out} {e : Exn}
theorem rn_seq (h1 : Rn K W t δ (.nx δ1)) (h2 : Rn K W u δ1 o) : Rn K W (tSeq t u) δ o := fun D F0 H0 F H σ s E q =>
  h1 { D with nx := u D } F0 H0 F H σ s E fun F1 H1 σ1 s1 E1 => h2 D F0 H0 F1 H1 σ1 s1 E1 q
theorem rn_seqR (h1 : Rn K W t δ (.rt d)) : Rn K W (tSeq t u) δ (.rt d) := fun D F0 H0 F H σ s E q => h1 { D with nx := u D } F0 H0 F H σ s E q
theorem rn_seqX (h1 : Rn K W t δ (.ex δ1 e)) : Rn K W (tSeq t u) δ (.ex δ1 e) := fun D F0 H0 F H σ s E q => h1 { D with nx := u D } F0 H0 F H σ s E q
theorem rn_seqB (h1 : Rn K W t δ (.bk δ1)) : Rn K W (tSeq t u) δ (.bk δ1) := fun D F0 H0 F H σ s E q => h1 { D with nx := u D } F0 H0 F H σ s E q
theorem rn_seqC (h1 : Rn K W t δ (.ct δ1)) : Rn K W (tSeq t u) δ (.ct δ1) := fun D F0 H0 F H σ s E q => h1 { D with nx := u D } F0 H0 F H σ s E q
theorem rn_next : Rn K W tNext δ (.nx δ) := fun D F0 H0 F H σ s E q => q F H σ s E
theorem rn_break : Rn K W tBreak δ (.bk δ) := fun D F0 H0 F H σ s E q => q F H σ s E
theorem rn_cont : Rn K W tCont δ (.ct δ) := fun D F0 H0 F H σ s E q => q F H σ s E
theorem rn_less (hl : Less δ1 δ) (h : Rn K W t δ1 o) : Rn K W t δ o := fun D F0 H0 F H σ s E q => h D F0 H0 F H σ s (E.less hl) q
theorem rn_weak (hl : Less δ2 δ1) (h : Rn K W t δ (.nx δ1)) : Rn K W t δ (.nx δ2) := fun D F0 H0 F H σ s E q =>
  h D F0 H0 F H σ s E fun F1 H1 σ1 s1 E1 => q F1 H1 σ1 s1 (E1.less hl)
theorem rn_ret (h : EvD K W te δ (.ok d)) : Rn K W (tRet te) δ (.rt d) := fun D F0 H0 F H σ s E q =>
  h H0 F H σ _ s.c E fun v F1 H1 e1 d1 => q v F1 H1 (s.trans e1) d1
theorem rn_retX (h : EvD K W te δ (.error e)) : Rn K W (tRet te) δ (.ex δ e) := fun D F0 H0 F H σ s E q =>
  h H0 F H σ _ s.c E fun cls d F1 H1 e1 x => q cls d σ F1 H1 (s.trans e1) (E.mono e1) x
theorem rn_retN : Rn K W tRetN δ (.rt .none) := fun D F0 H0 F H σ s E q => q _ F H s .non
theorem rn_asg {i : Nat} (h : EvD K W te δ (.ok d)) : Rn K W (tAsg te (gName i)) δ (.nx (δ.set i (.val d))) := fun D F0 H0 F H σ s E q =>
  h H0 F H σ _ s.c E fun v F1 H1 e1 d1 => q F1 H1 _ (s.trans e1) ((E.mono e1).setV d1)
theorem rn_exL (hl : Less δ2 δ1) (h : Rn K W t δ (.ex δ1 e)) : Rn K W t δ (.ex δ2 e) := fun D F0 H0 F H σ s E q =>
  h D F0 H0 F H σ s E fun cls d σ1 F1 H1 s1 E1 x => q cls d σ1 F1 H1 s1 (E1.less hl) x
theorem rn_asgX {g : TG} (h : EvD K W te δ (.error e)) : Rn K W (tAsg te g) δ (.ex δ e) := fun D F0 H0 F H σ s E q =>
  h H0 F H σ _ s.c E fun cls d F1 H1 e1 x => q cls d σ F1 H1 (s.trans e1) (E.mono e1) x
/-- x = [..]: a list of its own -/
theorem rn_asgO {i : Nat} {ta : TA} {ds : List PyData} (h : EvA K W ta δ (.ok ds)) (hl : ds.length ≤ sizeLine := by (first | decide | simp)) : Rn K W (tAsg (tLst ta) (gName i)) δ (.nx (δ.set i (.own ds))) := fun D F0 H0 F H σ s E q =>
  h H0 F H σ _ s.c E fun vs F1 H1 e1 d1 => ⟨by rw [dpa_len d1]; exact hl, fun p hp => by
    have s1 := s.trans e1
    have h0 : H0 p = none := s1.b.free hp
    exact q F1 _ _ ⟨s1.a, same_upd s1.b h0, same_upd s1.c (s1.c.free hp), s1.n⟩ ((E.mono e1).setO hp h0 (s1.c.free hp) d1)⟩
/-- xs.append(e) of an own list -/
theorem rn_app {i : Nat} {l : List PyData} (hi : δ[i]? = some (Sl.own l)) (h : EvD K W te δ (.ok d)) (hl : l.length < sizeLine) : Rn K W (tDrop (tBM K "list" rAppend (tVar i) (tCons te tNil))) δ (.nx (δ.set i (.own (l ++ [d])))) := fun D F0 H0 F H σ s E q => by
  obtain ⟨p, vs, h1, h2, h3, h4, h5⟩ := E.own i l hi
  refine ⟨_, h1, .inl ⟨rfl, vs, SqL.of h2⟩, h H0 F H σ _ s.c E fun v F1 H1 e1 d1 => ?_⟩
  have E1 := E.mono e1
  have s1 := s.trans e1
  have hf : F1 p = none := e1.n p (by rw [h2]; exact fun z => nomatch z) h3
  refine ⟨p, vs, v, rfl, rfl, e1.b _ _ h2, by rw [dpa_len h5]; exact hl, q F1 _ σ (s1.mut h4 hf) (E1.chg hi h1 ?_)⟩
  exact dpa_append (dpAll_mono e1.a _ _ h5) (.cons d1 .nil)
/-- xs[k] = e of an own list -/
theorem rn_setO {i : Nat} {l : List PyData} {k : Int} {j : Nat} (hi : δ[i]? = some (Sl.own l)) (h : EvD K W te δ (.ok d)) (hk : EvD K W tb δ (.ok (.int k))) (hj : ixN l.length k = some j) :
    Rn K W (tAsg te (gSub (tVar i) tb rSetL)) δ (.nx (δ.set i (.own (l.set j d)))) := fun D F0 H0 F H σ s E q =>
  h H0 F H σ _ s.c E fun v F1 H1 e1 d1 => by
    have E1 := E.mono e1
    obtain ⟨p, vs, h1, h2, h3, h4, h5⟩ := E1.own i l hi
    refine ⟨_, h1, hk H0 F1 H1 σ _ e1.c E1 fun w F2 H2 e2 d2 => ?_⟩
    cases d2
    have E2 := E1.mono e2
    have s2 := (s.trans e1).trans e2
    have hf : F2 p = none := e2.n p (by rw [h2]; exact fun z => nomatch z) h3
    refine ⟨p, vs, k, j, rfl, rfl, e2.b _ _ h2, by rw [dpa_len h5]; exact hj, q F2 _ σ (s2.mut h4 hf) (E2.chg hi h1 ?_)⟩
    exact dpa_set (dp_mono e2.a _ _ d1) j (dpAll_mono e2.a _ _ h5)
/-- an own list is no longer changed -/
theorem rn_frz {i : Nat} {l : List PyData} (hi : δ[i]? = some (Sl.own l)) (h : Rn K W t (δ.set i (.val (.list l))) o) : Rn K W t δ o := fun D F0 H0 F H σ s E q => by
  obtain ⟨F', s', _, E'⟩ := E.frz hi s
  exact h D F0 H0 F' H σ s' E' q
theorem rn_if {b : Bool} (h : EvT K W tt δ (.ok b)) (h1 : b = true → Rn K W t δ o) (h2 : b = false → Rn K W u δ o) : Rn K W (tIfS tt t u) δ o := fun D F0 H0 F H σ s E q =>
  h H0 F H σ _ s.c E fun F1 H1 e1 => by
    cases b with
    | true => exact h1 rfl D F0 H0 F1 H1 σ (s.trans e1) (E.mono e1) q
    | false => exact h2 rfl D F0 H0 F1 H1 σ (s.trans e1) (E.mono e1) q
theorem rn_ifT (h : EvT K W tt δ (.ok true)) (h1 : Rn K W t δ o) : Rn K W (tIfS tt t u) δ o := rn_if h (fun _ => h1) fun z => nomatch z
theorem rn_ifF (h : EvT K W tt δ (.ok false)) (h1 : Rn K W u δ o) : Rn K W (tIfS tt t u) δ o := rn_if h (fun z => nomatch z) fun _ => h1
theorem rn_drop (h : EvD K W te δ (.ok d)) : Rn K W (tDrop te) δ (.nx δ) := fun D F0 H0 F H σ s E q =>
  h H0 F H σ _ s.c E fun v F1 H1 e1 d1 => q F1 H1 σ (s.trans e1) (E.mono e1)
theorem rn_dropX (h : EvD K W te δ (.error e)) : Rn K W (tDrop te) δ (.ex δ e) := fun D F0 H0 F H σ s E q =>
  h H0 F H σ _ s.c E fun cls d F1 H1 e1 x => q cls d σ F1 H1 (s.trans e1) (E.mono e1) x
end
end DL
set_option Elab.async false
set_option linter.all false
set_option maxRecDepth 100000
set_option maxHeartbeats 2000000
/-! DL3: targets, sources, loops, comprehensions, calls, defs. -/
namespace DL
open PySem L2

/-! ### targets -/
def AsD (K : PySem.W.Frag) (g : TG) (js : List Nat) (d : PyData) (δ δ' : Dn) : Prop :=
  ∀ (H0 F H : Hp) (σ : L2.St) (v : V) (Q : L2.St → Hp → Prop), Same F H → EnvR K H0 F H σ δ → Dp K F v d →
    (∀ σ', (∀ vs : List Nat, (∀ j ∈ js, j ∈ vs) → wipe σ' vs = wipe σ vs) → EnvR K H0 F H σ' δ' → Q σ' H) → g v σ H Q
def AsDs (K : PySem.W.Frag) (g : TGs) (js : List Nat) (ds : List PyData) (δ δ' : Dn) : Prop :=
  ∀ (H0 F H : Hp) (σ : L2.St) (vs : List V) (Q : L2.St → Hp → Prop), Same F H → EnvR K H0 F H σ δ → DpAll K F vs ds →
    (∀ σ', (∀ ws : List Nat, (∀ j ∈ js, j ∈ ws) → wipe σ' ws = wipe σ ws) → EnvR K H0 F H σ' δ' → Q σ' H) → g vs σ H Q
section
variable {K : PySem.W.Frag} {W W' : WX} {δ δ' δ1 δ2 : Dn} {ta tb te tc tl : TE} {tt : TT} {t u : TS} {x y z d : PyData} {o : Out} {e : Exn} {g : TG}
theorem set_same_set {α : Type} {l : List α} {i : Nat} {x y : α} : (l.set i x).set i y = l.set i y := by simp
theorem wipe_set {σ : L2.St} {j : Nat} {x : Option V} : ∀ {vs : List Nat}, j ∈ vs → wipe (σ.set j x) vs = wipe σ vs
  | [], h => by simp at h
  | v :: vs, h => by
    show (wipe (σ.set j x) vs).set v none = (wipe σ vs).set v none
    by_cases hv : j ∈ vs
    · rw [wipe_set hv]
    · have e : j = v := by
        rcases List.mem_cons.mp h with e | e
        · exact e
        · exact absurd e hv
      subst e
      have key : ∀ {ws : List Nat}, j ∉ ws → wipe (σ.set j x) ws = (wipe σ ws).set j x := by
        intro ws
        induction ws with
        | nil => intro _; rfl
        | cons w ws ih =>
          intro hw
          have h1 : j ∉ ws := fun z => hw (List.mem_cons_of_mem _ z)
          have h2 : j ≠ w := fun z => hw (by rw [z]; exact List.mem_cons_self)
          show (wipe (σ.set j x) ws).set w none = ((wipe σ ws).set w none).set j x
          rw [ih h1, List.set_comm _ _ h2]
      rw [key hv, set_same_set]
theorem wipe_wipe (σ : L2.St) : ∀ (us vs : List Nat), (∀ u ∈ us, u ∈ vs) → wipe (wipe σ us) vs = wipe σ vs
  | [], _, _ => rfl
  | u :: us, vs, h => by
    show wipe ((wipe σ us).set u none) vs = _
    rw [wipe_set (h u List.mem_cons_self)]
    exact wipe_wipe σ us vs fun w hw => h w (List.mem_cons_of_mem _ hw)
theorem as_name {i : Nat} : AsD K (gName i) [i] d δ (δ.set i (.val d)) := fun H0 F H σ v Q s E h q =>
  q _ (fun vs hj => wipe_set (hj i List.mem_cons_self)) (E.setV h)
theorem as_nil : AsDs K gNil [] [] δ δ := fun H0 F H σ vs Q s E h q => by
  cases h
  exact ⟨rfl, q σ (fun _ _ => rfl) E⟩
theorem as_cons {g : TG} {gs : TGs} {js ks : List Nat} {ds : List PyData} (h1 : AsD K g js d δ δ1) (h2 : AsDs K gs ks ds δ1 δ2) : AsDs K (gCons g gs) (js ++ ks) (d :: ds) δ δ2 := fun H0 F H σ vs Q s E h q => by
  cases h with
  | cons a b =>
    refine ⟨_, _, rfl, h1 H0 F H σ _ _ s E a fun σ1 w1 E1 => h2 H0 F H σ1 _ _ s E1 b fun σ2 w2 E2 => q σ2 (fun vs hj => ?_) E2⟩
    rw [w2 vs fun j hj' => hj j (List.mem_append_right _ hj'), w1 vs fun j hj' => hj j (List.mem_append_left _ hj')]
theorem as_tup {gs : TGs} {js : List Nat} {ds : List PyData} {n : Nat} (h : AsDs K gs js ds δ δ1) (hn : ds.length = n) : AsD K (gTup K n gs) js (.tuple ds) δ δ1 := fun H0 F H σ v Q s E hv q => by
  cases hv with
  | tup hs ha => exact ⟨_, _, rfl, sqT_mono s hs, by rw [dpa_len ha]; exact hn, h H0 F H σ _ Q s E ha q⟩
theorem as_lst {gs : TGs} {js : List Nat} {ds : List PyData} {n : Nat} (h : AsDs K gs js ds δ δ1) (hn : ds.length = n) : AsD K (gLst K n gs) js (.list ds) δ δ1 := fun H0 F H σ v Q s E hv q => by
  cases hv with
  | lst hs ha => exact ⟨_, _, rfl, s.seq hs, by rw [dpa_len ha]; exact hn, h H0 F H σ _ Q s E ha q⟩
/-- any assignment of a known value -/
theorem rn_asgG {js : List Nat} (h : EvD K W te δ (.ok d)) (hg : AsD K g js d δ δ1) : Rn K W (tAsg te g) δ (.nx δ1) := fun D F0 H0 F H σ s E q =>
  h H0 F H σ _ s.c E fun v F1 H1 e1 d1 => hg H0 F1 H1 σ v _ e1.c (E.mono e1) d1 fun σ' _ E' => q F1 H1 σ' (s.trans e1) E'

/-! ### what is walked -/
def SrcD (K : PySem.W.Frag) (wi : TI) (δ : Dn) (l : List PyData) : Prop :=
  ∀ (H0 F H : Hp) (σ : L2.St) (R : It → Hp → Prop), Same F H → EnvR K H0 F H σ δ →
    (∀ (J : It) (F1 H1 : Hp), Ext F F1 H H1 → Walk J l.length (fun H' => Same F1 H') (fun i H x H' => H' = H ∧ ∃ d, l[i]? = some d ∧ Dp K F1 x d) → R J H1) → wi σ H R
theorem src_list {l : List PyData} (h : EvD K W tl δ (.ok (.list l))) : SrcD K (iList K tl) δ l := fun H0 F H σ R s E k =>
  h H0 F H σ _ s E fun v F1 H1 e1 d1 => by
    cases d1 with
    | lst hs ha =>
      refine ⟨_, rfl, ⟨_, e1.c.seq hs⟩, k _ F1 H1 e1 ?_⟩
      rw [← dpa_len ha]
      exact walk_list.mono (fun H' s' => s'.seq hs) fun i H2 x H3 _ _ y => ⟨y.1, dpa_getV ha y.2⟩
theorem src_tup {l : List PyData} (h : EvD K W tl δ (.ok (.tuple l))) : SrcD K (iTup K tl) δ l := fun H0 F H σ R s E k =>
  h H0 F H σ _ s E fun v F1 H1 e1 d1 => by
    cases d1 with
    | tup hs ha =>
      refine ⟨_, rfl, ⟨_, sqT_mono e1.c hs⟩, k _ F1 H1 e1 ?_⟩
      rw [← dpa_len ha]
      exact walk_tup.mono (fun H' s' => sqT_mono s' hs) fun i H2 x H3 _ _ y => ⟨y.1, dpa_getV ha y.2⟩
def iota (lo : Int) (n : Nat) : List PyData := (List.range n).map fun i => .int (lo + (i : Nat))
theorem iota_len {lo : Int} {n : Nat} : (iota lo n).length = n := by simp [iota]
theorem iota_get {lo : Int} {n i : Nat} (h : i < n) : (iota lo n)[i]? = some (.int (lo + (i : Nat))) := by
  unfold iota
  rw [List.getElem?_map, List.getElem?_range h]; rfl
theorem src_rng1 {ta : TA} {j : Int} (h : EvA K W ta δ (.ok [.int j])) (h1 : -(2 ^ 62) ≤ j) (h2 : j < 2 ^ 62) : SrcD K (iRng1 ta) δ (iota 0 j.toNat) := fun H0 F H σ R s E k =>
  h H0 F H σ _ s E fun vs F1 H1 e1 d1 => by
    cases d1 with
    | cons a b =>
      cases a; cases b
      refine ⟨j, rfl, h1, h2, k _ F1 H1 e1 ?_⟩
      rw [iota_len]
      exact walk_range.mono (fun _ _ => trivial) fun i H2 x H3 hi _ y => ⟨y.1, _, iota_get hi, by rw [y.2]; exact .int _⟩
theorem src_rng2 {ta : TA} {i j : Int} (h : EvA K W ta δ (.ok [.int i, .int j])) (hb : -(2 ^ 62) ≤ i ∧ i < 2 ^ 62 ∧ -(2 ^ 62) ≤ j ∧ j < 2 ^ 62) : SrcD K (iRng2 ta) δ (iota i (j - i).toNat) := fun H0 F H σ R s E k =>
  h H0 F H σ _ s E fun vs F1 H1 e1 d1 => by
    cases d1 with
    | cons a b =>
      cases a
      cases b with
      | cons a b =>
        cases a; cases b
        refine ⟨i, j, rfl, hb, k _ F1 H1 e1 ?_⟩
        rw [iota_len]
        exact walk_range.mono (fun _ _ => trivial) fun i H2 x H3 hi _ y => ⟨y.1, _, iota_get hi, by rw [y.2]; exact .int _⟩
def signs (z : Str) : List PyData := z.cps.toList.map fun c => .str ⟨#[c]⟩
theorem src_str {z : Str} (h : EvD K W te δ (.ok (.str z))) : SrcD K (iStr te) δ (signs z) := fun H0 F H σ R s E k =>
  h H0 F H σ _ s E fun v F1 H1 e1 d1 => by
    cases d1
    refine ⟨z, rfl, k _ F1 H1 e1 ?_⟩
    have e : (signs z).length = z.cps.size := by simp [signs]
    rw [e]
    refine walk_str.mono (fun _ _ => trivial) fun i H2 x H3 hi _ y => ⟨y.1, ?_⟩
    obtain ⟨c, hc, rfl⟩ := y.2
    refine ⟨_, ?_, .str _⟩
    unfold signs
    rw [List.getElem?_map, Array.getElem?_toList, hc]; rfl
theorem Ext.rebase {F0 F1 F3 H0 H1 H3 : Hp} (p : Ext F0 F1 H0 H1) (q : Ext F1 F3 H0 H3) : Ext F0 F3 H0 H3 :=
  ⟨p.a.trans q.a, q.b, q.c, fun x hx hf => q.n x hx (p.n x hx hf)⟩
theorem Ext.own {F0 F1 H0 H1 : Hp} (p : Ext F0 F1 H0 H1) : Ext F1 F1 H0 H1 := ⟨Same.refl _, p.b, p.c, fun _ _ e => e⟩

/-! ### for -/
/-- what a body's end means for the loop -/
def bodyEnd : Out → Out → Prop
  | .nx δ, .nx δ' => δ = δ'
  | .ct δ, .nx δ' => δ = δ'
  | _, _ => False
def leaveEnd : Out → Out → Prop
  | .rt d, .rt d' => d = d'
  | .ex δ x, .ex δ' x' => δ = δ' ∧ x = x'
  | .bk δ, .nx δ' => δ = δ'
  | _, _ => False
/-- n turns from st 0 to st n; then the list is at its end, or the next turn leaves -/
theorem rn_for {wi : TI} {l : List PyData} {js : List Nat} (st : Nat → Dn) (n : Nat) (hn : n ≤ l.length) (h : SrcD K wi (st 0) l)
    (step : ∀ i d, i < n → l[i]? = some d → ∃ δ' ob, AsD K g js d (st i) δ' ∧ bodyEnd ob (.nx (st (i + 1))) ∧ Rn K W t δ' ob)
    (last : (n = l.length ∧ o = .nx (st n)) ∨ (∃ d δ' ob, l[n]? = some d ∧ AsD K g js d (st n) δ' ∧ leaveEnd ob o ∧ Rn K W t δ' ob)) : Rn K W (tFor wi g t) (st 0) o := fun D F0 H0 F H σ s E q => by
  refine h H0 F H σ _ s.c E fun J F1 H1 e1 w => ?_
  have sB := s.trans e1
  refine for_it w (fun i σ' H' => i ≤ n ∧ ∃ F', Ext F1 F' H0 H' ∧ EnvR K H0 F' H' σ' (st i)) ⟨Nat.zero_le _, F1, sB.own, E.mono e1⟩
    (fun i σ' H' _ ⟨_, F', s', _⟩ => s'.a.trans s'.c) (fun i x σ' H' H'' hi ⟨hle, F', s', E'⟩ y => ?_) fun σ' H' ⟨hle, F', s', E'⟩ => ?_
  · obtain ⟨rfl, d, hd, hx⟩ := y
    have hx' := dp_mono s'.a d x hx
    by_cases hlt : i < n
    · obtain ⟨δ', ob, h1, h2, h3⟩ := step i d hlt hd
      refine h1 H0 F' H'' σ' x _ s'.c E' hx' fun σ2 _ E2 => h3 _ F1 H0 F' H'' σ2 s' E2 ?_
      cases ob <;> first
        | exact h2.elim
        | (have h2' := h2
           cases h2'
           exact fun F3 H3 σ3 s3 E3 => ⟨hlt, F3, s3, E3⟩)
    · have e : i = n := by omega
      subst e
      rcases last with ⟨hl, _⟩ | ⟨d', δ', ob, g1, g2, g3, g4⟩
      · omega
      · rw [hd] at g1; cases g1
        refine g2 H0 F' H'' σ' x _ s'.c E' hx' fun σ2 _ E2 => g4 _ F0 H0 F' H'' σ2 (sB.rebase s') E2 ?_
        cases ob <;> cases o <;> first
          | exact g3.elim
          | (have g3' := g3
             first
               | (cases g3'; exact q)
               | (obtain ⟨rfl, rfl⟩ := g3'; exact q))
  · rcases last with ⟨hl, ho⟩ | ⟨d', δ', ob, g1, _⟩
    · subst ho; subst hl
      exact q F' H' σ' (sB.rebase s') E'
    · have := (List.getElem?_eq_some_iff.mp g1).1
      omega
end
end DL
set_option Elab.async false
set_option linter.all false
set_option maxRecDepth 100000
set_option maxHeartbeats 2000000
/-! DL4: comprehensions, calls, defs. -/
namespace DL
open PySem L2
section
variable {K : PySem.W.Frag} {W W' : WX} {δ δ' δ1 δ2 : Dn} {ta tb te tc tl : TE} {tt : TT} {t u : TS} {x y z d : PyData} {o : Out} {e : Exn} {g : TG}
theorem Ext.up {F F1 F2 H H1 H2 : Hp} (p : Ext F F1 H H1) (q : Ext F1 F2 H1 H2) : Ext F F2 H H2 := p.trans q
theorem take_filt {l : List PyData} {i : Nat} {d : PyData} (keep : PyData → Bool) (f : PyData → PyData) (h : l[i]? = some d) :
    ((l.take (i + 1)).filter keep).map f = ((l.take i).filter keep).map f ++ (if keep d then [f d] else []) := by
  rw [List.take_add_one, h]
  simp only [Option.toList, List.filter_append, List.map_append]
  congr 1
  cases hk : keep d <;> simp [List.filter, hk]
theorem ev_lc {wi : TI} {l : List PyData} {js vs : List Nat} (keep : PyData → Bool) (f : PyData → PyData) (h : SrcD K wi δ l) (hjs : ∀ j ∈ js, j ∈ vs) (hz : l.length ≤ sizeLine)
    (turn : ∀ (i : Nat) d, l[i]? = some d → ∃ δ', AsD K g js d (wipeD δ vs) δ' ∧ EvT K W' tt δ' (.ok (keep d)) ∧ (keep d = true → EvD K W' te δ' (.ok (f d)))) :
    EvD K W (tLc wi g tt te vs) δ (.ok (.list ((l.filter keep).map f))) := fun H0 F H σ Q s E q => by
  refine h H0 F H σ _ s E fun J F1 H1 e1 w => fun D hD => ?_
  have E1 := E.mono e1
  refine lc_it w (fun i H' => i ≤ l.length ∧ ∃ F' ws, Ext F1 F' H1 H' ∧ F' D = none ∧ H' D = some (HO.lst ws) ∧ ws.length ≤ i ∧ DpAll K F' ws (((l.take i).filter keep).map f))
    ⟨Nat.zero_le _, F1, [], Ext.side e1.c hD, e1.c.free hD, upd_same, Nat.le_refl _, .nil⟩ (fun i H' _ ⟨_, F', _, s', _⟩ => s'.a.trans s'.c) (fun i v H' H'' hi ⟨_, F', ws, s', fD, hws, hlen, hall⟩ y => ?_) fun H' ⟨_, F', ws, s', fD, hws, hlen, hall⟩ => ?_
  · obtain ⟨rfl, d, hd, hx⟩ := y
    obtain ⟨δ', h1, h2, h3⟩ := turn i d hd
    have E' := (E1.mono s').wipes vs
    refine h1 H0 F' H'' (wipe σ vs) v _ s'.c E' (dp_mono s'.a _ _ hx) fun σ2 w2 E2 => ⟨by rw [w2 vs hjs, wipe_wipe σ vs vs fun u hu => hu], ?_⟩
    refine h2 H0 F' H'' σ2 _ s'.c E2 fun F2 H2 e2 => ?_
    have nD : ∀ {F3 H3 : Hp}, Ext F' F3 H'' H3 → F3 D = none := fun e3 => e3.n D (by rw [hws]; exact fun z => nomatch z) fD
    cases hk : keep d with
    | true =>
      refine h3 hk H0 F2 H2 σ2 _ e2.c (E2.mono e2) fun y F3 H3 e3 dy => ?_
      have e23 := e2.trans e3
      refine ⟨ws, e23.b _ _ hws, by omega, by omega, F3, ws ++ [y], ((s'.trans e23).mut hD (nD e23)), nD e23, upd_same, by simp; omega, ?_⟩
      rw [take_filt keep f hd, hk]
      exact dpa_append (dpAll_mono e23.a _ _ hall) (.cons dy .nil)
    | false =>
      refine ⟨by omega, F2, ws, s'.trans e2, nD e2, e2.b _ _ hws, by omega, ?_⟩
      rw [take_filt keep f hd, hk]
      simpa using dpAll_mono e2.a _ _ hall
  · rw [List.take_length] at hall
    refine q _ (upd F' D (HO.lst ws)) H' (e1.trans (s'.freeze hD fD hws)) (.lst (SqL.of upd_same) (dpAll_mono (same_upd (Same.refl _) fD) _ _ hall))
theorem et_yes : EvT K W tYes δ (.ok true) := fun H0 F H σ Q s E q => q F H (Ext.refl s)
/-- [e for x in ..] without a test -/
theorem ev_lcM {wi : TI} {l : List PyData} {js vs : List Nat} (f : PyData → PyData) (h : SrcD K wi δ l) (hjs : ∀ j ∈ js, j ∈ vs) (hz : l.length ≤ sizeLine)
    (turn : ∀ (i : Nat) d, l[i]? = some d → ∃ δ', AsD K g js d (wipeD δ vs) δ' ∧ EvD K W' te δ' (.ok (f d))) :
    EvD K W (tLc wi g tYes te vs) δ (.ok (.list (l.map f))) := by
  have q := ev_lc (K := K) (W := W) (W' := W') (δ := δ) (g := g) (tt := tYes) (te := te) (fun _ => true) f h hjs hz fun i d hd => by
    obtain ⟨δ', h1, h2⟩ := turn i d hd
    exact ⟨δ', h1, et_yes, fun _ => h2⟩
  have e : l.filter (fun _ => true) = l := List.filter_eq_self.mpr fun _ _ => rfl
  rw [e] at q
  exact q

/-! ### calls -/
def spD (K : PySem.W.Frag) (R : List PyData → Res PyData → Prop) : Sp := fun vs H Q E =>
  ∃ (F : Hp) (ds : List PyData) (r : Res PyData), Same F H ∧ DpAll K F vs ds ∧ R ds r ∧ EndV K (fun cls d _ H' => E cls d H') F H [] Q r
variable {R : List PyData → Res PyData → Prop} {dvs : List V} {dds ds : List PyData} {E : L2.St → XK} {tA : TA}
theorem ev_call (h : EvA K W tA δ (.ok ds)) (hd : ∀ F : Hp, DpAll K F dvs dds) (hR : R (ds ++ dds) (.ok d)) : EvD K W (tCallSD (spD K R) dvs E tA) δ (.ok d) := fun H0 F H σ Q s En q =>
  h H0 F H σ _ s En fun vs F1 H1 e1 d1 => ⟨F1, ds ++ dds, .ok d, e1.c, dpa_append d1 (hd F1), hR, fun v F2 H2 e2 d2 => q v F2 H2 (e1.trans e2) d2⟩
theorem ev_callX (h : EvA K W tA δ (.ok ds)) (hd : ∀ F : Hp, DpAll K F dvs dds) (hR : R (ds ++ dds) (.error e)) : EvD K W (tCallSD (spD K R) dvs (WE W) tA) δ (.error e) := fun H0 F H σ Q s En q =>
  h H0 F H σ _ s En fun vs F1 H1 e1 d1 => ⟨F1, ds ++ dds, .error e, e1.c, dpa_append d1 (hd F1), hR, fun cls d F2 H2 e2 x => q cls d F2 H2 (e1.trans e2) x⟩
theorem ev_callA (h : EvA K W tA δ (.error e)) : EvD K W (tCallSD (spD K R) dvs E tA) δ (.error e) := fun H0 F H σ Q s En q => h H0 F H σ _ s En q
/-- without defaults -/
theorem ev_call0 (h : EvA K W tA δ (.ok ds)) (hR : R ds (.ok d)) : EvD K W (tCallSD (spD K R) [] E tA) δ (.ok d) := ev_call h (fun _ => .nil) (by rw [List.append_nil]; exact hR)
theorem ev_callX0 (h : EvA K W tA δ (.ok ds)) (hR : R ds (.error e)) : EvD K W (tCallSD (spD K R) [] (WE W) tA) δ (.error e) := ev_callX h (fun _ => .nil) (by rw [List.append_nil]; exact hR)

/-! ### defs -/
def dn (N : List Str) (ds : List PyData) : Dn := ds.map Sl.val ++ List.replicate (N.length - ds.length) Sl.no
def endsAs : Out → Res PyData → Prop
  | .rt d, r => r = .ok d
  | .nx _, r => r = .ok .none
  | .ex _ x, r => r = .error x
  | _, _ => False
theorem fn_read {N : List Str} {vs : List V} {H : Hp} {Q : VK} {Ex : XK} {t : TS} (hN : ∀ ds r, R ds r → ds.length ≤ N.length) (h : spD K R vs H Q Ex)
    (ht : ∀ ds r, R ds r → ∃ o, Rn K (fun cls d _ H => Ex cls d H) t (dn N ds) o ∧ endsAs o r) :
    t { nx := fun _ H' => Q .non H', rt := Q } (L2.start N vs) H := by
  obtain ⟨F, ds, r, s, hd, hR, q⟩ := h
  obtain ⟨o, h1, h2⟩ := ht ds r hR
  refine h1 _ F H F H _ (Ext.refl s) (EnvR.start hd (hN ds r hR)) ?_
  cases o <;> first
    | exact h2.elim
    | (have e := h2
       cases e
       first
         | exact fun F1 H1 σ e1 E1 => q .non F1 H1 e1 .non
         | exact fun v F1 H1 e1 d1 => q v F1 H1 e1 d1
         | exact fun cls d σ F1 H1 e1 E1 x1 => q cls d F1 H1 e1 x1)
/-- a def of the module as it stands behind the top -/
structure DefAt (K : PySem.W.Frag) (mg : Str → Option Value) (x : Str) (st : Stmt) (dvs : List V) : Prop where
  ex : ∃ (f : Addr) (fd : FuncData), FunD K x x (defArgs st) (defBody st) (defScope st) dvs [] f fd ∧ mg x = some (.ref f)
/-- a def that may be called by its name; dvs: the defaults that fill up -/
structure CalX (P : Program) (w : World) (K : PySem.W.Frag) (mg : Str → Option Value) (base : Heap) (CX : CXT) (k : Nat) (x : Str) (dvs : List V) (R : List PyData → Res PyData → Prop) : Prop where
  ex : ∃ (f : Addr) (fd : FuncData) (ps : List Str) (ds : List Value), FnOk P w K mg base CX k f fd ps (spD K R) ∧ mg x = some (.ref f) ∧ PySem.W.keepIn K (.ref f) = true ∧ Binds K fd ps ds ∧ Vals dvs ds
section
variable {P : Program} {w : World} {mg : Str → Option Value} {base : Heap} {x : Str} {st : Stmt} {N ps : List Str} {k : Nat} {dv2 : List V}
/-- how the arguments bind -/
def BindH (K : PySem.W.Frag) (x : Str) (st : Stmt) (ps : List Str) (dvs dvs2 : List V) : Prop :=
  ∀ (f : Addr) (fd : FuncData), FunD K x x (defArgs st) (defBody st) (defScope st) dvs [] f fd → ∃ ds, Vals dvs2 ds ∧ Binds K fd ps ds
theorem bind0 (h : ∀ (kV doc pm : Value) (an : Option Addr) (cdv ct : Value) (us : List Value), us.length = ps.length → bindArgs (PySem.W.fnOf x x (defArgs st) (defBody st) (defScope st) .none kV doc pm an cdv ct) ⟨us, []⟩ = pure (ps.zip us)) : BindH K x st ps [] [] :=
  fun f fd F => ⟨[], .nil, F.bindsN h⟩
/-- a def that lets no error out -/
theorem okN (D : DefAt K mg x st dvs) (b : BindH K x st ps dvs dv2) (S : FnScope N ps (defScope st)) (len : ∀ ds r, R ds r → ds.length = ps.length)
    (hb : ∀ (f : Addr) (cdv : Value) (A : Around) (outer : List Env) (s : Shared) (H : Hp) (Ex : XK), Room k (A.deeper (PyProof.Rows.envOfC x (defScope st) s.heap.objs.size f cdv)) →
      ∃ t, PSs (cxOf CX0 P w K mg base N x (defScope st) f cdv A outer s H Ex).nox (defBody st) t ∧ ∀ ds r, R ds r → ∃ o, Rn K (fun cls d _ H => Ex cls d H) t (dn N ds) o ∧ endsAs o r) : CalX P w K mg base CX0 (k + 1) x dv2 R := by
  obtain ⟨f, fd, F, hm⟩ := D.ex
  obtain ⟨ws, hw, hB⟩ := b f fd F
  have hpl : ps.length ≤ N.length := by have := congrArg List.length S.pre; rw [List.length_take] at this; omega
  refine ⟨f, fd, ps, ws, F.ok S (fun vs H Q E h => ?_) fun cdv A outer s H vs Q E hr h => ?_, hm, F.kp, hB, hw⟩
  · obtain ⟨_, ds, r, _, hd, hR, _⟩ := h
    rw [dpa_len hd]; exact len ds r hR
  · obtain ⟨t, h1, h2⟩ := hb f cdv A outer s H E hr
    exact ⟨t, h1.nox, fn_read (fun ds r hR => by rw [len ds r hR]; exact hpl) h h2⟩
/-- a def that may raise -/
theorem okX (D : DefAt K mg x st dvs) (b : BindH K x st ps dvs dv2) (S : FnScope N ps (defScope st)) (len : ∀ ds r, R ds r → ds.length = ps.length)
    (hb : ∀ (f : Addr) (cdv : Value) (A : Around) (outer : List Env) (s : Shared) (H : Hp) (Ex : XK), Room k (A.deeper (PyProof.Rows.envOfC x (defScope st) s.heap.objs.size f cdv)) →
      ∃ t, PSs (cxOf (L2.CX P w) P w K mg base N x (defScope st) f cdv A outer s H Ex) (defBody st) t ∧ ∀ ds r, R ds r → ∃ o, Rn K (fun cls d _ H => Ex cls d H) t (dn N ds) o ∧ endsAs o r) : CalX P w K mg base (L2.CX P w) (k + 1) x dv2 R := by
  obtain ⟨f, fd, F, hm⟩ := D.ex
  obtain ⟨ws, hw, hB⟩ := b f fd F
  have hpl : ps.length ≤ N.length := by have := congrArg List.length S.pre; rw [List.length_take] at this; omega
  refine ⟨f, fd, ps, ws, F.ok S (fun vs H Q E h => ?_) fun cdv A outer s H vs Q E hr h => ?_, hm, F.kp, hB, hw⟩
  · obtain ⟨_, ds, r, _, hd, hR, _⟩ := h
    rw [dpa_len hd]; exact len ds r hR
  · obtain ⟨t, h1, h2⟩ := hb f cdv A outer s H E hr
    exact ⟨t, h1, fn_read (fun ds r hR => by rw [len ds r hR]; exact hpl) h h2⟩
theorem CalX.less {CX : CXT} {R' : List PyData → Res PyData → Prop} (c : CalX P w K mg base CX k x dv2 R) (h : ∀ ds r, R' ds r → R ds r) : CalX P w K mg base CX k x dv2 R' := by
  obtain ⟨f, fd, ps, ds, F, h1, h2, h3, h4⟩ := c.ex
  have up : ∀ vs H Q E, spD K R' vs H Q E → spD K R vs H Q E := fun vs H Q E ⟨G, ds, r, g1, g2, g3, g4⟩ => ⟨G, ds, r, g1, g2, h ds r g3, g4⟩
  exact ⟨f, fd, ps, ds, ⟨fun vs H Q E q => F.len vs H Q E (up _ _ _ _ q), fun A outer s H args us vs Q E hr e0 hb r q => F.run A outer s H args us vs Q E hr e0 hb r (up _ _ _ _ q)⟩, h1, h2, h3, h4⟩
end
section
variable {X : Cx} {CX : CXT} {k j : Nat} {x : Str} {E : L2.St → XK} {p pos : Pos} {e : Expr} {es : List Expr} {t : TA}
theorem pe_cal (c : CalX X.prog X.w X.K X.mg X.base CX k x dvs R) (hr : Room j X.A) (hk : k ≤ j) (hx : ∀ σ, PassesAt CX X σ (E σ)) (ha : PA X (e :: es) t) (hg : Gl X x := by rfl)
    (hdb : (x == ("__debug__" : Str)) = false := by decide) (he : starEach (e :: es) X.env = (false, eval e X.env) :: starEach es X.env := by rfl) (hpl : (backTo pos (starEach es X.env)).any (·.1) = false := by rfl) :
    PE X (.Call (.Name x p) (e :: es) [] pos) (tCallSD (spD X.K R) dvs E t) := by
  obtain ⟨f, fd, ps, ds, F, hm, kp, b, d⟩ := c.ex
  exact pe_callSD F (hr.mono hk) hg hm kp b d hx ha hdb he hpl
end
/-! what is passed on by calls that raise nothing -/
abbrev EN : L2.St → XK := fun _ => E0
theorem p0At {X : Cx} (σ : L2.St) : PassesAt CX0 X σ (EN σ) := fun _ _ _ _ _ _ h => h.elim
theorem pLAt {X : Cx} (σ : L2.St) : PassesAt (L2.CX X.prog X.w) X σ (EN σ) := fun _ _ _ _ _ _ h => by
  obtain ⟨_, _, _, _, _, _, _, _, _, _, _, _, z⟩ := h
  exact z.elim
end
end DL
set_option Elab.async false
set_option linter.all false
set_option maxRecDepth 100000
set_option maxHeartbeats 4000000
/-! DX1: operators of several kinds at once, great ints, texts and ints. -/
namespace DL
open PySem PySem.Spec L2
section
variable {X : Cx}
/-! ### either of two rules -/
def rOr (r r' : R2) : R2 := fun x y H Q => r x y H Q ∨ r' x y H Q
theorem op_or {f : Value → Value → Sem Value} {r r' : R2} (h : OpR X f r) (h' : OpR X f r') : OpR X f (rOr r r') := by
  intro pins s σ H x y v u Q I rx ry q
  rcases q with q | q
  · exact h pins s σ H x y v u Q I rx ry q
  · exact h' pins s σ H x y v u Q I rx ry q
def cOr (r r' : List V → Hp → VK → Prop) : List V → Hp → VK → Prop := fun xs H Q => r xs H Q ∨ r' xs H Q
theorem call_or {f : Value} {r r' : List V → Hp → VK → Prop} (h : CallR X f r) (h' : CallR X f r') : CallR X f (cOr r r') := by
  intro pins s σ H xs us Q I r q
  rcases q with q | q
  · exact h pins s σ H xs us Q I r q
  · exact h' pins s σ H xs us Q I r q
/-! ### + : ints, texts, lists, tuples -/
def rAddI : R2 := rI0 fun i j => .int (i + j)
def rAddS2 : R2 := fun x y H Q => ∃ i j, x = .str i ∧ y = .str j ∧ i.length + j.length ≤ sizeLine ∧ Q (.str (i ++ j)) H
def rAddU (K : PySem.W.Frag) : R2 := rOr rAddI (rOr rAddS2 (rOr rCat (rCatA K)))
theorem op_addU : OpR X (binaryOp .Add) (rAddU X.K) := op_or op_add (op_or op_add_str (op_or op_cat op_catA))
/-! ### * : great ints, a text so many times -/
def rMulS : R2 := fun x y H Q => ∃ z n, x = .str z ∧ y = .int n ∧ 0 ≤ n ∧ n ≤ 16777216 ∧ z.length * n.toNat ≤ 16777216 ∧ Q (.str ⟨(List.replicate n.toNat z.cps).foldl (· ++ ·) #[]⟩) H
theorem rep_one (a : Array Nat) : (List.replicate 1 a).foldl (· ++ ·) #[] = a := by simp
theorem rep_emp (n : Nat) : (List.replicate n (#[] : Array Nat)).foldl (· ++ ·) #[] = #[] := by
  induction n with
  | zero => rfl
  | succ n ih => rw [List.replicate_succ, List.foldl_cons]; simpa using ih
theorem op_mulS : OpR X (binaryOp .Mult) rMulS := by
  intro pins s σ H x y v u Q I rx ry h
  obtain ⟨z, n, rfl, rfl, h0, h1, hl, q⟩ := h
  obtain ⟨t, rfl⟩ := rx
  obtain ⟨t2, rfl⟩ := ry
  have hlo : ¬ n < -(2 ^ 63 : Int) := by omega
  have hhi : ¬ n ≥ (2 ^ 63 : Int) := by omega
  have hz : z.length ≤ 16777216 ∨ n.toNat = 0 := by
    by_cases e : n.toNat = 0
    · exact .inr e
    · refine .inl (Nat.le_trans ?_ hl)
      exact Nat.le_mul_of_pos_right _ (by omega)
  refine PySem.P.mul_str (by rw [decide_eq_false hlo, decide_eq_false hhi]; rfl) (fun a b => ?_) (fun a b => ?_) ?_
  · have hz' : z.length ≤ 16777216 := by
      rcases hz with hz | hz
      · exact hz
      · omega
    have hb : (549755813887 : Int) ≤ (2 ^ 63 - 1) / n := by
      refine Int.le_ediv_of_mul_le (by omega) ?_
      omega
    omega
  · unfold Builtin.Str.tooLong
    rw [decide_eq_false_iff_not]
    have := sizeLine_eq
    first
      | omega
      | (simp only [sizeLine_eq]; omega)
  · by_cases c : n < 1
    · rw [if_pos c]
      have e : n.toNat = 0 := by omega
      rw [e] at q
      exact ⟨by decide, .str _, H, I.tok _, ⟨_, rfl⟩, q⟩
    · rw [if_neg c]
      by_cases c2 : (n == 1 || z.length == 0) = true
      · rw [if_pos c2]
        have e : (⟨(List.replicate n.toNat z.cps).foldl (· ++ ·) #[]⟩ : Str) = z := by
          rcases (Bool.or_eq_true _ _).mp c2 with c3 | c3
          · have e1 : n = 1 := by simpa using c3
            subst e1
            show (⟨(List.replicate 1 z.cps).foldl (· ++ ·) #[]⟩ : Str) = z
            rw [rep_one]
          · have e1 : z.length = 0 := by simpa using c3
            have e2 : z.cps = #[] := Array.eq_empty_of_size_eq_zero e1
            rw [e2, rep_emp, ← e2]
        rw [e] at q
        exact ⟨.str z, H, I, ⟨t, rfl⟩, q⟩
      · rw [if_neg c2]
        refine ⟨?_, .str _, H, I.tok _, ⟨_, rfl⟩, q⟩
        have key : ∀ (k : Nat) (a : Array Nat), ((List.replicate k z.cps).foldl (· ++ ·) a).size = a.size + k * z.cps.size := by
          intro k
          induction k with
          | zero => intro a; simp
          | succ k ih => intro a; rw [List.replicate_succ, List.foldl_cons, ih, Array.size_append, Nat.succ_mul]; omega
        show ((List.replicate n.toNat z.cps).foldl (· ++ ·) #[]).size ≤ sizeLine
        rw [key, sizeLine_eq]
        have e : n.toNat * z.cps.size = z.length * n.toNat := Nat.mul_comm _ _
        simp only [Array.size_empty] <;> omega
def CMulX (i j : Int) : Prop := CMulW i j ∨ CMul i j
def rMulI : R2 := rI CMulX fun i j => .int (i * j)
theorem op_mulX : OpR X (binaryOp .Mult) rMulI := opI fun _ _ _ _ _ _ _ hc q => PyProof.Rows.mul_int q (hc.elim (fun h => h.ok) fun h => h.ok)
def rMulU : R2 := rOr rMulI rMulS
theorem op_mulU : OpR X (binaryOp .Mult) rMulU := op_or op_mulX op_mulS
/-! ### // and % by ints of either sign -/
def CDivX (_ j : Int) : Prop := j ≠ 0 ∧ j.natAbs.log2 < 9000
theorem op_fdivX : OpR X (binaryOp .FloorDiv) (rI CDivX fun i j => .int (i.fdiv j)) := by
  intro pins s σ H x y v u Q I rx ry h
  obtain ⟨i, j, rfl, rfl, hc, q⟩ := h
  obtain ⟨t, rfl⟩ := rx
  obtain ⟨t2, rfl⟩ := ry
  exact PyProof.Rows.floordiv_int hc.1 ⟨.int _, H, I.tok _, ⟨_, rfl⟩, q⟩ (.inl (PyProof.noPylong_of_log2 hc.2))
/-! ### str(int), int(text) beyond 1,920 bits and 640 signs -/
/-- what the written part tells of the limit of figures -/
def NoDig (K : PySem.W.Frag) : Prop := PySem.W.nsOkIn K cStatics = true ∧ PySem.W.nsIn K cStatics "sys.int_max_str_digits" = some none
theorem NoDig.at {K : PySem.W.Frag} {h : Heap} (n : NoDig K) (X : K.In h) : h.NoDigits :=
  ⟨_, .of_isNs (PySem.W.isNs_of_in X n.1), PySem.W.ns_none_of X (.of_isNs (PySem.W.isNs_of_in X n.1)) n.2⟩
def rStrI : List V → Hp → VK → Prop := fun xs H Q => ∃ i : Int, xs = [.int i] ∧ i.natAbs < 10 ^ 4300 ∧ Q (.str (toString i)) H
theorem call_strB (hc : X.calm = true) (hd : NoDig X.K) : CallR X (.type "str") rStrI := by
  intro pins s σ H xs us Q I r h
  obtain ⟨i, rfl, hz, q⟩ := h
  obtain ⟨u, rfl, t, rfl⟩ := vals1 r
  refine PyProof.Rows.str_of_int_or (I.ok.hd hc) (hd.at I.kIn) (fun _ => ⟨.str _, H, I.tok _, ⟨_, rfl⟩, q⟩) fun hge => absurd hz (Nat.not_lt.mpr hge)
end
end DL
set_option Elab.async false
set_option linter.all false
set_option maxRecDepth 100000
set_option maxHeartbeats 8000000
/-! DX2: int(text) of up to 4,300 signs. -/
namespace PySem.W
open PySem PySem.Calls PySem.NumText PyProof.Rows
namespace KIB
theorem max_digits {M : Model} {A : Around} {E : Value → Shared → Prop} {s : Shared} {Q : Nat → Shared → Prop} (hn : s.heap.NoDigits) (h : Q 4300 s) : wpAny M A Builtin.intMaxStrDigits Q E s := by
  obtain ⟨mc, hns, hnone⟩ := hn
  unfold Builtin.intMaxStrDigits
  refine wpAny_bind (wpAny_nsGet hns ?_)
  rw [hnone]
  exact wpAny_pure h
theorem text_wp {M : Model} {A : Around} {E : Value → Shared → Prop} {s : Shared} {Q : Value → Shared → Prop} {v : Value} {text : List Nat} {n : Int} (hnd : s.heap.NoDigits)
    (hs : ¬ (text.takeWhile (· != 0)).length ≤ 640) (hr : (int_private% "readNumeral") 4300 10 (text.takeWhile (· != 0)) = (int_private% "Numeral.value") n)
    (ha : ((text.takeWhile (· != 0)).length == text.length) = true) (h : Q (.int n s.toks) { s with toks := s.toks + 1 }) :
    wpAny M A ((int_private% "intFromText") v text 10) Q E s := by
  obtain ⟨hp, g, d, tk, os⟩ := s
  repeat (any_goals (first
    | assumption
    | (with_reducible refine max_digits hnd ?_)
    | (with_reducible refine wpAny_ite_false (decide_eq_false hs) ?_)
    | (with_reducible refine wpAny_ite_true (decide_eq_true ha) ?_)
    | wp_step))
  rw [hr]
  dsimp only
  repeat (any_goals (first
    | assumption
    | (with_reducible refine wpAny_ite_true (decide_eq_true ha) ?_)
    | wp_step))
structure Box (p : Prop) : Prop where
  get : p
theorem new_meets {x : PySem.Str} {u : Tok} {n : Int} (hl : x.length ≤ 4300) (h640 : ¬ (numSeenOf x).length ≤ 640) (hn : PySem.intText? x = some n) :
    Meets (Builtin.«int.__new__» ⟨[.type "int", .str x u], []⟩) (fun _ R s => s.heap.NoDigits ∧ R (.ok (.ret (.int n s.toks))) { s with toks := s.toks + 1 }) := by
  intro prog w A R s hq
  obtain ⟨hp, g, d, tk, os⟩ := s
  obtain ⟨hnd, hq⟩ := hq
  have f1 := F.conv_sub_int
  have f2 := F.madeHere_int
  have f3 := KIN.str_int
  have f4 := KIN.str_idx
  have f5 := KIN.str_trunc
  have f6 : typeOf (.str x u) = pure (.type "str") := rfl
  have hx : x.length ≤ sizeLine := by rw [sizeLine_eq]; omega
  have hk : Box (¬ (numSeenOf x).length ≤ 640 ∧ (int_private% "readNumeral") 4300 10 (numSeenOf x) = (int_private% "Numeral.value") n ∧ ((numSeenOf x).length == (numTextOf x).length) = true) := by
    refine ⟨h640, ?_⟩
    rcases read4300 x hx with ⟨m, h1, h2, h3⟩ | ⟨h1, _⟩
    · rw [hn] at h1
      injection h1 with h1
      subst h1
      exact ⟨h3, h2⟩
    · rw [hn] at h1
      cases h1
  clear h640 hl hn
  repeat (any_goals (first
    | assumption
    | ((with_reducible show wpAny _ _ ((int_private% "intFromText") _ _ _) _ _ _); refine text_wp hnd hk.get.1 hk.get.2.1 hk.get.2.2 ?_)
    | wp_step))
  all_goals first | exact ⟨_, rfl, hq⟩ | skip
section
variable {prog : Program} {w : World} {A : Around} {E : Value → Shared → Prop} {s : Shared} {Q : Value → Shared → Prop} {x : PySem.Str} {t : Tok} {n : Int}
theorem call_big (hnd : s.heap.NoDigits) (hn : PySem.intText? x = some n) (hl : x.length ≤ 4300) (hs : x.length ≤ 640 ∨ 640 < (numSeenOf x).length) (h : Q (.int n s.toks) { s with toks := s.toks + 1 }) : wpAny (model prog w) A (call (.type "int") [.str x t]) Q E s := by
  rcases hs with hs | hs
  · exact KIN.call_text hn hs h
  · exact call_int_1 (new_meets hl (Nat.not_le.mpr hs) hn) ⟨hnd, rfl, h⟩
end
end KIB
end PySem.W
namespace DL
open PySem PySem.Spec L2
def rIntT : List V → Hp → VK → Prop := fun xs H Q => ∃ a n, xs = [.str a] ∧ PySem.intText? a = some n ∧ a.length ≤ 4300 ∧ (a.length ≤ 640 ∨ 640 < (PySem.numSeenOf a).length) ∧ Q (.int n) H
def rIntV : List V → Hp → VK → Prop := fun xs H Q => (∃ i, xs = [.int i] ∧ Q (.int i) H) ∨ ∃ k, xs = [.bl k] ∧ Q (.int (if k then 1 else 0)) H
def rIntU : List V → Hp → VK → Prop := cOr rIntV rIntT
theorem call_intT {X : Cx} (hd : NoDig X.K) : CallR X (.type "int") rIntT := by
  intro pins s σ H xs us Q I rs h
  obtain ⟨a, n, rfl, hn, hl, hs, h⟩ := h
  obtain ⟨u, rfl, t, rfl⟩ := vals1 rs
  exact PySem.W.KIB.call_big (hd.at I.kIn) hn hl hs ⟨.int n, H, I.tok _, ⟨_, rfl⟩, h⟩
theorem call_intU {X : Cx} (hd : NoDig X.K) : CallR X (.type "int") rIntU := call_or call_int1 (call_intT hd)
end DL
set_option Elab.async false
set_option linter.all false
set_option maxRecDepth 100000
set_option maxHeartbeats 4000000
/-! X1: an own error class (own bases, then ValueError) whose __init__ says super().__init__('..') and then stores one or two fields. -/
namespace DL
open PySem PySem.Spec PyProof.Rows L2 PySem.W

/-- what the written part tells of the class at C and of its __init__ at fI -/
structure SupC (P : Program) (K : PySem.W.Frag) (mg : Str → Option Value) (C fI : Addr) : Prop where
  ox : OexC K C
  iC : PySem.W.findIn K (.ref C) "__init__" = some (some (.ref fI))
  tI : PySem.W.typeIn K (.ref fI) = some (.type "function")
  sB : PySem.W.subIn K (.ref C) (.type "ValueError") = some true
  sC : PySem.W.mroIn K C (.ref C) = some true
  si : PySem.W.ks_superIn K C C "__init__" = some (some (.builtin "ValueError.__init__"))
  tp : PySem.W.nsIn K cStatics "thirdparty.any" = some none
  top : (P.main.scope.names.lookup ("super" : Str)).isSome = false
  ms : mg "super" = none
/-- the code and the cell of its __init__ -/
structure SupF (P : Program) (K : PySem.W.Frag) (C fI : Addr) (qual : Str) (st : Stmt) (fd : FuncData) : Prop where
  ex : ∃ (oc : Value) (od : Option Addr) (kV doc pm ct : Value) (an : Option Addr) (cda cc : Addr) (osl : Array (Option Value)) (ccl cl : Value) (cdd cld : Option Addr) (ccs csl : Array (Option Value)) (vs : Array Value) (file : Str) (tf : Tok),
    fd = PySem.W.ksFn "__init__" qual (defArgs st) (defBody st) (defScope st) .none kV doc pm an (.ref cda) ct cc ∧
    K.lookup fI = some ⟨oc, od, .func fd, osl⟩ ∧ PySem.W.codeIn K (.ref cda) qual = true ∧ K.lookup cda = some ⟨ccl, cdd, .fields vs, ccs⟩ ∧ vs[2]? = some (.str file tf) ∧ ((P.main.file : Str) == file) = true ∧
    K.lookup cc = some ⟨cl, cld, .cell (some (.ref C)), csl⟩

section
variable {P : Program} {w : World} {K : PySem.W.Frag} {mg : Str → Option Value} {base : Heap} {A : Around} {E : Value → Shared → Prop} {s : Shared} {C fI x : Addr}
/-- the exception while it has no dict -/
abbrev ex0 (C t : Addr) : Obj := PySem.HandSPX.excO C t

/-- super().__init__('..') -/
theorem super_part {body : List Stmt} {qual msg : Str} {scope : Scope} {L cda cc t0 : Addr} {m : Str → Option Value} {p0 p1 p2 p3 p4 p5 : Pos} {j} {fd : FuncData} {oc ccl cl : Value} {od cdd cld : Option Addr} {osl ccs csl : Array (Option Value)} {vs : Array Value} {file : Str} {tf : Tok} {ar : Arg}
    {Q : Flow → Shared → Prop} (T : SupC P K mg C fI) (M : Mod K mg base) (kb : ∀ b o, base.get? b = some o → s.heap.get? b = some o)
    (hf : K.lookup fI = some ⟨oc, od, .func fd, osl⟩) (hp : (fd.params.posonlyargs ++ fd.params.args).head? = some ar)
    (hcode : K.lookup cda = some ⟨ccl, cdd, .fields vs, ccs⟩) (hvs : vs[2]? = some (.str file tf)) (hfile : ((P.main.file : Str) == file) = true)
    (hcell : K.lookup cc = some ⟨cl, cld, .cell (some (.ref C)), csl⟩)
    (hks : scope.names.lookup ("super" : Str) = some .globalImplicit) (hkc : scope.names.lookup ("__class__" : Str) = some .free) (hka : scope.names.lookup ar.arg = some .local) (hk : scope.kind = .function)
    (hi : interactive (PySem.W.ksEnv qual scope L fI (.ref cda) cc) = false)
    (hsw : swapsWith (.Call (.Attribute (.Call (.Name "super" p0) [] [] p1) "__init__" p2) [.Constant (.str msg) j p3] [] p4) none p5.line (PySem.W.ksEnv qual scope L fI (.ref cda) cc) = pure false) {pl : Sem Bool}
    (he : eval (.Call (.Attribute (.Call (.Name "super" p0) [] [] p1) "__init__" p2) [.Constant (.str msg) j p3] [] p4) (PySem.W.ksEnv qual scope L fI (.ref cda) cc) = (do
      let ov ← attributeBase (.Call (.Name "super" p0) [] [] p1) "__init__" (PySem.W.ksEnv qual scope L fI (.ref cda) cc) (eval (.Call (.Name "super" p0) [] [] p1) (PySem.W.ksEnv qual scope L fI (.ref cda) cc))
      standAt p2.atName
      let (f, first) ← holding [ov] (getMethod ov "__init__" pl)
      callWith p4 f first (backTo p4 (starEach [.Constant (.str msg) j p3] (PySem.W.ksEnv qual scope L fI (.ref cda) cc))) []))
    (hse : starEach [.Constant (.str msg) j p3] (PySem.W.ksEnv qual scope L fI (.ref cda) cc) = [(false, eval (.Constant (.str msg) j p3) (PySem.W.ksEnv qual scope L fI (.ref cda) cc))])
    (hn : s.heap.Ns L m) (hv : m ar.arg = some (.ref x)) (hx : s.heap.get? x = some (ex0 C t0))
    (hq : ∀ h' tk t1, (∀ b o, b ≠ x → s.heap.get? b = some o → h'.get? b = some o) → h'.get? x = some (ex0 C t1) → Q .next { s with heap := h', toks := tk }) :
    _root_.PySem.wpAt (model P w) A (.func body (PySem.W.ksEnv qual scope L fI (.ref cda) cc))
      (exec (.Expr (.Call (.Attribute (.Call (.Name "super" p0) [] [] p1) "__init__" p2) [.Constant (.str msg) j p3] [] p4) p5) (PySem.W.ksEnv qual scope L fI (.ref cda) cc)) Q E s := by
  have X : K.In s.heap := M.kin.keeps kb
  obtain ⟨nm, q, N, bs, bm, sn, sub, ab, col, dd, k0, k1, k2, k3, k5, hC, hbm⟩ := T.ox.cls
  have hcl : PySem.W.clsIn K C = some { name := nm, bases := bs, mro := .ref C :: bm, ns := N, qualname := q, hasDict := true, slotNames := sn, subclasses := sub, abstract := ab, collection := col, hasDel := false } := by unfold PySem.W.clsIn; rw [hC] <;> rfl
  obtain ⟨mb, hmb, hblt⟩ := M.blt
  obtain ⟨hp0, g, d, t, os⟩ := s
  have I : PySem.W.InstAt hp0 x (ex0 C t0) C none := ⟨hx, rfl, rfl, trivial⟩
  refine ks_wpAt_Expr_any ?_ hi hsw
  refine ks_wpAt_MethodCall ?_ he
  refine ks_wpAt_super_base (env := PySem.W.ksEnv qual scope L fI (.ref cda) cc) hks hkc (by decide) rfl (X _ _ hf) rfl hp rfl (X _ _ hcode) rfl hvs hfile T.top ?_
  refine PySem.W.ks_loadName_global hk hks (Calls.loadGlobal_builtin (env := PySem.W.ksEnv qual scope L fI (.ref cda) cc) (M.glob.keeps kb) T.ms (hmb.keeps kb) ((hblt "super" (by decide)).trans (by decide +kernel)) ⟨rfl, ?_⟩)
  refine wpAny_loadName_free hk hkc rfl ⟨_, X _ _ hcell, rfl⟩ ?_
  refine wpAny_loadName_local hk hka hn hv ?_
  refine ks_wpAny_isType_cls (X _ _ hC) rfl ⟨rfl, ?_⟩
  refine ks_wpAny_call_super (X _ _ hC) rfl hx rfl (fun c e => by cases e) (PySem.W.looks_mroIn X T.sC) (fun h1 e1 k1 => ?_)
  have X1 : K.In h1 := X.keeps k1
  have hx1 := k1 _ _ hx
  have I1 : PySem.W.InstAt h1 x (ex0 C t0) C none := ⟨hx1, rfl, rfl, trivial⟩
  have hm := T.si
  unfold PySem.W.ks_superIn at hm
  rw [hcl] at hm
  refine PySem.W.kxs_getMethod PySem.W.kxs_ValueError e1 (PySem.W.looks_opaque X1 T.tp) (l₀ := .ref C :: bm) (fun A Q E s k q => wpAny_bind ((PySem.W.looks_clsIn X1 hcl) A _ E s k (wpAny_pure q))) rfl X1 hm (I1.type.andThen (PySem.W.looks_subIn X1 T.sB)) (PySem.W.ks_ne X1 I1 hcl) (by decide) ?_
  have hu : (h1.push (PySem.W.kxs_mw "ValueError.__init__" x)).get? h1.objs.size = some (PySem.W.kxs_mw "ValueError.__init__" x) := Heap.get?_push_at rfl rfl
  have kk : ∀ b o, hp0.get? b = some o → (h1.push (PySem.W.kxs_mw "ValueError.__init__" x)).get? b = some o := fun b o z => Heap.get?_push_of_some _ (k1 b o z)
  generalize hH : h1.push (PySem.W.kxs_mw "ValueError.__init__" x) = h2 at hu kk ⊢
  generalize h1.objs.size = u at hu ⊢
  rw [hse]
  refine PySem.W.kxs_callWith (i := "ValueError.__init__") (x := x) rfl ?_
  refine Calls.evalArgs_plain (Calls.spliced_cons (Calls.Constant_str (pos := p3) (k := j) (Calls.spliced_nil ⟨hu, ?_⟩)))
  have X2 : K.In h2 := X.keeps kk
  have hx2 := kk _ _ hx
  have fin : ∀ h' : Heap, (∀ b o, b ≠ x → h2.get? b = some o → h'.get? b = some o) → h'.get? x = some (ex0 C h2.objs.size) → Q .next ⟨h', g, d, t + 1 + 1, os⟩ := fun h' k e => hq h' _ _ (fun b o hb z => k b o hb (kk b o z)) e
  clear hq
  refine wpAny_call (codeAny_of_tree ?_)
  show wpAny _ A.in1 (callAny (.ref u) ⟨_, []⟩) _ _ _
  simp only [callAny]
  refine wpAny_bind (wpAny_load hu ?_)
  have w1 : (Value.type "method-wrapper" == Value.type "method" || Value.type "method-wrapper" == Value.type "builtin_function_or_method" || Value.type "method-wrapper" == Value.type "method-wrapper") = true := by decide
  simp only [PySem.W.kxs_mw, w1, if_true]
  refine PySem.W.KFB.if_so (by decide) (wpAny_bind ?_)
  refine PySem.W.check_bound_init F.excBase_ValueError.toExcCallFacts (X2 _ _ hC) hx2 rfl (wpAny_bind (wpAny_pure (wpAny_pure ?_)))
  refine ⟨plainId_quiet F.excBase_ValueError.init.plain _, codeAny_builtin F.excBase_ValueError.initEntry ?_⟩
  rw [Around.under_plainId F.excBase_ValueError.init.plain _]
  exact exc_init_tree (cls := .ref C) (t0 := t0) (dv := none) (c2 := .none) (c3 := .none) (b4 := .bool false) hx2 (by show 1 ≤ sizeLine; decide) fun h' k e _ => fin h' k e

theorem ld {env : Env} {L : Addr} {m : Str → Option Value} {n : Str} {pos : Pos} {v : Value} {Q : Value → Shared → Prop} {M : Model} (hn : s.heap.Ns env.locals m) (hv : m n = some v) (h : Q v s)
    (hk : env.scope.kind = .function) (hl : env.scope.names.lookup n = some .local) (hd : (n == ("__debug__" : Str)) = false) : wpAny M A (eval (.Name n pos) env) Q E s := wpAny_Name (wpAny_loadName_local hk hl hn hv h) hd
/-- self.f = y, the first field -/
theorem store1 {qual f pn : Str} {scope : Scope} {L cda cc t0 : Addr} {m : Str → Option Value} {q1 q2 q3 q4 : Pos} {u : Value} {Q : Flow → Shared → Prop} (T : SupC P K mg C fI) (X : K.In s.heap)
    (hno : PySem.W.findIn K (.ref C) f = some none) (hk : scope.kind = .function) (hls : scope.names.lookup ("self" : Str) = some .local) (hlf : scope.names.lookup pn = some .local) (hdf : (pn == ("__debug__" : Str)) = false)
    (hsw : swapsWith (.Name pn q3) (some (.Attribute (.Name "self" q1) f q2)) q4.line (PySem.W.ksEnv qual scope L fI (.ref cda) cc) = pure false)
    (hn : s.heap.Ns L m) (hvs : m "self" = some (.ref x)) (hvf : m pn = some u) (hx : s.heap.get? x = some (ex0 C t0))
    (hq : ∀ h' tk dx, (∀ b o, b ≠ x → s.heap.get? b = some o → h'.get? b = some o) → s.heap.objs.size ≤ dx → dx ≠ x → h'.get? x = some { cls := .ref C, dict := some dx, data := .fields #[.ref t0, .none, .none, .none, .bool false, .none] } →
      h'.Ns1 dx (fun y => if y = f then some u else none) → Q .next { s with heap := h', toks := tk }) :
    wpAny (model P w) A (exec (.Assign [.Attribute (.Name "self" q1) f q2] (.Name pn q3) q4) (PySem.W.ksEnv qual scope L fI (.ref cda) cc)) Q E s := by
  obtain ⟨nm, q, N, bs, bm, sn, sub, ab, col, dd, k0, k1, k2, k3, k5, hC, hbm⟩ := T.ox.cls
  have hcl : PySem.W.clsIn K C = some { name := nm, bases := bs, mro := .ref C :: bm, ns := N, qualname := q, hasDict := true, slotNames := sn, subclasses := sub, abstract := ab, collection := col, hasDel := false } := by unfold PySem.W.clsIn; rw [hC] <;> rfl
  refine plainObj_wpAny_Assign_Attribute (ld (L := L) hn hvf (ld (L := L) hn hvs ?_ hk hls (by decide)) hk hlf hdf) hsw
  obtain ⟨hp0, g, d, t, os⟩ := s
  refine PySem.W.set_plain X (ox := ex0 C t0) (od := none) ⟨hx, rfl, rfl, trivial⟩ T.ox.sa ?_
  exact PySem.HandSPX.exc_osa X hx hcl (show PySem.HandSPX.refsVE (.ref C :: bm) = true from hbm) rfl hno fun h' tk dx k dn dne e1 e2 => hq h' tk dx k dn dne e1 e2
/-- self.g = z, a further one -/
theorem store2 {qual f pn : Str} {scope : Scope} {L cda cc dx : Addr} {m mA : Str → Option Value} {q1 q2 q3 q4 : Pos} {u : Value} {fv : Array Value} {nl : List Str} {Q : Flow → Shared → Prop} (T : SupC P K mg C fI) (X : K.In s.heap)
    (hno : PySem.W.findIn K (.ref C) f = some none) (hk : scope.kind = .function) (hls : scope.names.lookup ("self" : Str) = some .local) (hlf : scope.names.lookup pn = some .local) (hdf : (pn == ("__debug__" : Str)) = false)
    (hsw : swapsWith (.Name pn q3) (some (.Attribute (.Name "self" q1) f q2)) q4.line (PySem.W.ksEnv qual scope L fI (.ref cda) cc) = pure false)
    (hn : s.heap.Ns L m) (hvs : m "self" = some (.ref x)) (hvf : m pn = some u) (hx : s.heap.get? x = some { cls := .ref C, dict := some dx, data := .fields fv }) (hnd : s.heap.Ns1 dx mA) (hw : Within mA nl) (hz : nl.length ≤ 1000)
    (hq : ∀ h' tk, (∀ b o, b ≠ dx → s.heap.get? b = some o → h'.get? b = some o) → h'.Ns1 dx (fun y => if y = f then some u else mA y) → Q .next { s with heap := h', toks := tk }) :
    wpAny (model P w) A (exec (.Assign [.Attribute (.Name "self" q1) f q2] (.Name pn q3) q4) (PySem.W.ksEnv qual scope L fI (.ref cda) cc)) Q E s := by
  obtain ⟨nm, q, N, bs, bm, sn, sub, ab, col, dd, k0, k1, k2, k3, k5, hC, hbm⟩ := T.ox.cls
  have hcl : PySem.W.clsIn K C = some { name := nm, bases := bs, mro := .ref C :: bm, ns := N, qualname := q, hasDict := true, slotNames := sn, subclasses := sub, abstract := ab, collection := col, hasDel := false } := by unfold PySem.W.clsIn; rw [hC] <;> rfl
  refine plainObj_wpAny_Assign_Attribute (ld (L := L) hn hvf (ld (L := L) hn hvs ?_ hk hls (by decide)) hk hlf hdf) hsw
  obtain ⟨hp0, g, d, t, os⟩ := s
  obtain ⟨oD, _, _, hoD, _, _⟩ := hnd.count hw
  refine PySem.W.set_plain X (ox := { cls := .ref C, dict := some dx, data := .fields fv }) (od := some oD) ⟨hx, rfl, rfl, hoD⟩ T.ox.sa ?_
  exact PySem.OEX.osa_old X hx hnd hw hz hcl (show PySem.HandSPX.refsVE (.ref C :: bm) = true from hbm) rfl hno fun h' tk k e => hq h' tk k e
end

/-! ### the abstract heap behind it -/
section
variable {P : Program} {w : World} {H : Hp} {h h' : Heap} {a dx C : Addr} {fs : List Addr} {fl : List (Str × V)}
theorem exc_end (hok : HOk P w H h) (e : H a = some (exo a C none)) (k : ∀ b o, b ≠ a → h.get? b = some o → h'.get? b = some o) (dn : h.objs.size ≤ dx) (dne : dx ≠ a) {t1 : Addr}
    (hx : h'.get? a = some ({ cls := .ref C, dict := some dx, data := .fields #[.ref t1, .none, .none, .none, .bool false, .none] } : Obj)) {mA : Str → Option Value} (hn : h'.Ns1 dx mA) (r : ∀ g, RelO (fl.lookup g) (mA g)) :
    Un fs [] H (upd (upd H dx (exd dx fl)) a (exo a C (some dx))) h h' ∧ HOk P w (upd (upd H dx (exd dx fl)) a (exo a C (some dx))) h' := by
  have hnd : H dx = none := hok.fresh dn
  have mu : Mut (H a) := by rw [e]; exact True.intro
  have ok1 : HOk P w (upd H a (exo a C (some dx))) h' := hok.write mu (.inl rfl) k ⟨_, hx⟩ (exo_ok hx)
  have un1 : Un fs [] H (upd H a (exo a C (some dx))) h h' := Un.write mu (.inl rfl) k ⟨_, hx⟩
  have hsw : upd (upd H dx (exd dx fl)) a (exo a C (some dx)) = upd (upd H a (exo a C (some dx))) dx (exd dx fl) := by
    funext b
    unfold upd
    by_cases h1 : b = a
    · subst h1; rw [if_pos rfl, if_neg (Ne.symm dne), if_pos rfl]
    · rw [if_neg h1, if_neg h1]
  have hn1 : upd H a (exo a C (some dx)) dx = none := by rw [upd_ne dne]; exact hnd
  rw [hsw]
  refine ⟨⟨un1.keep, un1.slot, fun b o q n x => ?_, un1.there, fun b xs q => ?_, fun b o u q => ?_, fun b ps q => ?_⟩, fun b u q => ?_⟩
  · rw [upd_ne (Nat.ne_of_lt (Nat.lt_of_lt_of_le (Heap.lt_size q) dn))]; exact un1.free b o q n x
  · rw [upd_ne (ne_of_none (un1.tups b xs q) hn1)]; exact un1.tups b xs q
  · rw [upd_ne (ne_of_none (un1.frzs b o u q) hn1)]; exact un1.frzs b o u q
  · obtain ⟨more, z⟩ := un1.tbls b ps q
    exact ⟨more, by rw [upd_ne (ne_of_none z hn1)]; exact z⟩
  · by_cases hb : b = dx
    · subst hb
      rw [upd_same] at q
      cases q
      exact exd_ok hn r
    · rw [upd_ne hb] at q
      exact (ok1 b u q).stay (fun _ _ _ z => z) (fun c hc => by rw [upd_ne (ne_of_none hc hn1)]; exact hc) fun c xs hc => by rw [upd_ne (ne_of_none hc hn1)]; exact hc
end

/-- what __init__(self, f) promises: the fresh exception gets its dict with the one field | the two fields -/
def spI1 (C : Addr) (f : Str) : Sp := fun vs H Q _ => ∃ (a : Addr) (y : V), vs = [.ref a, y] ∧ H a = some (exo a C none) ∧ ∀ d, H d = none → d ≠ a → Q .non (upd (upd H d (exd d [(f, y)])) a (exo a C (some d)))
def spI2 (C : Addr) (f g : Str) : Sp := fun vs H Q _ => ∃ (a : Addr) (y z : V), vs = [.ref a, y, z] ∧ H a = some (exo a C none) ∧ ∀ d, H d = none → d ≠ a → Q .non (upd (upd H d (exd d [(g, z), (f, y)])) a (exo a C (some d)))
theorem ns_keep {h h' : Heap} {L x : Addr} {m : Str → Option Value} (hn : h.Ns L m) (hx : L ≠ x) (k : ∀ b o, b ≠ x → h.get? b = some o → h'.get? b = some o) : h'.Ns L m := by
  obtain ⟨o, es, ep, ho, r⟩ := hn
  exact ⟨o, es, ep, k _ _ hx ho, r⟩
section
variable {P : Program} {w : World} {K : PySem.W.Frag} {mg : Str → Option Value} {base : Heap} {C fI : Addr} {st : Stmt} {qual f g msg : Str} {fd : FuncData} {j : _} {p0 p1 p2 p3 p4 p5 q1 q2 q3 q4 r1 r2 r3 r4 : Pos} {CX : CXT} {k : Nat}
/-- what is read off the text of __init__ (all by rfl) -/
structure InitText (st : Stmt) (qual : Str) (fI : Addr) (msg : Str) (j : Nat) (p0 p1 p2 p3 p4 p5 : Pos) (names : List Str) (rest : List Stmt) (pl : Sem Bool) : Prop where
  body : defBody st = .Expr (.Call (.Attribute (.Call (.Name "super" p0) [] [] p1) "__init__" p2) [.Constant (.str msg) j p3] [] p4) p5 :: rest
  kind : (defScope st).kind = .function
  co : (defScope st).isCoroutine = false
  gen : (defScope st).isGenerator = false
  cells : ∀ x ∈ (defScope st).names, x.2 ≠ .cell
  loc : ∀ x ∈ names, (defScope st).names.lookup x = some .local
  self : ("self" : Str) ∈ names
  sup : (defScope st).names.lookup ("super" : Str) = some .globalImplicit
  cls : (defScope st).names.lookup ("__class__" : Str) = some .free
  hp : ∃ ar, ((defArgs st).posonlyargs ++ (defArgs st).args).head? = some ar ∧ ar.arg = "self"
  hi : ∀ L cda cc, interactive (PySem.W.ksEnv qual (defScope st) L fI (.ref cda) cc) = false
  hsw : ∀ L cda cc, swapsWith (.Call (.Attribute (.Call (.Name "super" p0) [] [] p1) "__init__" p2) [.Constant (.str msg) j p3] [] p4) none p5.line (PySem.W.ksEnv qual (defScope st) L fI (.ref cda) cc) = pure false
  he : ∀ L cda cc, eval (.Call (.Attribute (.Call (.Name "super" p0) [] [] p1) "__init__" p2) [.Constant (.str msg) j p3] [] p4) (PySem.W.ksEnv qual (defScope st) L fI (.ref cda) cc) = (do
      let ov ← attributeBase (.Call (.Name "super" p0) [] [] p1) "__init__" (PySem.W.ksEnv qual (defScope st) L fI (.ref cda) cc) (eval (.Call (.Name "super" p0) [] [] p1) (PySem.W.ksEnv qual (defScope st) L fI (.ref cda) cc))
      standAt p2.atName
      let (f, first) ← holding [ov] (getMethod ov "__init__" pl)
      callWith p4 f first (backTo p4 (starEach [.Constant (.str msg) j p3] (PySem.W.ksEnv qual (defScope st) L fI (.ref cda) cc))) [])
  hse : ∀ L cda cc, starEach [.Constant (.str msg) j p3] (PySem.W.ksEnv qual (defScope st) L fI (.ref cda) cc) = [(false, eval (.Constant (.str msg) j p3) (PySem.W.ksEnv qual (defScope st) L fI (.ref cda) cc))]
/-- .. and of a store -/
structure StoreText (st : Stmt) (qual : Str) (fI : Addr) (f pn : Str) (q1 q2 q3 q4 : Pos) : Prop where
  lf : (defScope st).names.lookup pn = some .local
  df : (pn == ("__debug__" : Str)) = false
  sw : ∀ L cda cc, swapsWith (.Name pn q3) (some (.Attribute (.Name "self" q1) f q2)) q4.line (PySem.W.ksEnv qual (defScope st) L fI (.ref cda) cc) = pure false
theorem init1_ok {pl : Sem Bool} (T : SupC P K mg C fI) (S : SupF P K C fI qual st fd) (hno : PySem.W.findIn K (.ref C) f = some none)
    (I : InitText st qual fI msg j p0 p1 p2 p3 p4 p5 ["self", f] [.Assign [.Attribute (.Name "self" q1) f q2] (.Name f q3) q4] pl) (St1 : StoreText st qual fI f f q1 q2 q3 q4) (hne : f ≠ "self") : FnOk P w K mg base CX k fI fd ["self", f] (spI1 C f) := by
  obtain ⟨oc, od, kV, doc, pm, ct, an, cda, cc, osl, ccl, cl, cdd, cld, ccs, csl, vs0, file, tf, rfl, lk, hcd, hcode, hvs, hfile, hcell⟩ := S.ex
  refine ⟨fun vs H Q E h => by obtain ⟨a, y, rfl, _⟩ := h; rfl, fun A outer s H args us vs Q E hr e0 hb r hsp => ?_⟩
  obtain ⟨a, y, rfl, ha, hq⟩ := hsp
  obtain ⟨u1, u2, rfl, ra, ry⟩ := vals2 r
  obtain rfl : u1 = Value.ref a := ra
  have kb := fun b o (e : base.get? b = some o) => (e0.bs b o e).1
  have KX : K.In s.heap := e0.mod.kin.keeps kb
  have lim : s.heap.NoLimit := e0.mod.nolimit.keeps kb
  obtain ⟨t1, hx⟩ := exo_at e0.hok ha
  obtain ⟨ar, har, harg⟩ := I.hp
  have hroom : A.depth < recursionLimit := by have := hr.dp; omega
  refine ks_codeAny_call_defAt (body := defBody st) hroom (KX _ _ lk) rfl lim (PySem.W.codeRec_of KX hcd) rfl hb I.cells (fun z hz => I.loc _ (List.of_mem_zip hz).1) (fun h0 hns hk0 => ?_) I.co I.gen I.kind
  have hxL : s.heap.objs.size ≠ a := Nat.ne_of_gt (Heap.lt_size hx)
  rw [I.body]
  have mv1 : ((["self", f] : List Str).zip [Value.ref a, u2]).reverse.lookup ("self" : Str) = some (.ref a) := by
    have e : (("self" : Str) == f) = false := by simpa using fun z => hne z.symm
    simp [List.lookup, e]
  have mv2 : ((["self", f] : List Str).zip [Value.ref a, u2]).reverse.lookup f = some u2 := by simp [List.lookup]
  refine ks_wpAt_execs_cons (super_part (x := a) (t0 := t1) T e0.mod (fun b o e => hk0 _ _ (kb b o e)) lk har hcode hvs hfile hcell I.sup I.cls (by rw [harg]; exact I.loc _ I.self) I.kind (I.hi _ _ _) (I.hsw _ _ _) (I.he _ _ _) (I.hse _ _ _) hns (by rw [harg]; exact mv1) (hk0 _ _ hx) fun h1 tk t2 k1 hx1 => ?_)
  have nK : ∀ {b : Addr} {o : Obj}, K.lookup b = some o → b ≠ a := fun {b o} e z => by
    have q1 := (e0.bs b o (e0.mod.kin b o e)).2
    rw [z, ha] at q1; cases q1
  have k01 : ∀ b o, b ≠ a → s.heap.get? b = some o → h1.get? b = some o := fun b o hb e => k1 b o hb (hk0 b o e)
  have X1 : K.In h1 := fun b o e => k01 b o (nK e) (KX b o e)
  have hn1 := ns_keep hns hxL k1
  have hsz : s.heap.objs.size < h1.objs.size := hn1.lt
  refine wpAt_of_wpAny (wpAny_execs_cons (store1 (x := a) (t0 := t2) T X1 hno I.kind (I.loc _ I.self) St1.lf St1.df (St1.sw _ _ _) hn1 mv1 mv2 hx1 fun h2 tk2 dx k2 dn dne hx2 hn2 => ?_))
  have dn' : h1.objs.size ≤ dx := dn
  refine wpAny_execs_nil ?_
  obtain ⟨un, hok⟩ := exc_end (fs := frs outer) (fl := [(f, y)]) e0.hok ha (fun b o hb e => k2 b o hb (k01 b o hb e)) (by omega) dne hx2 hn2 (relO_put (fs := []) ry fun _ => True.intro)
  exact ⟨.non, _, rfl, e0.bare, un, hok, rfl, hq dx (e0.hok.fresh (by omega)) dne⟩
theorem init2_ok {pl : Sem Bool} (T : SupC P K mg C fI) (S : SupF P K C fI qual st fd) (hno : PySem.W.findIn K (.ref C) f = some none) (hng : PySem.W.findIn K (.ref C) g = some none)
    (I : InitText st qual fI msg j p0 p1 p2 p3 p4 p5 ["self", f, g] [.Assign [.Attribute (.Name "self" q1) f q2] (.Name f q3) q4, .Assign [.Attribute (.Name "self" r1) g r2] (.Name g r3) r4] pl)
    (St1 : StoreText st qual fI f f q1 q2 q3 q4) (St2 : StoreText st qual fI g g r1 r2 r3 r4) (hne : f ≠ "self") (hne2 : g ≠ "self") (hfg : f ≠ g) : FnOk P w K mg base CX k fI fd ["self", f, g] (spI2 C f g) := by
  obtain ⟨oc, od, kV, doc, pm, ct, an, cda, cc, osl, ccl, cl, cdd, cld, ccs, csl, vs0, file, tf, rfl, lk, hcd, hcode, hvs, hfile, hcell⟩ := S.ex
  refine ⟨fun vs H Q E h => by obtain ⟨a, y, z, rfl, _⟩ := h; rfl, fun A outer s H args us vs Q E hr e0 hb r hsp => ?_⟩
  obtain ⟨a, y, z, rfl, ha, hq⟩ := hsp
  obtain ⟨u1, us', rfl, ra, rr⟩ : ∃ u1 us', us = u1 :: us' ∧ RelV (.ref a) u1 ∧ Vals [y, z] us' := by
    cases r with
    | cons r1 r2 => exact ⟨_, _, rfl, r1, r2⟩
  obtain ⟨u2, u3, rfl, ry, rz⟩ := vals2 rr
  obtain rfl : u1 = Value.ref a := ra
  have kb := fun b o (e : base.get? b = some o) => (e0.bs b o e).1
  have KX : K.In s.heap := e0.mod.kin.keeps kb
  have lim : s.heap.NoLimit := e0.mod.nolimit.keeps kb
  obtain ⟨t1, hx⟩ := exo_at e0.hok ha
  obtain ⟨ar, har, harg⟩ := I.hp
  have hroom : A.depth < recursionLimit := by have := hr.dp; omega
  refine ks_codeAny_call_defAt (body := defBody st) hroom (KX _ _ lk) rfl lim (PySem.W.codeRec_of KX hcd) rfl hb I.cells (fun z hz => I.loc _ (List.of_mem_zip hz).1) (fun h0 hns hk0 => ?_) I.co I.gen I.kind
  have hxL : s.heap.objs.size ≠ a := Nat.ne_of_gt (Heap.lt_size hx)
  rw [I.body]
  have e1 : (("self" : Str) == f) = false := by simpa using fun z => hne z.symm
  have e2 : (("self" : Str) == g) = false := by simpa using fun z => hne2 z.symm
  have e3 : (f == g) = false := by simpa using hfg
  have mv1 : ((["self", f, g] : List Str).zip [Value.ref a, u2, u3]).reverse.lookup ("self" : Str) = some (.ref a) := by simp [List.lookup, e1, e2]
  have mv2 : ((["self", f, g] : List Str).zip [Value.ref a, u2, u3]).reverse.lookup f = some u2 := by simp [List.lookup, e3]
  have mv3 : ((["self", f, g] : List Str).zip [Value.ref a, u2, u3]).reverse.lookup g = some u3 := by simp [List.lookup]
  refine ks_wpAt_execs_cons (super_part (x := a) (t0 := t1) T e0.mod (fun b o e => hk0 _ _ (kb b o e)) lk har hcode hvs hfile hcell I.sup I.cls (by rw [harg]; exact I.loc _ I.self) I.kind (I.hi _ _ _) (I.hsw _ _ _) (I.he _ _ _) (I.hse _ _ _) hns (by rw [harg]; exact mv1) (hk0 _ _ hx) fun h1 tk t2 k1 hx1 => ?_)
  have nK : ∀ {b : Addr} {o : Obj}, K.lookup b = some o → b ≠ a := fun {b o} e z => by
    have q1 := (e0.bs b o (e0.mod.kin b o e)).2
    rw [z, ha] at q1; cases q1
  have k01 : ∀ b o, b ≠ a → s.heap.get? b = some o → h1.get? b = some o := fun b o hb e => k1 b o hb (hk0 b o e)
  have X1 : K.In h1 := fun b o e => k01 b o (nK e) (KX b o e)
  have hn1 := ns_keep hns hxL k1
  have hsz : s.heap.objs.size < h1.objs.size := hn1.lt
  refine wpAt_of_wpAny (wpAny_execs_cons (store1 (x := a) (t0 := t2) T X1 hno I.kind (I.loc _ I.self) St1.lf St1.df (St1.sw _ _ _) hn1 mv1 mv2 hx1 fun h2 tk2 dx k2 dn dne hx2 hn2 => ?_))
  have dn' : h1.objs.size ≤ dx := dn
  have k02 : ∀ b o, b ≠ a → s.heap.get? b = some o → h2.get? b = some o := fun b o hb e => k2 b o hb (k01 b o hb e)
  have X2 : K.In h2 := fun b o e => k02 b o (nK e) (KX b o e)
  have rel1 : ∀ h, RelO (([(f, y)] : List (Str × V)).lookup h) (if h = f then some u2 else none) := relO_put (fs := []) ry fun _ => True.intro
  refine wpAny_execs_cons (store2 (x := a) (fv := #[.ref t2, .none, .none, .none, .bool false, .none]) (nl := [f]) T X2 hng I.kind (I.loc _ I.self) St2.lf St2.df (St2.sw _ _ _) (ns_keep hn1 hxL k2) mv1 mv3 hx2 hn2 (within_of rel1) (by simp) fun h3 tk3 k3 hn3 => ?_)
  refine wpAny_execs_nil ?_
  have nd : ∀ {b : Addr} {o : Obj}, s.heap.get? b = some o → b ≠ dx := fun {b o} e z => by
    have q1 : b < s.heap.objs.size := Heap.lt_size e
    have q2 : s.heap.objs.size < dx := Nat.lt_of_lt_of_le hsz dn'
    rw [z] at q1
    exact absurd q1 (Nat.lt_asymm q2)
  obtain ⟨un, hok⟩ := exc_end (fs := frs outer) (fl := [(g, z), (f, y)]) e0.hok ha (fun b o hb e => k3 b o (nd e) (k02 b o hb e)) (by omega) dne (k3 _ _ (Ne.symm dne) hx2) hn3 (relO_put (fs := [(f, y)]) rz rel1)
  exact ⟨.non, _, rfl, e0.bare, un, hok, rfl, hq dx (e0.hok.fresh (by omega)) dne⟩
end

/-! ### raise C(x), raise C(x, y) as data -/
section
variable {K : PySem.W.Frag} {W : WX} {δ : Dn} {C : Addr} {f g : Str} {ta : TA} {x y : PyData}
theorem upd_del {H : Hp} {a d : Addr} {o u v u2 : HO} (hd : H d = none) (ha : H a = none) (hn : d ≠ a) : upd (del (upd (upd (upd H a u) d v) a u2) a) d o = upd H d o := by
  funext b
  by_cases h1 : b = d
  · subst h1; rw [upd_same, upd_same]
  · rw [upd_ne h1, upd_ne h1]
    by_cases h2 : b = a
    · subst h2; rw [del_same, ha]
    · rw [del_ne h2, upd_ne h2, upd_ne h1, upd_ne h2]
theorem rn_raise1 (h : EvA K W ta δ (.ok [x])) : Rn K W (fun _ σ H => tMkO C (spI1 C f) [] ta σ H fun cls d H' => W cls d σ H') δ (.ex δ ⟨C, [(f, x)]⟩) := fun D F0 H0 F H σ s E q =>
  h H0 F H σ _ s.c E fun vs F1 H1 e1 d1 => by
    cases d1 with
    | @cons v _ _ _ dv dn =>
      cases dn
      refine ⟨(by show 1 ≤ 1000; decide), fun a ha => ⟨a, v, rfl, upd_same, fun d hd hne => ⟨rfl, d, _, upd_same, by rw [upd_ne hne, upd_same], ?_, ?_⟩⟩⟩
      · rw [upd_ne hne] at hd; exact hd
      · rw [upd_ne hne] at hd
        rw [upd_del hd ha hne]
        exact q _ _ σ F1 _ ((s.trans e1).trans (Ext.side e1.c hd)) (E.mono (e1.trans (Ext.side e1.c hd))) ⟨rfl, d, [v], rfl, upd_same, .cons dv .nil⟩
theorem rn_raise2 (h : EvA K W ta δ (.ok [x, y])) : Rn K W (fun _ σ H => tMkO C (spI2 C f g) [] ta σ H fun cls d H' => W cls d σ H') δ (.ex δ ⟨C, [(g, y), (f, x)]⟩) := fun D F0 H0 F H σ s E q =>
  h H0 F H σ _ s.c E fun vs F1 H1 e1 d1 => by
    cases d1 with
    | @cons v _ _ _ dv dn =>
      cases dn with
      | @cons u _ _ _ du dn =>
        cases dn
        refine ⟨(by show 2 ≤ 1000; decide), fun a ha => ⟨a, v, u, rfl, upd_same, fun d hd hne => ⟨rfl, d, _, upd_same, by rw [upd_ne hne, upd_same], ?_, ?_⟩⟩⟩
        · rw [upd_ne hne] at hd; exact hd
        · rw [upd_ne hne] at hd
          rw [upd_del hd ha hne]
          exact q _ _ σ F1 _ ((s.trans e1).trans (Ext.side e1.c hd)) (E.mono (e1.trans (Ext.side e1.c hd))) ⟨rfl, d, [u, v], rfl, upd_same, .cons du (.cons dv .nil)⟩
end
end DL
set_option Elab.async false
set_option linter.all false
set_option maxRecDepth 100000
set_option maxHeartbeats 4000000
/-! DX3: operators and built-ins on data. -/
namespace DL
open PySem L2

/-- a ratio as a pair -/
abbrev rat (p : Int × Int) : PyData := .tuple [.int p.1, .int p.2]
section
variable {K : PySem.W.Frag} {W : WX} {δ : Dn} {ta tb te tc : TE} {t u : TT} {x y z d : PyData} {r r' : R2} {e : Exn}
theorem rd_l (h : RD K r x y z) : RD K (rOr r r') x y z := fun F H u v Q s du dv q => .inl (h F H u v Q s du dv q)
theorem rd_r (h : RD K r' x y z) : RD K (rOr r r') x y z := fun F H u v Q s du dv q => .inr (h F H u v Q s du dv q)
theorem rd_addI {i j : Int} : RD K (rAddU K) (.int i) (.int j) (.int (i + j)) := rd_l rd_I0
theorem rd_addS {i j : Str} (h : i.length + j.length ≤ sizeLine) : RD K (rAddU K) (.str i) (.str j) (.str (i ++ j)) := rd_r (rd_l fun F H u v Q s du dv q => by
  cases du; cases dv
  exact ⟨i, j, rfl, rfl, h, q _ F H (Ext.refl s) (.str _)⟩)
theorem rd_catT {l m : List PyData} (h : l.length + m.length ≤ sizeLine) : RD K (rCatA K) (.tuple l) (.tuple m) (.tuple (l ++ m)) := fun F H u v Q s du dv q => by
  cases du with
  | @tup a xs _ hs ha =>
    cases dv with
    | @tup b ys _ hs2 ha2 =>
      refine ⟨a, b, xs, ys, rfl, rfl, sqT_mono s hs, sqT_mono s hs2, by rw [dpa_len ha, dpa_len ha2]; exact h, fun e1 => ?_, fun _ e2 => ?_, fun _ _ p hp => ?_⟩
      · subst e1; cases ha
        exact q _ F H (Ext.refl s) (.tup hs2 ha2)
      · subst e2; cases ha2
        rw [List.append_nil] at q
        exact q _ F H (Ext.refl s) (.tup hs ha)
      · refine q _ (upd F p (.tup (xs ++ ys))) _ (Ext.new s hp) (.tup (SqT.of upd_same) (dpAll_mono (same_upd (Same.refl _) (s.free hp)) _ _ (dpa_append ha ha2)))
theorem rd_addT {l m : List PyData} (h : l.length + m.length ≤ sizeLine) : RD K (rAddU K) (.tuple l) (.tuple m) (.tuple (l ++ m)) := rd_r (rd_r (rd_r (rd_catT h)))
theorem rd_sub {i j : Int} : RD K (rI0 fun i j => .int (i - j)) (.int i) (.int j) (.int (i - j)) := rd_I0
theorem rd_mulI {i j : Int} (h : CMulW i j) : RD K rMulU (.int i) (.int j) (.int (i * j)) := rd_l (rd_I (.inl h))
theorem rd_mulL {i j : Int} (h1 : -(2 ^ 64) < j) (h2 : j < 2 ^ 64) : RD K rMulU (.int i) (.int j) (.int (i * j)) := rd_l (rd_I (.inr (.inr ⟨h1, h2⟩)))
theorem rd_mulS {z : Str} {n : Int} (h0 : 0 ≤ n) (h1 : n ≤ 16777216) (h2 : z.length * n.toNat ≤ 16777216) : RD K rMulU (.str z) (.int n) (.str ⟨(List.replicate n.toNat z.cps).foldl (· ++ ·) #[]⟩) := rd_r fun F H u v Q s du dv q => by
  cases du; cases dv
  exact ⟨z, n, rfl, rfl, h0, h1, h2, q _ F H (Ext.refl s) (.str _)⟩
theorem rd_fdiv {i j : Int} (h : j ≠ 0) (h2 : j.natAbs.log2 < 9000) : RD K (rI CDivX fun i j => .int (i.fdiv j)) (.int i) (.int j) (.int (i.fdiv j)) := rd_I ⟨h, h2⟩
theorem rd_mod {C : Int → Int → Prop} {i j : Int} (h : C i j) : RD K (rI C fun i j => .int (i.fmod j)) (.int i) (.int j) (.int (i.fmod j)) := rd_I h
/-! == over all kinds -/
def rEqU (K : PySem.W.Frag) : R2 := rOr rEq (rEqD K)
def rNeU (K : PySem.W.Frag) : R2 := rOr rNe (rNeD K)
theorem op_eqU {X : Cx} (hu : X.A.units + 64 < cLine) : OpR X (compareOp .Eq) (rEqU X.K) := op_or op_eq (op_eqD hu)
theorem op_neU {X : Cx} (hu : X.A.units + 64 < cLine) : OpR X (compareOp .NotEq) (rNeU X.K) := op_or op_ne (op_neD hu)
theorem hu64 {A : Around} {k : Nat} (hr : Room k A) : A.units + 64 < cLine := by have := hr.un; omega
theorem rd_eqS (h : scalD x y = true) : RD K (rEqU K) x y (.bool (sameD x y)) := rd_l (rd_eq h)
theorem rd_neS (h : scalD x y = true) : RD K (rNeU K) x y (.bool (!sameD x y)) := rd_l (rd_ne h)
theorem rd_eqI {i j : Int} : RD K (rEqU K) (.int i) (.int j) (.bool (decide (i = j))) := rd_eqS (x := .int i) (y := .int j) rfl
theorem rd_neI {i j : Int} : RD K (rNeU K) (.int i) (.int j) (.bool (!decide (i = j))) := rd_neS (x := .int i) (y := .int j) rfl
theorem rd_eqT {i j : Str} : RD K (rEqU K) (.str i) (.str j) (.bool (decide (i = j))) := rd_eqS (x := .str i) (y := .str j) rfl
theorem rd_neT {i j : Str} : RD K (rNeU K) (.str i) (.str j) (.bool (!decide (i = j))) := rd_neS (x := .str i) (y := .str j) rfl
theorem rd_eqB {i j : Bool} : RD K (rEqU K) (.bool i) (.bool j) (.bool (decide (i = j))) := rd_eqS (x := .bool i) (y := .bool j) rfl
theorem rd_eqX (h1 : SeqAt.shaped x = true) (h2 : SeqAt.shaped y = true) : RD K (rEqU K) x y (.bool (PyData.eqv x y)) := rd_r (rd_eqD h1 h2)
theorem rd_neX (h1 : SeqAt.shaped x = true) (h2 : SeqAt.shaped y = true) : RD K (rNeU K) x y (.bool (!PyData.eqv x y)) := rd_r (rd_neD h1 h2)
/-! one sign in a text -/
abbrev rInC : R2 := fun x y H Q => ∃ (c : Nat) (z : Str), x = .str ⟨#[c]⟩ ∧ y = .str z ∧ Q (.bl (decide (c ∈ z.cps.toList))) H
abbrev rNiC : R2 := fun x y H Q => ∃ (c : Nat) (z : Str), x = .str ⟨#[c]⟩ ∧ y = .str z ∧ Q (.bl (!decide (c ∈ z.cps.toList))) H
theorem rd_inC {c : Nat} {z : Str} : RD K rInC (.str ⟨#[c]⟩) (.str z) (.bool (decide (c ∈ z.cps.toList))) := fun F H u v Q s du dv q => by
  cases du; cases dv
  exact ⟨c, z, rfl, rfl, q _ F H (Ext.refl s) (.bl _)⟩
theorem rd_niC {c : Nat} {z : Str} : RD K rNiC (.str ⟨#[c]⟩) (.str z) (.bool (!decide (c ∈ z.cps.toList))) := fun F H u v Q s du dv q => by
  cases du; cases dv
  exact ⟨c, z, rfl, rfl, q _ F H (Ext.refl s) (.bl _)⟩

/-! built-in calls -/
theorem rc1 {f : V → Hp → VK → Prop} {rc : List V → Hp → VK → Prop} (h : RU1 K f x z) (hf : ∀ v H Q, f v H Q → rc [v] H Q) : RC K rc [x] z := fun F H us Q s du q => by
  cases du with
  | cons a b =>
    cases b
    exact hf _ H Q (h F H _ Q s a q)
theorem rc_len_s {z : Str} (h : z.length ≤ sizeLine) : RC K (fun xs H Q => ∃ x n, xs = [x] ∧ LenV K x H n ∧ Q (.int n) H) [.str z] (.int z.length) := fun F H us Q s du q => by
  cases du with
  | cons a b =>
    cases b; cases a
    exact ⟨_, _, rfl, ⟨h, rfl⟩, q _ F H (Ext.refl s) (.int _)⟩
theorem rc_len_t {l : List PyData} : RC K (fun xs H Q => ∃ x n, xs = [x] ∧ LenV K x H n ∧ Q (.int n) H) [.tuple l] (.int l.length) := fun F H us Q s du q => by
  cases du with
  | cons a b =>
    cases b
    cases a with
    | tup hs ha => exact ⟨_, _, rfl, .inr ⟨_, sqT_mono s hs, rfl⟩, by rw [dpa_len ha]; exact q _ F H (Ext.refl s) (.int _)⟩
theorem rc_len_l {l : List PyData} : RC K (fun xs H Q => ∃ x n, xs = [x] ∧ LenV K x H n ∧ Q (.int n) H) [.list l] (.int l.length) := fun F H us Q s du q => by
  cases du with
  | cons a b =>
    cases b
    cases a with
    | lst hs ha => exact ⟨_, _, rfl, .inl ⟨_, s.seq hs, rfl⟩, by rw [dpa_len ha]; exact q _ F H (Ext.refl s) (.int _)⟩
/-- len of an own list -/
theorem ev_lenO {i : Nat} {l : List PyData} (hi : δ[i]? = some (Sl.own l)) : EvD K W (tCB (fun xs H Q => ∃ x n, xs = [x] ∧ LenV K x H n ∧ Q (.int n) H) (tCons (tVar i) tNil)) δ (.ok (.int l.length)) := fun H0 F H σ Q s E q => by
  obtain ⟨p, vs, h1, h2, h3, h4, h5⟩ := E.own i l hi
  exact ⟨_, h1, _, _, rfl, .inl ⟨_, SqL.of h2, rfl⟩, by rw [dpa_len h5]; exact q _ F H (Ext.refl s) (.int _)⟩
theorem rc_abs {i : Int} : RC K (fun xs H Q => ∃ i, xs = [.int i] ∧ Q (.int (if i < 0 then -i else i)) H) [.int i] (.int (if i < 0 then -i else i)) := fun F H us Q s du q => by
  cases du with
  | cons a b =>
    cases b; cases a
    exact ⟨_, rfl, q _ F H (Ext.refl s) (.int _)⟩
theorem rc_max2 {i j : Int} : RC K (fun xs H Q => ∃ i j, xs = [.int i, .int j] ∧ Q (.int (if j > i then j else i)) H) [.int i, .int j] (.int (if j > i then j else i)) := fun F H us Q s du q => by
  cases du with
  | cons a b =>
    cases b with
    | cons c d =>
      cases d; cases a; cases c
      exact ⟨_, _, rfl, q _ F H (Ext.refl s) (.int _)⟩
theorem rc_gcd {i j : Int} : RC K rGcd [.int i, .int j] (.int (Nat.gcd i.natAbs j.natAbs : Nat)) := fun F H us Q s du q => by
  cases du with
  | cons a b =>
    cases b with
    | cons c d =>
      cases d; cases a; cases c
      exact ⟨_, _, rfl, q _ F H (Ext.refl s) (.int _)⟩
theorem rc_intV {i : Int} : RC K rIntU [.int i] (.int i) := fun F H us Q s du q => by
  cases du with
  | cons a b =>
    cases b; cases a
    exact .inl (.inl ⟨_, rfl, q _ F H (Ext.refl s) (.int _)⟩)
theorem rc_intB {k : Bool} : RC K rIntU [.bool k] (.int (if k then 1 else 0)) := fun F H us Q s du q => by
  cases du with
  | cons a b =>
    cases b; cases a
    exact .inl (.inr ⟨_, rfl, q _ F H (Ext.refl s) (.int _)⟩)
theorem rc_intT {a : Str} {n : Int} (h1 : PySem.intText? a = some n) (h2 : a.length ≤ 4300) (h3 : a.length ≤ 640 ∨ 640 < (PySem.numSeenOf a).length) : RC K rIntU [.str a] (.int n) := fun F H us Q s du q => by
  cases du with
  | cons a b =>
    cases b; cases a
    exact .inr ⟨_, _, rfl, h1, h2, h3, q _ F H (Ext.refl s) (.int _)⟩
theorem rc_str {i : Int} (h : i.natAbs < 10 ^ 4300) : RC K rStrI [.int i] (.str (toString i)) := fun F H us Q s du q => by
  cases du with
  | cons a b =>
    cases b; cases a
    exact ⟨_, rfl, h, q _ F H (Ext.refl s) (.str _)⟩
theorem rc_sum {ns : List Int} : RC K (rSum K) [.list (ns.map .int)] (.int ns.sum) := fun F H us Q s du q => by
  cases du with
  | cons a b =>
    cases b
    cases a with
    | lst hs ha =>
      have e := dpAll_ints ha
      subst e
      exact ⟨_, ns, rfl, s.seq hs, q _ F H (Ext.refl s) (.int _)⟩
theorem rc_max {ns : List Int} {m : Int} (h0 : 0 < ns.length) (hm : m ∈ ns) (hx : ∀ y ∈ ns, y ≤ m) : RC K (rMax K) [.list (ns.map .int)] (.int m) := fun F H us Q s du q => by
  cases du with
  | cons a b =>
    cases b
    cases a with
    | lst hs ha =>
      have e := dpAll_ints ha
      subst e
      refine ⟨_, ns, rfl, s.seq hs, h0, fun m' h1 h2 => ?_⟩
      have e2 : m' = m := Int.le_antisymm (hx m' h1) (h2 m hm)
      subst e2
      exact q _ F H (Ext.refl s) (.int _)
/-- tuple(xs), list(xs) -/
abbrev rTupOf (K : PySem.W.Frag) : List V → Hp → VK → Prop := fun xs H Q => ∃ p ys, xs = [.ref p] ∧ ((SqL K H p ys ∧ ∀ l, H l = none → Q (.ref l) (upd H l (.tup ys))) ∨ (SqT K H p ys ∧ Q (.ref p) H))
abbrev rListOf (K : PySem.W.Frag) : List V → Hp → VK → Prop := fun xs H Q => ∃ p ys, xs = [.ref p] ∧ (SqL K H p ys ∨ SqT K H p ys) ∧ ∀ l, H l = none → Q (.ref l) (upd H l (.lst ys))
theorem rc_tup_l {l : List PyData} : RC K (rTupOf K) [.list l] (.tuple l) := fun F H us Q s du q => by
  cases du with
  | cons a b =>
    cases b
    cases a with
    | @lst p ys _ hs ha => exact ⟨_, ys, rfl, .inl ⟨s.seq hs, fun m hm => q _ (upd F m (.tup ys)) _ (Ext.new s hm) (.tup (SqT.of upd_same) (dpAll_mono (same_upd (Same.refl _) (s.free hm)) _ _ ha))⟩⟩
theorem rc_tup_t {l : List PyData} : RC K (rTupOf K) [.tuple l] (.tuple l) := fun F H us Q s du q => by
  cases du with
  | cons a b =>
    cases b
    cases a with
    | @tup p ys _ hs ha => exact ⟨_, ys, rfl, .inr ⟨sqT_mono s hs, q _ F H (Ext.refl s) (.tup hs ha)⟩⟩
theorem rc_list_l {l : List PyData} : RC K (rListOf K) [.list l] (.list l) := fun F H us Q s du q => by
  cases du with
  | cons a b =>
    cases b
    cases a with
    | @lst p ys _ hs ha => exact ⟨_, ys, rfl, .inl (s.seq hs), fun m hm => q _ (upd F m (.lst ys)) _ (Ext.new s hm) (.lst (SqL.of upd_same) (dpAll_mono (same_upd (Same.refl _) (s.free hm)) _ _ ha))⟩
theorem rc_list_t {l : List PyData} : RC K (rListOf K) [.tuple l] (.list l) := fun F H us Q s du q => by
  cases du with
  | cons a b =>
    cases b
    cases a with
    | @tup p ys _ hs ha => exact ⟨_, ys, rfl, .inr (sqT_mono s hs), fun m hm => q _ (upd F m (.lst ys)) _ (Ext.new s hm) (.lst (SqL.of upd_same) (dpAll_mono (same_upd (Same.refl _) (s.free hm)) _ _ ha))⟩

/-! isinstance(x, T), T a built-in type -/
def tyD : PyData → String
  | .none => "NoneType" | .bool _ => "bool" | .int _ => "int" | .str _ => "str" | .list _ => "list" | .tuple _ => "tuple" | .dict _ => "dict"
theorem tyx_of {F H : Hp} {v : V} (s : Same F H) (h : Dp K F v x) : TyX K H v (.type (tyD x)) := by
  cases h with
  | non => exact .base .non
  | bl b => exact .base (.bl b)
  | int i => exact .base (.int i)
  | str z => exact .base (.str z)
  | lst hs _ =>
    rcases s.seq hs with (q | ⟨o, q⟩) | ⟨o, its, n, q, c, _⟩
    · exact .base (.lst q)
    · exact .base (.frz q)
    · exact .kList q c
  | tup hs _ =>
    rcases sqT_mono s hs with (q | ⟨o, q⟩) | ⟨o, its, n, q, c, _⟩
    · exact .base (.tup q)
    · exact .fTuple q
    · exact .kTuple q c
theorem ev_isi {n : String} {b : Bool} (h : EvD K W ta δ (.ok x)) (hb : kitB (tyD x) n = some b) : EvD K W (tCB (rIsi K) (tCons ta (tCons (tC (.ty n)) tNil))) δ (.ok (.bool b)) := fun H0 F H σ Q s E q =>
  h H0 F H σ _ s E fun v F1 H1 e1 d1 => ⟨v, .ty n, _, _, b, rfl, .ty n, tyx_of e1.c d1, kit_ty hb, q _ F1 H1 e1 (.bl b)⟩

/-! slices -/
def EvP (K : PySem.W.Frag) (W : WX) (to : TO) (δ : Dn) (o : Option Int) : Prop :=
  ∀ (H0 F H : Hp) (σ : L2.St) (Q : Option Int → Hp → Prop), Same F H → EnvR K H0 F H σ δ → (∀ F' H', Ext F F' H H' → Q o H') → to σ H Q
theorem ep_no : EvP K W tNoPart δ none := fun H0 F H σ Q s E q => q F H (Ext.refl s)
theorem ep_some {i : Int} (h : EvD K W te δ (.ok (.int i))) : EvP K W (tPart te) δ (some i) := fun H0 F H σ Q s E q =>
  h H0 F H σ _ s E fun v F1 H1 e1 d1 => by
    cases d1
    exact ⟨i, rfl, q F1 H1 e1⟩
def RSl (K : PySem.W.Frag) (r : V → Option Int → Option Int → Hp → VK → Prop) (x : PyData) (lo hi : Option Int) (z : PyData) : Prop :=
  ∀ (F H : Hp) (u : V) (Q : VK), Same F H → Dp K F u x → (∀ w F' H', Ext F F' H H' → Dp K F' w z → Q w H') → r u lo hi H Q
theorem ev_sl {r : V → Option Int → Option Int → Hp → VK → Prop} {tl th : TO} {lo hi : Option Int} (h : EvD K W te δ (.ok x)) (h1 : EvP K W tl δ lo) (h2 : EvP K W th δ hi) (hr : RSl K r x lo hi z) : EvD K W (tSl r te tl th) δ (.ok z) := fun H0 F H σ Q s E q =>
  h H0 F H σ _ s E fun v F1 H1 e1 d1 => h1 H0 F1 H1 σ _ e1.c (E.mono e1) fun F2 H2 e2 => h2 H0 F2 H2 σ _ e2.c (E.mono (e1.trans e2)) fun F3 H3 e3 =>
    hr F3 H3 v Q e3.c (dp_mono (e2.trans e3).a _ _ d1) fun w F4 H4 e4 d4 => q w F4 H4 (e1.trans ((e2.trans e3).trans e4)) d4
def slOr (r r' : V → Option Int → Option Int → Hp → VK → Prop) : V → Option Int → Option Int → Hp → VK → Prop := fun x lo hi H Q => r x lo hi H Q ∨ r' x lo hi H Q
def rSlU (K : PySem.W.Frag) : V → Option Int → Option Int → Hp → VK → Prop := slOr (rSlL K) (slOr rSlS (rSlA K))
theorem sl_U {X : Cx} : SlR X (rSlU X.K) := SlR.or sl_list (SlR.or sl_str sl_tupA)
def cutD (l : List PyData) (lo hi : Option Int) : List PyData := (l.drop (HT.sIx l.length 0 lo)).take (HT.sIx l.length l.length hi - HT.sIx l.length 0 lo)
theorem dpa_cut {F : Hp} {vs : List V} {l : List PyData} (h : DpAll K F vs l) (lo hi : Option Int) : DpAll K F (cutV vs lo hi) (cutD l lo hi) := by
  unfold cutV cutD
  rw [dpa_len h]
  exact dpa_take _ (dpa_drop _ h)
theorem rs_l {l : List PyData} {lo hi : Option Int} : RSl K (rSlU K) (.list l) lo hi (.list (cutD l lo hi)) := fun F H u Q s du q => .inl (by
  cases du with
  | @lst p ys _ hs ha => exact ⟨_, ys, rfl, s.seq hs, fun m hm => q _ (upd F m (.lst (cutV ys lo hi))) _ (Ext.new s hm) (.lst (SqL.of upd_same) (dpAll_mono (same_upd (Same.refl _) (s.free hm)) _ _ (dpa_cut ha lo hi)))⟩)
theorem rs_s {w : Str} {lo hi : Option Int} (h : w.length ≤ sizeLine) : RSl K (rSlU K) (.str w) lo hi (.str (cutS w lo hi)) := fun F H u Q s du q => .inr (.inl (by
  cases du
  exact ⟨w, rfl, h, q _ F H (Ext.refl s) (.str _)⟩))
theorem rs_t {l : List PyData} {lo hi : Option Int} : RSl K (rSlU K) (.tuple l) lo hi (.tuple (cutD l lo hi)) := fun F H u Q s du q => .inr (.inr (by
  cases du with
  | @tup p ys _ hs ha =>
    refine ⟨_, ys, rfl, sqT_mono s hs, fun hw => ?_, fun _ m hm => q _ (upd F m (.tup (cutV ys lo hi))) _ (Ext.new s hm) (.tup (SqT.of upd_same) (dpAll_mono (same_upd (Same.refl _) (s.free hm)) _ _ (dpa_cut ha lo hi)))⟩
    have e : cutD l lo hi = l := by
      unfold cutD
      rw [← dpa_len ha, hw.1, hw.2, List.drop_zero, Nat.sub_zero, dpa_len ha, List.take_length]
    rw [e] at q
    exact q _ F H (Ext.refl s) (.tup hs ha)))
/-! methods of texts -/
theorem ev_bm {rm : V → List V → Hp → VK → Prop} {w : Str} {ds : List PyData} {tA : TA} (h : EvD K W te δ (.ok (.str w))) (ha : EvA K W tA δ (.ok ds))
    (hr : ∀ (F H : Hp) (us : List V) (Q : VK), Same F H → DpAll K F us ds → (∀ w F' H', Ext F F' H H' → Dp K F' w z → Q w H') → rm (.str w) us H Q) : EvD K W (tBM K "str" rm te tA) δ (.ok z) := fun H0 F H σ Q s E q =>
  h H0 F H σ _ s E fun v F1 H1 e1 d1 => by
    cases d1
    exact ⟨rfl, ha H0 F1 H1 σ _ e1.c (E.mono e1) fun us F2 H2 e2 d2 => hr F2 H2 us Q e2.c d2 fun w F3 H3 e3 d3 => q w F3 H3 ((e1.trans e2).trans e3) d3⟩
abbrev rSplit : V → List V → Hp → VK → Prop := fun x xs H Q => ∃ a b, x = .str a ∧ xs = [.str b] ∧ (b.length == 0) = false ∧ a.length + 2 ≤ sizeLine ∧ rNewStrs (Txt.split a b) H Q
theorem ev_split {a b : Str} (h : EvD K W te δ (.ok (.str a))) (hb : EvD K W tb δ (.ok (.str b))) (h1 : (b.length == 0) = false) (h2 : a.length + 2 ≤ sizeLine) : EvD K W (tBM K "str" rSplit te (tCons tb tNil)) δ (.ok (.list ((Txt.split a b).map .str))) :=
  ev_bm h (ea_cons hb ea_nil) fun F H us Q s du q => by
    cases du with
    | cons c d =>
      cases d; cases c
      exact ⟨a, b, rfl, rfl, h1, h2, fun p hp => q _ (upd F p (.lst ((Txt.split a b).map V.str))) _ (Ext.new s hp) (.lst (SqL.of upd_same) (strs_dpAll _))⟩
abbrev rJoin (K : PySem.W.Frag) : V → List V → Hp → VK → Prop := fun x xs H Q => ∃ a p, ∃ ys : List Str, x = .str a ∧ xs = [.ref p] ∧ (SqL K H p (ys.map V.str) ∨ SqT K H p (ys.map V.str)) ∧
    (ys.map (·.length)).sum + ys.length * a.length ≤ 16777216 ∧ Q (.str (Txt.join a ys)) H
theorem ev_join {a : Str} {ys : List Str} (h : EvD K W te δ (.ok (.str a))) (hb : EvD K W tb δ (.ok (.list (ys.map .str)))) (hz : (ys.map (·.length)).sum + ys.length * a.length ≤ 16777216) : EvD K W (tBM K "str" (rJoin K) te (tCons tb tNil)) δ (.ok (.str (Txt.join a ys))) :=
  ev_bm h (ea_cons hb ea_nil) fun F H us Q s du q => by
    cases du with
    | cons c d =>
      cases d
      cases c with
      | lst hs ha =>
        have e := dpAll_strs ha
        subst e
        exact ⟨a, _, ys, rfl, rfl, .inl (s.seq hs), hz, q _ F H (Ext.refl s) (.str _)⟩
abbrev rStripC : V → List V → Hp → VK → Prop := fun x xs H Q => ∃ a b, x = .str a ∧ xs = [.str b] ∧ a.length ≤ sizeLine ∧ Q (.str (Txt.stripChars a b)) H
theorem ev_strip {a b : Str} (h : EvD K W te δ (.ok (.str a))) (hb : EvD K W tb δ (.ok (.str b))) (h2 : a.length ≤ sizeLine) : EvD K W (tBM K "str" rStripC te (tCons tb tNil)) δ (.ok (.str (Txt.stripChars a b))) :=
  ev_bm h (ea_cons hb ea_nil) fun F H us Q s du q => by
    cases du with
    | cons c d =>
      cases d; cases c
      exact ⟨a, b, rfl, rfl, h2, q _ F H (Ext.refl s) (.str _)⟩
end
end DL
set_option Elab.async false
set_option linter.all false
set_option maxRecDepth 100000
set_option maxHeartbeats 4000000
/-! DX4: several except clauses with names; own errors raised with an empty context; defs called in an except suite. -/
namespace DL
open PySem PySem.Spec PyProof.Rows L2

/-! ### the statement -/
/-- a clause: its class, its name's slot, its suite -/
abbrev Clause := Value × Nat × (Addr → Value → Option Addr → TS)
def gone (i : Nat) (D : Ends) : Ends where
  nx := fun σ H => D.nx (σ.set i none) H
  rt := D.rt
  bk := fun σ H => D.bk (σ.set i none) H
  ct := fun σ H => D.ct (σ.set i none) H
def wTry (K : PySem.W.Frag) (Wout : WX) (D : Ends) : List Clause → WX
  | [] => Wout
  | cl :: rest => fun k d σ H => ∃ b, PySem.W.exmOne K k cl.1 = some b ∧ (b = true → ∀ z, H z = none → cl.2.2 z k d (gone cl.2.1 D) (σ.set cl.2.1 (some (.ref z))) H) ∧ (b = false → wTry K Wout D rest k d σ H)
inductive Clauses (X : Cx) : List ExceptHandler → List Clause → Prop
  | nil : Clauses X [] []
  | cons {x n : Str} {c : Value} {i : Nat} {u : Addr → Value → Option Addr → TS} {s1 : Stmt} {more : List Stmt} {p q : Pos} {hs : List ExceptHandler} {cs : List Clause} (nm : Names X x c) (at_ : X.N[i]? = some n) (lc : X.env.kindOf n = some .local)
      (run : ∀ (z : Addr) (o : Obj) (k : Value) (d : Option Addr) (pn : List (Addr × Obj)), L2N.Zn k d o → (∃ fs, o.data = .fields fs) → PSs (X.suite z ((z, o) :: pn)) (s1 :: more) (u z k d)) (tl : Clauses X hs cs) :
      Clauses X (.ExceptHandler (some (.Name x p)) (some n) (s1 :: more) q :: hs) ((c, i, u) :: cs)
def tTry (K : PySem.W.Frag) (Wout : WX) (cs : List Clause) (tb : WX → TS) : TS := fun D σ H => tb (wTry K Wout D cs) D σ H
section
variable {X : Cx} {body : List Stmt} {h0 : ExceptHandler} {hs : List ExceptHandler} {cs : List Clause} {pos : Pos} {tb : WX → TS} {Wout : WX}
theorem ps_try (st : X.stack = X.env :: X.outer) (fr : X.env.frame = some X.env.locals) (nd : X.N.Nodup) (tk : L2N.Takes X Wout)
    (hb : ∀ (W : WX) (pn : List (Addr × Obj)) (xe : Value → Shared → Prop), L2N.Takes (X.tr pn xe) W → PassesOwn (model X.prog X.w) X.A X.env xe → PSs (X.tr pn xe) body (tb W)) (hc : Clauses X (h0 :: hs) cs) :
    PS X (.Try body (h0 :: hs) [] [] pos) (tTry X.K Wout cs tb) := by
  constructor
  intro pins s σ H D I want
  have xok := I.ok
  have afr : X.A.frames = some (X.env :: X.outer) := by rw [xok.frames, st]
  apply wpAny_Try_except
  refine wpAny_mono ((hb (wTry X.K Wout D cs) (X.pn ++ pins) (fun e s1 => wpAny (model X.prog X.w) X.A (noteFrame e X.env) (fun _ s2 => wpAny (model X.prog X.w) X.A (setFlight e none) (fun _ s3 => wpAny (model X.prog X.w) X.A (handleBy e X.env (h0 :: hs)) (SP X pins D) X.xe s3) X.xe s2) X.xe s1)
    (fun u s1 got => ?caught) PassesOwn.looking).run [] s σ H D (I.toTry _) want) (fun fl s1 ended => ?fine) fun e s1 z => z
  case caught =>
    obtain ⟨z, B, sI, pins1, σ1, H1, k, d, rfl, I', newB, ups, inSky, Hz, eos, allB, wish⟩ := got
    have I1 : Inv X pins σ1 H1 sI := I'.ofTry xok
    have inSky1 : Sky B (X.env :: X.outer) z (L2N.Zn k d) X.env.locals s1.heap := by rw [← st]; exact inSky
    show wpAny (model X.prog X.w) X.A (noteFrame (.ref z) X.env) _ _ _
    refine L2N.Sky.land L2N.Zn.steady afr fr inSky1 fun g fl1 ups1 => ?_
    have I3 : Inv X pins σ1 H1 { s1 with heap := g } := I1.landed newB fl1.1 (ups.trans ups1) eos allB
    obtain ⟨o3, v3, get3, z3, dat3⟩ := fl1.there
    have noFrame : z ∉ frs (X.env :: X.outer) := fun hm => by
      obtain ⟨_, o', e', hnf⟩ := fl1.2.2.1.mem hm
      rw [get3] at e'; cases e'; exact hnf _ dat3
    have zL : z ≠ X.env.locals := fun e => noFrame (List.mem_filterMap.mpr ⟨X.env, List.mem_cons_self, by rw [fr, e]⟩)
    have zF : z ∉ X.fs := fun hm => by
      obtain ⟨e, he, q⟩ := List.mem_filterMap.mp hm
      exact noFrame (List.mem_filterMap.mpr ⟨e, List.mem_cons_of_mem _ he, q⟩)
    have inSuite := I3.suite get3 dat3 Hz zL zF
    have each : ∀ {l1 : List ExceptHandler} {l2 : List Clause}, Clauses X l1 l2 → wTry X.K Wout D l2 k d σ1 H1 → wpAny (model X.prog X.w) X.A (handleBy (.ref z) X.env l1) (SP X pins D) X.xe { s1 with heap := g } := by
      intro l1 l2 c
      induction c with
      | nil =>
        intro out
        apply wpAny_handleBy_nil
        obtain ⟨-, -, -, oe, vs, T, oT, ts1, he, hz, hd, h1, hr⟩ := id fl1
        unfold PySem.passOn
        refine wpAny_bind (wpAny_field he hd h1 ?_)
        rw [if_neg (show ¬ ((Value.ref T == Value.none) = true) by simp)]
        have up : wpAny (model X.prog X.w) X.A (setFlight (.ref z) X.env.frame) (fun _ s4 => wpAny (model X.prog X.w) X.A (throw (.ref z) : Sem Flow) (SP X pins D) X.xe s4) X.xe { s1 with heap := g } := by
          rw [fr]
          exact HandSPX.setFlight_upZ fl1 fun g4 hh4 ups4 => wpAny_throw (tk _ _ ⟨z, B, sI, pins, σ1, H1, k, d, rfl, I1, newB, (ups.trans ups1).trans ups4, .inr (.inr (by rw [st]; exact hh4)), Hz, eos, allB, out⟩)
        first | exact wpAny_bind up | exact wpAny_bind (wpAny_pure (wpAny_bind up))
      | @cons x n c i u s1' more p q hs' cs' nm at_ lc run tl ih =>
        intro ⟨b, isB, onYes, onNo⟩
        refine wpAny_handleBy_cons (codeAny_handlers_test ?_) (fun q => by cases q)
        have look : PySem.W.Looks (model X.prog X.w) g (typeOf (.ref z)) k := fun A Q E s kp q => wpAny_typeOf_ref (kp _ _ get3) (by rw [z3.1]; exact q)
        have one := PySem.W.exm_one (M := model X.prog X.w) I3.kIn look isB
        have named : ∀ {Q : Value → Shared → Prop} {E : Value → Shared → Prop}, Q c { s1 with heap := g } → wpAny (model X.prog X.w) (X.A.mark (some (.ref z))) (eval (.Name x p) X.env) Q E { s1 with heap := g } := by
          intro Q E q
          obtain ⟨gl, nodbg, own | ⟨own, blt, nn⟩⟩ := nm
          · exact ld_glob (X := X.suite z ((z, o3) :: (X.pn ++ pins))) inSuite gl own q nodbg
          · exact ld_blt (X := X.suite z ((z, o3) :: (X.pn ++ pins))) inSuite gl own blt q nn nodbg
        refine named (one.here ?_)
        cases b
        · show wpAny _ X.A (handleBy (.ref z) X.env hs') _ _ _
          exact ih (onNo rfl)
        · refine codeAny_handlers_suite_as (HandSPX.lands_againZ fl1 fun g4 fl4 ups4 => ?_)
          have I4 : Inv X pins σ1 H1 { s1 with heap := g4 } := I1.landed newB fl4.1 ((ups.trans ups1).trans ups4) eos allB
          obtain ⟨o4, v4, get4, z4, dat4⟩ := fl4.there
          refine store_ok (X := X.suite z ((z, o4) :: (X.pn ++ pins))) (v := .ref z) (I4.suite get4 dat4 Hz zL zF) nd at_ (.inl lc) rfl (fun s5 I5 => ?_) (.inr lc)
          refine wpAny_mono ((run z o4 k d (X.pn ++ pins) z4 ⟨_, dat4⟩).run [] s5 _ H1 _ I5 (onYes rfl z Hz)) (fun fl s6 got6 => ?_) fun _ _ f => False.elim f
          have away : ∀ {σ6 : L2.St} {H6 : Hp} {Q : Shared → Prop}, Inv (X.suite z ((z, o4) :: (X.pn ++ pins))) [] σ6 H6 s6 → (∀ s7, Inv X pins (σ6.set i none) H6 s7 → Q s7) →
              wpAny (model X.prog X.w) X.A (do bindName X.env n .none; unbindBehindTheSuite X.env n q) (fun _ s7 => Q s7) X.xe s6 := fun I6 hq => gone_ok (I6.unsuite xok) nd at_ lc hq
          cases fl with
          | ret r =>
            obtain ⟨w6, σ6, H6, I6, rel6, q6⟩ := got6
            exact away I6 fun _ I7 => ⟨_, _, _, I7, rel6, q6⟩
          | next =>
            obtain ⟨σ6, H6, I6, q6⟩ := got6
            exact away I6 fun _ I7 => ⟨_, _, I7, q6⟩
          | brk =>
            obtain ⟨σ6, H6, I6, q6⟩ := got6
            exact away I6 fun _ I7 => ⟨_, _, I7, q6⟩
          | cont =>
            obtain ⟨σ6, H6, I6, q6⟩ := got6
            exact away I6 fun _ I7 => ⟨_, _, I7, q6⟩
    exact each hc wish
  case fine =>
    cases fl with
    | ret r =>
      obtain ⟨w, σ1, H1, I1, rel, q⟩ := ended
      exact ⟨w, σ1, H1, I1.ofTry xok, rel, q⟩
    | next =>
      obtain ⟨σ1, H1, I1, q⟩ := ended
      exact wpAny_execs_nil ⟨σ1, H1, I1.ofTry xok, q⟩
    | brk =>
      obtain ⟨σ1, H1, I1, q⟩ := ended
      exact ⟨σ1, H1, I1.ofTry xok, q⟩
    | cont =>
      obtain ⟨σ1, H1, I1, q⟩ := ended
      exact ⟨σ1, H1, I1.ofTry xok, q⟩
end
end DL
set_option Elab.async false
set_option linter.all false
set_option maxRecDepth 100000
set_option maxHeartbeats 4000000
/-! DX5: own errors made with an empty context; try, raise and caught fields as data; defs called within a suite. -/
namespace DL
open PySem PySem.Spec PyProof.Rows L2

section
variable {X : Cx} {e : Expr} {es : List Expr} {ta : TA} {p pos : Pos}
theorem pmk_made {CX : CXT} {x : Str} {C fI : Addr} {k : Nat} {fd : FuncData} {ps : List Str} {sp : Sp} {ds : List Value} {dvs : List V} (T : OexC X.K C) (iC : PySem.W.findIn X.K (.ref C) "__init__" = some (some (.ref fI))) (tI : PySem.W.typeIn X.K (.ref fI) = some (.type "function"))
    (F1 : FnOk X.prog X.w X.K X.mg X.base CX k fI fd ps sp) (hr : Room (k + 1) X.A) (hb : Binds X.K fd ps ds) (hdv : Vals dvs ds) (hx : Passes CX X (fun _ _ _ => False)) (hg : Gl X x) (hm : X.mg x = some (.ref C)) (ha : PA X (e :: es) ta)
    (hdb : (x == ("__debug__" : Str)) = false := by decide) (he : starEach (e :: es) X.env = (false, eval e X.env) :: starEach es X.env := by rfl) (hpl : (backTo pos (starEach es X.env)).any (·.1) = false := by rfl) :
    L2N.PMk X (.Call (.Name x p) (e :: es) [] pos) (tMkO C sp dvs ta) := by
  intro pins s σ H Q I want
  obtain ⟨nm, qn, N, bs, bm, sn, sub, ab, col, dd, k0, k1, k2, k3, k5, isC, hasB⟩ := T.cls
  refine wpAny_Call_Name_kw (ld_glob I hg hm (PySem.W.callWith_K (h₀ := X.base) I.ok.mod.kin T.kC (thn (ha.run pos pins s σ H _ I want) fun us s1 ⟨vs, H1, I1, rel, few, q1⟩ => ⟨I1.kIn, ?_⟩) he hpl) hdb)
  show wpAny _ _ (call (.ref C) us) _ _ _
  obtain ⟨hp, g, dr, tk, os⟩ := s1
  have big : hp.objs.size ≤ hp.objs.size + 1 := Nat.le_succ _
  have q2 := q1 (hp.objs.size + 1) (I1.hok.fresh big)
  have old : ∀ b o, hp.get? b = some o → ((hp.push (PySem.W.kdv_tup us)).push (PySem.HandSPX.excO C hp.objs.size)).get? b = some o := fun b o z => Heap.get?_push_of_some _ (Heap.get?_push_of_some _ z)
  have here : ((hp.push (PySem.W.kdv_tup us)).push (PySem.HandSPX.excO C hp.objs.size)).get? (hp.objs.size + 1) = some (PySem.HandSPX.excO C hp.objs.size) := by heap_get
  have I2 : Inv X pins σ (upd H1 (hp.objs.size + 1) (exo (hp.objs.size + 1) C none)) ⟨(hp.push (PySem.W.kdv_tup us)).push (PySem.HandSPX.excO C hp.objs.size), g, dr, tk, os⟩ :=
    I1.laid (t' := tk) (a := hp.objs.size + 1) (o := exo (hp.objs.size + 1) C none) (h' := (hp.push (PySem.W.kdv_tup us)).push (PySem.HandSPX.excO C hp.objs.size)) old big (exo_ok here)
  have rel2 : Vals (V.ref (hp.objs.size + 1) :: (vs ++ dvs)) (Value.ref (hp.objs.size + 1) :: (us ++ ds)) := .cons rfl (rel.append hdv)
  have len2 : (Value.ref (hp.objs.size + 1) :: us ++ ds).length = ps.length := by
    rw [← F1.len _ _ _ _ q2]; exact rel2.length.symm
  have fewU : us.length ≤ sizeLine := by
    rw [← Paired.length rel, sizeLine_eq]; omega
  refine wpAny_call (PySem.HandSPX.call_own F.excBase_ValueError (fun Y => PySem.HandSPX.refsVE_contains Y bm hasB) (I1.kIn _ _ isC) (PySem.W.looks_findIn I1.kIn iC) (fun self => PySem.W.bind_fn I1.kIn self tI) fewU
    (codeAny_mono (F1.run _ X.stack _ _ ⟨Value.ref (hp.objs.size + 1) :: us, []⟩ (Value.ref (hp.objs.size + 1) :: (us ++ ds)) _ _ (fun _ _ _ => False) (hr.make C us []) (I2.env0.make C us []) (hb _ (Value.ref (hp.objs.size + 1) :: us) I2.kIn len2) rel2 q2) fun r s2 ended => ?_))
  cases r with
  | error er => exact hx pins σ _ _ er s2 I2 ended
  | ok fl =>
    cases fl with
    | ret u =>
      obtain ⟨v, H2, sameOs, bare2, un2, hok2, relV, isN, d, fs, atA, atD, freeD, q3⟩ := ended
      subst isN
      obtain ⟨h2, g2, d2, t2, os2⟩ := s2
      obtain ⟨t0, G, J, kG, ge, hoe, na⟩ := mk_end0 (d2 := d2) (t2 := t2) I1 big old un2 hok2 sameOs bare2 atA atD freeD
      exact ⟨relV, hp.objs.size + 1, _, _, ⟨G, g2, d2, t2, os2⟩, _, .ref C, some d, rfl, J, kG, ge, hoe, ⟨rfl, rfl, fun vs z => by cases z; rfl⟩, rfl, rfl, na, rfl, bare2, raises_own T.exC T.tyC, q3⟩
    | next => exact False.elim ended
    | brk => exact False.elim ended
    | cont => exact False.elim ended
end

/-! ### try and raise as data -/
section
variable {K : PySem.W.Frag} {W Wout : WX} {δ δ1 : Dn} {cs : List Clause} {tb : WX → TS} {te : TE} {o : Out} {x : Exn} {d y : PyData}
theorem rn_try (h : ∀ W1, Rn K W1 (tb W1) δ o) (ho : ∀ δ' x, o ≠ .ex δ' x) : Rn K W (tTry K Wout cs tb) δ o := fun D F0 H0 F H σ s E q =>
  h _ D F0 H0 F H σ s E (by
    cases o with
    | ex δ' x => exact absurd rfl (ho δ' x)
    | _ => exact q)
/-- which clause takes it -/
def outGone (i : Nat) : Out → Out
  | .nx δ => .nx (δ.set i .no)
  | .bk δ => .bk (δ.set i .no)
  | .ct δ => .ct (δ.set i .no)
  | o => o
def Takes1 (K : PySem.W.Frag) (x : Exn) (δ : Dn) (o : Out) : List Clause → Prop
  | [] => False
  | cl :: rest => ∃ b, PySem.W.exmOne K (.ref x.c) cl.1 = some b ∧ (b = true → ∃ o1, (∀ (z dd : Addr) (W1 : WX), Rn K W1 (cl.2.2 z (.ref x.c) (some dd)) (δ.set cl.2.1 (.exc (.ref z) dd x.fs)) o1) ∧ (∀ δ' x', o1 ≠ .ex δ' x') ∧ outGone cl.2.1 o1 = o) ∧ (b = false → Takes1 K x δ o rest)
theorem takes_go {D : Ends} {F0 F H0 H : Hp} {σ : L2.St} {c : Value} {d : Option Addr} (s : Ext F0 F H0 H) (E : EnvR K H0 F H σ δ) (hx : XAt K F H x c d) (q : Fin K W D F0 H0 o) : ∀ {cs : List Clause}, Takes1 K x δ o cs → wTry K Wout D cs c d σ H
  | [], h => h.elim
  | cl :: rest, ⟨b, h1, h2, h3⟩ => by
    obtain ⟨rfl, dd, vs, rfl, hd, hv⟩ := hx
    refine ⟨b, h1, fun hb z hz => ?_, fun hb => takes_go s E ⟨rfl, dd, vs, rfl, hd, hv⟩ q (h3 hb)⟩
    obtain ⟨o1, g1, g2, rfl⟩ := h2 hb
    refine g1 z dd (fun _ _ _ _ => False) _ F0 H0 F H _ s (E.setX hd hv) ?_
    cases o1 with
    | ex δ' x' => exact absurd rfl (g2 δ' x')
    | rt d => exact q
    | nx δ' => exact fun F1 H1 σ1 s1 E1 => q F1 H1 _ s1 (E1.wipe1 _)
    | bk δ' => exact fun F1 H1 σ1 s1 E1 => q F1 H1 _ s1 (E1.wipe1 _)
    | ct δ' => exact fun F1 H1 σ1 s1 E1 => q F1 H1 _ s1 (E1.wipe1 _)
theorem rn_tryX (h : ∀ W1, Rn K W1 (tb W1) δ (.ex δ1 x)) (ht : Takes1 K x δ1 o cs) : Rn K W (tTry K Wout cs tb) δ o := fun D F0 H0 F H σ s E q =>
  h _ D F0 H0 F H σ s E fun c d σ1 F1 H1 s1 E1 x1 => takes_go s1 E1 x1 q ht
/-- the caught error's field -/
theorem ev_xf {z dd C : Addr} {i : Nat} {f : Str} {fs : List (Str × PyData)} (hi : δ[i]? = some (.exc (.ref z) dd fs)) (hl : fs.lookup f = some y) : EvD K W (tXf z (.ref C) (some dd) C f (tVar i)) δ (.ok y) := fun H0 F H σ Q s E q => by
  obtain ⟨h1, vs, h2, h3⟩ := E.exc i _ _ _ hi
  have key : ∀ (fs : List (Str × PyData)) (vs : List V), DpAll K F vs (fs.map (·.2)) → fs.lookup f = some y → ∃ v, ((fs.map (·.1)).zip vs).lookup f = some v ∧ Dp K F v y := by
    intro fs
    induction fs with
    | nil => intro vs _ h; cases h
    | cons p r ih =>
      intro vs h hl
      cases h with
      | @cons v _ vr _ a b =>
        rw [List.lookup] at hl
        refine (?_ : ∃ v', List.lookup f ((p.1, v) :: (r.map (·.1)).zip _) = some v' ∧ Dp K F v' y)
        rw [List.lookup]
        cases e : f == p.1 with
        | true =>
          rw [e] at hl
          cases hl
          exact ⟨v, rfl, a⟩
        | false =>
          rw [e] at hl
          exact ih _ b hl
  obtain ⟨v, k1, k2⟩ := key fs vs h3 hl
  exact ⟨.ref z, h1, rfl, rfl, dd, _, v, rfl, h2, k1, q v F H (Ext.refl s) k2⟩
end

/-! ### defs called within a suite -/
structure CalH (P : Program) (w : World) (K : PySem.W.Frag) (mg : Str → Option Value) (base : Heap) (k : Nat) (x : Str) (R : List PyData → Res PyData → Prop) : Prop where
  ex : ∃ (f : Addr) (fd : FuncData) (ps : List Str), L2H.FnH P w K mg base CX0 k f fd ps (spD K R) ∧ mg x = some (.ref f) ∧ PySem.W.keepIn K (.ref f) = true ∧ Binds K fd ps []
section
variable {P : Program} {w : World} {K : PySem.W.Frag} {mg : Str → Option Value} {base : Heap} {x : Str} {st : Stmt} {N ps : List Str} {k : Nat} {R : List PyData → Res PyData → Prop}
theorem okH (D : DefAt K mg x st []) (b : BindH K x st ps [] []) (S : FnScope N ps (defScope st)) (len : ∀ ds r, R ds r → ds.length = ps.length)
    (hb : ∀ (f : Addr) (cdv : Value) (A : Around) (outer : List Env) (s : Shared) (H : Hp) (Ex : XK) (p : Addr × Obj), L2H.Hot1 A p → L2H.RoomH k (A.deeper (PyProof.Rows.envOfC x (defScope st) s.heap.objs.size f cdv)) →
      ∃ t, PSs (L2H.cxH CX0 P w K mg base N x (defScope st) f cdv A outer s H Ex p) (defBody st) t ∧ ∀ ds r, R ds r → ∃ o, Rn K (fun cls d _ H => Ex cls d H) t (dn N ds) o ∧ endsAs o r) : CalH P w K mg base (k + 1) x R := by
  obtain ⟨f, fd, F, hm⟩ := D.ex
  obtain ⟨ws, hw, hB⟩ := b f fd F
  cases hw
  have hpl : ps.length ≤ N.length := by have := congrArg List.length S.pre; rw [List.length_take] at this; omega
  refine ⟨f, fd, ps, ?_, hm, F.kp, hB⟩
  obtain ⟨oc, od, dV, kV, doc, pm, an, cdv, ct, osl, rfl, lk, hcd, _, _⟩ := F.ex
  refine L2H.fn_ofH lk hcd S (fun vs H Q E h => ?_) fun A outer s H vs Q E p hot hr h => ?_
  · obtain ⟨_, ds, r, _, hd, hR, _⟩ := h
    rw [dpa_len hd]; exact len ds r hR
  · obtain ⟨t, h1, h2⟩ := hb f cdv A outer s H E p hot hr
    exact ⟨t, h1, fn_read (fun ds r hR => by rw [len ds r hR]; exact hpl) h h2⟩
end
section
variable {X : Cx} {k j : Nat} {x : Str} {p pos : Pos} {e : Expr} {es : List Expr} {t : TA} {R : List PyData → Res PyData → Prop}
theorem pe_calH (c : CalH X.prog X.w X.K X.mg X.base k x R) (hr : L2H.RoomH j X.A) (hk : k ≤ j) (hc : L2H.HotC X) (ha : PA X (e :: es) t) (hg : Gl X x := by rfl)
    (hdb : (x == ("__debug__" : Str)) = false := by decide) (he : starEach (e :: es) X.env = (false, eval e X.env) :: starEach es X.env := by rfl) (hpl : (backTo pos (starEach es X.env)).any (·.1) = false := by rfl) :
    PE X (.Call (.Name x p) (e :: es) [] pos) (tCallS (spD X.K R) EN t) := by
  obtain ⟨f, fd, ps, F, hm, kp, b⟩ := c.ex
  exact L2H.pe_callH F (hr.mono hk) hc hg hm kp b p0At ha hdb he hpl
theorem hot_suite {z : Addr} {o : Obj} {kc : Value} {d : Option Addr} {pn : List (Addr × Obj)} (hz : L2N.Zn kc d o) (hf : ∃ fs, o.data = .fields fs) : L2H.HotC (X.suite z ((z, o) :: pn)) := by
  obtain ⟨fs, hf⟩ := hf
  exact ⟨(z, o), ⟨rfl, fs, hf, hz.2.2 fs hf⟩, List.mem_cons_self⟩
end
theorem hot_def {P : Program} {w : World} {K : PySem.W.Frag} {mg : Str → Option Value} {base : Heap} {N : List Str} {qual : Str} {scope : Scope} {f : Addr} {cd : Value} {A : Around} {outer : List Env} {s : Shared} {H : Hp} {E : XK} {p : Addr × Obj} (h : L2H.Hot1 A p) :
    L2H.HotC (L2H.cxH CX0 P w K mg base N qual scope f cd A outer s H E p) := ⟨p, h, List.mem_cons_self⟩
section
variable {K : PySem.W.Frag} {W : WX} {δ : Dn} {tA : TA} {ds : List PyData} {d : PyData} {E : L2.St → XK} {R : List PyData → Res PyData → Prop}
theorem ev_callS (h : EvA K W tA δ (.ok ds)) (hR : R ds (.ok d)) : EvD K W (tCallS (spD K R) E tA) δ (.ok d) := fun H0 F H σ Q s En q =>
  h H0 F H σ _ s En fun vs F1 H1 e1 d1 => ⟨F1, ds, .ok d, e1.c, d1, hR, fun v F2 H2 e2 d2 => q v F2 H2 (e1.trans e2) d2⟩
end
end DL
set_option Elab.async false
set_option linter.all false
set_option maxRecDepth 100000
set_option maxHeartbeats 4000000
/-! DX6: sizes; errors by name; the reading tactics. -/
namespace DL
open PySem PySem.Spec PyProof.Rows L2

/-! ### sizes -/
/-- i has at most n bits -/
def Sz (n : Nat) (i : Int) : Prop := i.natAbs < 2 ^ n
section
variable {m n : Nat} {i j : Int}
theorem Sz.mono (h : Sz m i) (e : m ≤ n) : Sz n i := Nat.lt_of_lt_of_le h (Nat.pow_le_pow_right (by decide) e)
theorem Sz.self : Sz (i.natAbs.log2 + 1) i := by
  unfold Sz
  by_cases h : i.natAbs = 0
  · rw [h]; exact Nat.pow_pos (by decide)
  · exact (Nat.log2_lt h).mp (Nat.lt_succ_self _)
theorem Sz.neg (h : Sz m i) : Sz m (-i) := by unfold Sz at *; rw [Int.natAbs_neg]; exact h
theorem Sz.mul (h : Sz m i) (k : Sz n j) : Sz (m + n) (i * j) := by
  unfold Sz at *
  rw [Int.natAbs_mul, Nat.pow_add]
  exact Nat.mul_lt_mul'' h k
theorem two_max (m n : Nat) : 2 ^ m + 2 ^ n ≤ 2 ^ (max m n + 1) := by
  rw [Nat.pow_succ]
  have h1 : 2 ^ m ≤ 2 ^ max m n := Nat.pow_le_pow_right (by decide) (Nat.le_max_left ..)
  have h2 : 2 ^ n ≤ 2 ^ max m n := Nat.pow_le_pow_right (by decide) (Nat.le_max_right ..)
  omega
theorem Sz.add (h : Sz m i) (k : Sz n j) : Sz (max m n + 1) (i + j) := by
  unfold Sz at *
  have := Int.natAbs_add_le i j
  have := two_max m n
  omega
theorem Sz.sub (h : Sz m i) (k : Sz n j) : Sz (max m n + 1) (i - j) := by
  rw [Int.sub_eq_add_neg]; exact h.add k.neg
theorem Sz.log (h : Sz m i) : i.natAbs.log2 ≤ m := by
  unfold Sz at h
  by_cases e : i.natAbs = 0
  · rw [e]; exact Nat.zero_le _
  · exact Nat.le_of_lt ((Nat.log2_lt e).mpr h)
theorem Sz.le (h : Sz m i) (e : j.natAbs ≤ i.natAbs) : Sz m j := Nat.lt_of_le_of_lt e h
theorem cmulW_of (h1 : Sz m i) (h2 : Sz n j) (h3 : m + n < 1000000) : CMulW i j := by
  have := h1.log; have := h2.log
  unfold CMulW; omega
theorem fdiv_abs_le (i j : Int) (hd : j ∣ i) : (i.fdiv j).natAbs ≤ i.natAbs := by
  obtain ⟨c, rfl⟩ := hd
  by_cases h : j = 0
  · subst h; simp
  · rw [Int.mul_fdiv_cancel_left _ h, Int.natAbs_mul]
    exact Nat.le_mul_of_pos_left _ (by omega)
end

/-! ### errors by name -/
/-- an own error class with one field | two fields -/
structure Err1 (P : Program) (w : World) (K : PySem.W.Frag) (mg : Str → Option Value) (base : Heap) (x : Str) (C : Addr) (f : Str) : Prop where
  ox : OexC K C
  xf : XfC K C
  nf : PySem.W.findIn K (.ref C) f = some none
  gl : mg x = some (.ref C)
  ex : ∃ (fI : Addr) (fd : FuncData), PySem.W.findIn K (.ref C) "__init__" = some (some (.ref fI)) ∧ PySem.W.typeIn K (.ref fI) = some (.type "function") ∧ FnOk P w K mg base CX0 0 fI fd ["self", f] (spI1 C f) ∧ Binds K fd ["self", f] []
structure Err2 (P : Program) (w : World) (K : PySem.W.Frag) (mg : Str → Option Value) (base : Heap) (x : Str) (C : Addr) (f g : Str) : Prop where
  ox : OexC K C
  xf : XfC K C
  nf : PySem.W.findIn K (.ref C) f = some none
  ng : PySem.W.findIn K (.ref C) g = some none
  gl : mg x = some (.ref C)
  ex : ∃ (fI : Addr) (fd : FuncData), PySem.W.findIn K (.ref C) "__init__" = some (some (.ref fI)) ∧ PySem.W.typeIn K (.ref fI) = some (.type "function") ∧ FnOk P w K mg base CX0 0 fI fd ["self", f, g] (spI2 C f g) ∧ Binds K fd ["self", f, g] []
section
variable {X : Cx} {j : Nat} {x f g : Str} {C : Addr} {p pos : Pos} {e : Expr} {es : List Expr} {t : TA}
theorem pmk_e1 (c : Err1 X.prog X.w X.K X.mg X.base x C f) (hr : Room j X.A) (hk : 1 ≤ j) (ha : PA X (e :: es) t) (hg : Gl X x := by rfl)
    (hdb : (x == ("__debug__" : Str)) = false := by decide) (he : starEach (e :: es) X.env = (false, eval e X.env) :: starEach es X.env := by rfl) (hpl : (backTo pos (starEach es X.env)).any (·.1) = false := by rfl) :
    L2N.PMk X (.Call (.Name x p) (e :: es) [] pos) (tMkO C (spI1 C f) [] t) := by
  obtain ⟨fI, fd, i1, i2, F, b⟩ := c.ex
  exact pmk_made c.ox i1 i2 F (hr.mono hk) b .nil pass0 hg c.gl ha hdb he hpl
theorem pmk_e2 (c : Err2 X.prog X.w X.K X.mg X.base x C f g) (hr : Room j X.A) (hk : 1 ≤ j) (ha : PA X (e :: es) t) (hg : Gl X x := by rfl)
    (hdb : (x == ("__debug__" : Str)) = false := by decide) (he : starEach (e :: es) X.env = (false, eval e X.env) :: starEach es X.env := by rfl) (hpl : (backTo pos (starEach es X.env)).any (·.1) = false := by rfl) :
    L2N.PMk X (.Call (.Name x p) (e :: es) [] pos) (tMkO C (spI2 C f g) [] t) := by
  obtain ⟨fI, fd, i1, i2, F, b⟩ := c.ex
  exact pmk_made c.ox i1 i2 F (hr.mono hk) b .nil pass0 hg c.gl ha hdb he hpl
end
/-- what a raising call lets out goes on -/
theorem passN {X : Cx} {W : WX} (tk : L2N.Takes X W) (σ : L2.St) : PassesAt (L2N.CX X.prog X.w) X σ (WE W σ) := L2N.passAt tk σ
theorem pLN {X : Cx} (σ : L2.St) : PassesAt (L2N.CX X.prog X.w) X σ (EN σ) := fun _ _ _ _ _ _ h => by
  obtain ⟨_, _, _, _, _, _, _, _, _, _, _, _, z⟩ := h
  exact z.elim
section
variable {K : PySem.W.Frag} {W : WX} {δ : Dn} {tt : TT} {t u : TS} {o : Out} {b : Bool}
theorem rn_ifT' (h : EvT K W tt δ (.ok b)) (e : b = true) (h1 : Rn K W t δ o) : Rn K W (tIfS tt t u) δ o := rn_ifT (e ▸ h) h1
theorem rn_ifF' (h : EvT K W tt δ (.ok b)) (e : b = false) (h1 : Rn K W u δ o) : Rn K W (tIfS tt t u) δ o := rn_ifF (e ▸ h) h1
end
/-! ### displays, their length asked last -/
section
variable {K : PySem.W.Frag} {W : WX} {δ : Dn} {ta : TA} {ds : List PyData}
theorem ev_tupH (h : EvA K W ta δ (.ok ds)) (hl : ds.length ≤ sizeLine) : EvD K W (tTup ta) δ (.ok (.tuple ds)) := ev_tup h hl
theorem ev_lstH (h : EvA K W ta δ (.ok ds)) (hl : ds.length ≤ sizeLine) : EvD K W (tLst ta) δ (.ok (.list ds)) := ev_lst h hl
end
/-! ### the same, the written part told apart (for matching by letters) -/
section
variable {K K' : PySem.W.Frag} {W : WX} {δ : Dn} {ta te : TE} {tA : TA} {ds : List PyData} {x d : PyData} {E : L2.St → XK} {R : List PyData → Res PyData → Prop}
theorem ev_isiE {n : String} {b : Bool} (h : EvD K W ta δ (.ok x)) (hb : kitB (tyD x) n = some b) (e : K' = K) : EvD K W (tCB (rIsi K') (tCons ta (tCons (tC (.ty n)) tNil))) δ (.ok (.bool b)) := by
  subst e; exact ev_isi h hb
theorem ev_callE (h : EvA K W tA δ (.ok ds)) (hR : R ds (.ok d)) (e : K' = K) : EvD K W (tCallSD (spD K' R) [] E tA) δ (.ok d) := by
  subst e; exact ev_call0 h hR
theorem ev_callSE (h : EvA K W tA δ (.ok ds)) (hR : R ds (.ok d)) (e : K' = K) : EvD K W (tCallS (spD K' R) E tA) δ (.ok d) := by
  subst e; exact ev_callS h hR
end
/-! ### ways through a test that need not be gone to the end -/
section
variable {K : PySem.W.Frag} {W : WX} {δ : Dn} {t u : TT} {a : Bool}
theorem et_orT (h : EvT K W t δ (.ok a)) (e : a = true) : EvT K W (tOr t u) δ (.ok true) := by
  subst e
  exact et_is (et_or (b := true) h fun z => nomatch z) rfl
theorem et_andF (h : EvT K W t δ (.ok a)) (e : a = false) : EvT K W (tAnd t u) δ (.ok false) := by
  subst e
  exact et_is (et_and (b := true) h fun z => nomatch z) rfl
end
/-! ### knowing less -/
section
variable {K : PySem.W.Frag} {W : WX} {δ δ1 δ2 : Dn} {s : Sl} {t : TS} {te : TE} {o : Out} {d : PyData}
theorem less_nil : Less [] [] := ⟨rfl, fun i s h => by simp at h⟩
theorem less_same (h : Less δ1 δ) : Less (s :: δ1) (s :: δ) := ⟨by simp [h.1], fun i u hu => by
  cases i with
  | zero => exact .inr hu
  | succ i => exact h.2 i u hu⟩
theorem less_no (h : Less δ1 δ) : Less (.no :: δ1) (s :: δ) := ⟨by simp [h.1], fun i u hu => by
  cases i with
  | zero => exact .inl (by simpa using hu.symm)
  | succ i => exact h.2 i u hu⟩
theorem rn_at (e : δ1 = δ) (h : Rn K W t δ o) : Rn K W t δ1 o := e ▸ h
theorem rn_asgE {i : Nat} (h : EvD K W te δ (.ok d)) (e : δ.set i (.val d) = δ1) : Rn K W (tAsg te (gName i)) δ (.nx δ1) := e ▸ rn_asg h
theorem rn_nxE (h : Rn K W t δ (.nx δ1)) (e : δ1 = δ2) : Rn K W t δ (.nx δ2) := e ▸ h
end
section
variable {P : Program} {w : World} {K : PySem.W.Frag} {mg : Str → Option Value} {base : Heap} {x : Str} {st : Stmt} {N ps : List Str} {k : Nat} {dvs dv2 : List V} {R : List PyData → Res PyData → Prop}
/-- a def that may raise, its errors' context told -/
theorem okR (D : DefAt K mg x st dvs) (b : BindH K x st ps dvs dv2) (S : FnScope N ps (defScope st)) (len : ∀ ds r, R ds r → ds.length = ps.length)
    (hb : ∀ (f : Addr) (cdv : Value) (A : Around) (outer : List Env) (s : Shared) (H : Hp) (Ex : XK), Room k (A.deeper (PyProof.Rows.envOfC x (defScope st) s.heap.objs.size f cdv)) →
      ∃ t, PSs (cxOf (L2N.CX P w) P w K mg base N x (defScope st) f cdv A outer s H Ex) (defBody st) t ∧ ∀ ds r, R ds r → ∃ o, Rn K (fun cls d _ H => Ex cls d H) t (dn N ds) o ∧ endsAs o r) : CalX P w K mg base (L2N.CX P w) (k + 1) x dv2 R := by
  obtain ⟨f, fd, F, hm⟩ := D.ex
  obtain ⟨ws, hw, hB⟩ := b f fd F
  have hpl : ps.length ≤ N.length := by have := congrArg List.length S.pre; rw [List.length_take] at this; omega
  refine ⟨f, fd, ps, ws, F.ok S (fun vs H Q E h => ?_) fun cdv A outer s H vs Q E hr h => ?_, hm, F.kp, hB, hw⟩
  · obtain ⟨_, ds, r, _, hd, hR, _⟩ := h
    rw [dpa_len hd]; exact len ds r hR
  · obtain ⟨t, h1, h2⟩ := hb f cdv A outer s H E hr
    exact ⟨t, h1, fn_read (fun ds r hR => by rw [len ds r hR]; exact hpl) h h2⟩
end
/-! ### constants of the module -/
def CI (mg : Str → Option Value) (x : Str) (i : Int) : Prop := ∃ t, mg x = some (.int i t)
def CS (mg : Str → Option Value) (x : Str) (z : Str) : Prop := ∃ t, mg x = some (.str z t)
structure CT (K : PySem.W.Frag) (mg : Str → Option Value) (x : Str) (Z : Addr) (d : PyData) : Prop where
  m : mg x = some (.ref Z)
  d : ∀ F : Hp, Dp K F (.ref Z) d
section
variable {X : Cx} {x : Str} {pos : Pos}
theorem pe_cI {i : Int} (c : CI X.mg x i) (hg : Gl X x := by rfl) (hd : (x == ("__debug__" : Str)) = false := by decide) : PE X (.Name x pos) (tC (.int i)) := by
  obtain ⟨t, c⟩ := c
  exact pe_glob hg c ⟨t, rfl⟩ hd
theorem pe_cS {z : Str} (c : CS X.mg x z) (hg : Gl X x := by rfl) (hd : (x == ("__debug__" : Str)) = false := by decide) : PE X (.Name x pos) (tC (.str z)) := by
  obtain ⟨t, c⟩ := c
  exact pe_glob hg c ⟨t, rfl⟩ hd
theorem pe_cT {Z : Addr} {d : PyData} (c : CT X.K X.mg x Z d) (hg : Gl X x := by rfl) (hd : (x == ("__debug__" : Str)) = false := by decide) : PE X (.Name x pos) (tC (.ref Z)) := pe_glob hg c.m rfl hd
end
theorem ev_cT {K : PySem.W.Frag} {W : WX} {δ : Dn} {mg : Str → Option Value} {x : Str} {Z : Addr} {d : PyData} (c : CT K mg x Z d) : EvD K W (tC (.ref Z)) δ (.ok d) := ev_glob c.d
end DL
set_option Elab.async false
set_option linter.all false
set_option maxRecDepth 100000
set_option maxHeartbeats 4000000
/-! DX7: loops that only look. -/
namespace DL
open PySem PySem.Spec PyProof.Rows L2
theorem rd_mulR {K : PySem.W.Frag} {i j : Int} (h1 : -(2 ^ 64) < i) (h2 : i < 2 ^ 64) : RD K rMulU (.int i) (.int j) (.int (i * j)) := rd_l (rd_I (.inr (.inl ⟨h1, h2⟩)))
theorem rd_pow {K : PySem.W.Frag} {i j : Int} (h : CPow i j) : RD K (rI CPow fun i j => .int (i ^ j.toNat)) (.int i) (.int j) (.int (i ^ j.toNat)) := rd_I h
theorem Sz.fmod {n : Nat} {i j : Int} (h : 0 < j) (hj : Sz n j) : Sz n (i.fmod j) := by
  have h1 := Int.fmod_nonneg_of_pos i h
  have h2 := Int.fmod_lt_of_pos i h
  exact hj.le (by omega)
theorem at_int {ns : List Int} {i : Nat} (h : i < ns.length) : atI (ns.map PyData.int) (i : Int) = some (.int (ns.getD i 0)) := by
  unfold atI ixN
  rw [if_pos (by omega), if_pos (by rw [List.length_map]; omega)]
  show (ns.map PyData.int)[(i : Int).toNat]? = _
  rw [show (i : Int).toNat = i by omega, List.getElem?_map, List.getElem?_eq_getElem h, List.getD_eq_getElem?_getD, List.getElem?_eq_getElem h]; rfl
theorem cut_from (l : List PyData) (k : Nat) : cutD l (some (k : Int)) none = l.drop k := by
  unfold cutD
  rw [HT.sIx_none, HT.sIx_nat]
  by_cases h : k ≤ l.length
  · rw [Nat.min_eq_left h]
    exact List.take_of_length_le (by simp)
  · rw [Nat.min_eq_right (by omega), List.drop_eq_nil_of_le (Nat.le_refl _), List.drop_eq_nil_of_le (by omega)]
    simp
theorem cut_to (l : List PyData) (k : Nat) : cutD l none (some (k : Int)) = l.take k := by
  unfold cutD
  rw [HT.sIx_none, HT.sIx_nat]
  rw [List.drop_zero, Nat.sub_zero]
  by_cases h : k ≤ l.length
  · rw [Nat.min_eq_left h]
  · rw [Nat.min_eq_right (by omega), List.take_of_length_le (Nat.le_refl _), List.take_of_length_le (by omega)]
theorem atI_zero {α : Type} {c : α} {l : List α} : atI (c :: l) 0 = some c := by
  unfold atI ixN
  rw [if_pos (Int.le_refl 0), if_pos (by simp)]
  rfl
theorem at_nat {α : Type} {l : List α} {i : Nat} : atI l (i : Int) = l[i]? := by
  unfold atI ixN
  rw [if_pos (by omega)]
  by_cases h : i < l.length
  · rw [if_pos (by omega)]; rfl
  · rw [if_neg (by omega)]
    exact (List.getElem?_eq_none (by omega)).symm
section
variable {K : PySem.W.Frag} {W : WX} {δ : Dn} {wi : TI} {g : TG} {t : TS} {js : List Nat} {r : PyData}
/-- a loop that leaves at the first bad one -/
theorem rn_all {l : List PyData} (bad : PyData → Bool) (h : SrcD K wi δ l)
    (good : ∀ (i : Nat) d, l[i]? = some d → bad d = false → ∃ δ1 δ2, AsD K g js d δ δ1 ∧ Rn K W t δ1 (.nx δ2) ∧ Less δ δ2)
    (leave : ∀ (i : Nat) d, l[i]? = some d → bad d = true → ∃ δ1, AsD K g js d δ δ1 ∧ Rn K W t δ1 (.rt r)) : Rn K W (tFor wi g t) δ (if l.any bad then .rt r else .nx δ) := by
  have step : ∀ i d, i < l.findIdx bad → l[i]? = some d → ∃ δ' ob, AsD K g js d δ δ' ∧ bodyEnd ob (.nx δ) ∧ Rn K W t δ' ob := fun i d hi hd => by
    have hb : bad d = false := by
      obtain ⟨hl, he⟩ := List.getElem?_eq_some_iff.mp hd
      have := List.not_of_lt_findIdx hi
      subst he
      simpa using this
    obtain ⟨δ1, δ2, g1, g2, g3⟩ := good i d hd hb
    exact ⟨δ1, .nx δ, g1, rfl, rn_weak g3 g2⟩
  by_cases ha : l.any bad = true
  · rw [if_pos ha]
    have hlt : l.findIdx bad < l.length := List.findIdx_lt_length.mpr (by simpa using ha)
    obtain ⟨d, hd⟩ : ∃ d, l[l.findIdx bad]? = some d := ⟨_, List.getElem?_eq_getElem hlt⟩
    have hb : bad d = true := by
      obtain ⟨hl, he⟩ := List.getElem?_eq_some_iff.mp hd
      subst he
      exact List.findIdx_getElem
    obtain ⟨δ1, g1, g2⟩ := leave _ d hd hb
    exact rn_for (fun _ => δ) (l.findIdx bad) (Nat.le_of_lt hlt) h step (.inr ⟨d, δ1, .rt r, hd, g1, rfl, g2⟩)
  · rw [if_neg ha]
    have e : l.findIdx bad = l.length := by
      rw [List.findIdx_eq_length]
      intro x hx
      cases hb : bad x with
      | false => rfl
      | true => exact absurd (List.any_eq_true.mpr ⟨x, hx, hb⟩) ha
    exact rn_for (fun _ => δ) l.length (Nat.le_refl _) h (fun i d hi hd => step i d (by rw [e]; exact hi) hd) (.inl ⟨rfl, rfl⟩)
/-- a loop that finds nothing bad -/
theorem rn_none {l : List PyData} (h : SrcD K wi δ l) (good : ∀ (i : Nat) d, l[i]? = some d → ∃ δ1 δ2, AsD K g js d δ δ1 ∧ Rn K W t δ1 (.nx δ2) ∧ Less δ δ2) : Rn K W (tFor wi g t) δ (.nx δ) :=
  rn_for (fun _ => δ) l.length (Nat.le_refl _) h (fun i d _ hd => by
    obtain ⟨δ1, δ2, g1, g2, g3⟩ := good i d hd
    exact ⟨δ1, .nx δ, g1, rfl, rn_weak g3 g2⟩) (.inl ⟨rfl, rfl⟩)
/-- the errors' calls -/
theorem ev_callXE {K' : PySem.W.Frag} {tA : TA} {ds : List PyData} {e : Exn} {R : List PyData → Res PyData → Prop} (h : EvA K W tA δ (.ok ds)) (hR : R ds (.error e)) (q : K' = K) : EvD K W (tCallSD (spD K' R) [] (WE W) tA) δ (.error e) := by
  subst q; exact ev_callX0 h hR
end
theorem ev_callWE {K K' : PySem.W.Frag} {W : WX} {δ : Dn} {tA : TA} {ds : List PyData} {d : PyData} {E : L2.St → XK} {R : List PyData → Res PyData → Prop} (h : EvA K W tA δ (.ok ds)) (hR : R ds (.ok d)) (q : K' = K) : EvD K W (tCallSD (spD K' R) [] E tA) δ (.ok d) := ev_callE h hR q
/-- xs + [..], xs a list of its own -/
theorem ev_catO {K : PySem.W.Frag} {W : WX} {δ : Dn} {ta : TA} {i : Nat} {l ds : List PyData} (hi : δ[i]? = some (Sl.own l)) (h : EvA K W ta δ (.ok ds)) (hz : l.length + ds.length ≤ sizeLine) : EvD K W (tOp (rAddU K) (tVar i) (tLst ta)) δ (.ok (.list (l ++ ds))) := fun H0 F H σ Q s E q => by
  obtain ⟨p, vs, h1, h2, h3, h4, h5⟩ := E.own i l hi
  refine ⟨_, h1, h H0 F H σ _ s E fun us F1 H1 e1 d1 => ⟨by rw [dpa_len d1]; omega, fun p2 hp2 => ?_⟩⟩
  have e2 := e1.trans (Ext.side e1.c hp2 (o := HO.lst us))
  have hp : H1 p = some (HO.lst vs) := e1.b _ _ h2
  refine .inr (.inr (.inl ⟨p, p2, vs, us, rfl, rfl, by rw [upd_ne (ne_of_none hp hp2)]; exact hp, upd_same, by rw [dpa_len h5, dpa_len d1]; exact hz, fun p3 hp3 => ?_⟩))
  exact q _ (upd F1 p3 (.lst (vs ++ us))) _ (e2.trans (Ext.new e2.c hp3)) (.lst (SqL.of upd_same) (dpAll_mono (same_upd (Same.refl _) (e2.c.free hp3)) _ _ (dpa_append (dpAll_mono e1.a _ _ h5) d1)))
theorem et_orF {K : PySem.W.Frag} {W : WX} {δ : Dn} {t u : TT} {a b : Bool} (h : EvT K W t δ (.ok a)) (e : a = false) (h2 : EvT K W u δ (.ok b)) : EvT K W (tOr t u) δ (.ok b) := by
  subst e
  exact et_is (et_or h fun _ => h2) rfl
theorem et_andT {K : PySem.W.Frag} {W : WX} {δ : Dn} {t u : TT} {a b : Bool} (h : EvT K W t δ (.ok a)) (e : a = true) (h2 : EvT K W u δ (.ok b)) : EvT K W (tAnd t u) δ (.ok b) := by
  subst e
  exact et_is (et_and h fun _ => h2) rfl
/-! ### within a comprehension: the written part by its own name -/
section
variable {X : Cx} {K : PySem.W.Frag}
theorem op_addK (e : X.K = K) : OpR X (binaryOp .Add) (rAddU K) := by subst e; exact op_addU
theorem op_eqK (hu : X.A.units + 64 < cLine) (e : X.K = K) : OpR X (compareOp .Eq) (rEqU K) := by subst e; exact op_eqU hu
theorem op_neK (hu : X.A.units + 64 < cLine) (e : X.K = K) : OpR X (compareOp .NotEq) (rNeU K) := by subst e; exact op_neU hu
theorem sl_K (e : X.K = K) : SlR X (rSlU K) := by subst e; exact sl_U
theorem ix_K (e : X.K = K) : IxR X (rIx K) := by subst e; exact ix_seq
theorem call_lenK (e : X.K = K) : CallR X (.builtin "len") (fun xs H Q => ∃ x n, xs = [x] ∧ LenV K x H n ∧ Q (.int n) H) := by subst e; exact call_len
theorem call_isiK (e : X.K = K) : CallR X (.builtin "isinstance") (rIsi K) := by subst e; exact call_isi
theorem pe_calK {CX : CXT} {k j : Nat} {x : Str} {E : L2.St → XK} {p pos : Pos} {e : Expr} {es : List Expr} {t : TA} {R : List PyData → Res PyData → Prop} {dvs : List V} (q : X.K = K) (c : CalX X.prog X.w X.K X.mg X.base CX k x dvs R) (hr : Room j X.A) (hk : k ≤ j) (hx : ∀ σ, PassesAt CX X σ (E σ)) (ha : PA X (e :: es) t) (hg : Gl X x := by rfl)
    (hdb : (x == ("__debug__" : Str)) = false := by decide) (he : starEach (e :: es) X.env = (false, eval e X.env) :: starEach es X.env := by rfl) (hpl : (backTo pos (starEach es X.env)).any (·.1) = false := by rfl) :
    PE X (.Call (.Name x p) (e :: es) [] pos) (tCallSD (spD K R) dvs E t) := by
  subst q; exact pe_cal c hr hk hx ha hg hdb he hpl
theorem pe_bmK {T : String} {name : Str} {id : String} {r : V → List V → Hp → VK → Prop} {o e : Expr} {es : List Expr} {to : TE} {t : TA} {apos cpos : Pos} (q : X.K = K) (pa : PlainAttrs T) (slot : Slot T name id) (hty : typeOf (.builtin id) = pure (.type "method_descriptor")) (hm : MtR X id r) (ho : PE X o to) (ha : PA X (e :: es) t)
    (hbase : attributeBase o name X.env (eval o X.env) = eval o X.env := by rfl)
    (hfew : ((backTo cpos (starEach (e :: es) X.env)).all (fun x => !x.1) && (backToKw cpos (keywordEach [] X.env)).all (fun x => x.1.isSome) && decide ((e :: es).length + ([] : List Keyword).length + (if ([] : List Keyword).isEmpty then 0 else 1) < 30)) = true := by rfl)
    (hline : (apos.endLine == cpos.line) = true := by rfl) (hs : starEach (e :: es) X.env = (false, eval e X.env) :: starEach es X.env := by rfl) (hplain : (backTo cpos (starEach es X.env)).any (·.1) = false := by rfl) :
    PE X (.Call (.Attribute o name apos) (e :: es) [] cpos) (tBM K T r to t) := by
  subst q; exact pe_bm pa slot hty hm ho ha hbase hfew hline hs hplain
end
theorem pe_calHK {X : Cx} {K : PySem.W.Frag} {k j : Nat} {x : Str} {p pos : Pos} {e : Expr} {es : List Expr} {t : TA} {R : List PyData → Res PyData → Prop} (q : X.K = K) (c : CalH X.prog X.w X.K X.mg X.base k x R) (hr : L2H.RoomH j X.A) (hk : k ≤ j) (hc : L2H.HotC X) (ha : PA X (e :: es) t) (hg : Gl X x := by rfl)
    (hdb : (x == ("__debug__" : Str)) = false := by decide) (he : starEach (e :: es) X.env = (false, eval e X.env) :: starEach es X.env := by rfl) (hpl : (backTo pos (starEach es X.env)).any (·.1) = false := by rfl) :
    PE X (.Call (.Name x p) (e :: es) [] pos) (tCallS (spD K R) EN t) := by
  subst q; exact pe_calH c hr hk hc ha hg hdb he hpl
theorem takesN0 {X : Cx} : L2N.Takes X (fun _ _ _ _ => False) := fun _ _ h => by
  obtain ⟨_, _, _, _, _, _, _, _, _, _, _, _, _, _, _, _, w⟩ := h
  exact w.elim
theorem hu64H {A : Around} {k : Nat} (hr : L2H.RoomH k A) : A.units + 64 < cLine := by have := hr.un; omega
/-- nothing is promised yet -/
theorem cal_none {P : Program} {w : World} {K : PySem.W.Frag} {mg : Str → Option Value} {base : Heap} {CX : CXT} {x : Str} {st : Stmt} {ps : List Str} {dvs dv2 : List V} {R : List PyData → Res PyData → Prop} (D : DefAt K mg x st dvs) (b : BindH K x st ps dvs dv2) (h : ∀ ds r, ¬ R ds r) (k : Nat) : CalX P w K mg base CX k x dv2 R := by
  obtain ⟨f, fd, F, hm⟩ := D.ex
  obtain ⟨ws, hw, hB⟩ := b f fd F
  have no : ∀ vs H Q E, ¬ spD K R vs H Q E := fun vs H Q E ⟨_, ds, r, _, _, hR, _⟩ => h ds r hR
  exact ⟨f, fd, ps, ws, ⟨fun vs H Q E q => absurd q (no _ _ _ _), fun A outer s H args us vs Q E _ _ _ _ q => absurd q (no _ _ _ _)⟩, hm, F.kp, hB, hw⟩
theorem calh_none {P : Program} {w : World} {K : PySem.W.Frag} {mg : Str → Option Value} {base : Heap} {x : Str} {st : Stmt} {ps : List Str} {R : List PyData → Res PyData → Prop} (D : DefAt K mg x st []) (b : BindH K x st ps [] []) (h : ∀ ds r, ¬ R ds r) (k : Nat) : CalH P w K mg base k x R := by
  obtain ⟨f, fd, F, hm⟩ := D.ex
  obtain ⟨ws, hw, hB⟩ := b f fd F
  cases hw
  have no : ∀ vs H Q E, ¬ spD K R vs H Q E := fun vs H Q E ⟨_, ds, r, _, _, hR, _⟩ => h ds r hR
  exact ⟨f, fd, ps, ⟨fun vs H Q E q => absurd q (no _ _ _ _), fun A outer s H args us vs Q E p _ _ _ _ _ _ q => absurd q (no _ _ _ _)⟩, hm, F.kp, hB⟩
/-! ### step by step -/
section
variable {K : PySem.W.Frag} {W : WX} {δ δ1 : Dn} {t u : TS} {o : Out} {r : Res PyData} {d : PyData} {x : Exn}
/-- what is left to be shown of a body -/
def Ends (K : PySem.W.Frag) (W : WX) (t : TS) (δ : Dn) (r : Res PyData) : Prop := ∃ o, Rn K W t δ o ∧ endsAs o r
theorem en_seq (h : Rn K W t δ (.nx δ1)) (q : Ends K W u δ1 r) : Ends K W (tSeq t u) δ r := by
  obtain ⟨o, h1, h2⟩ := q
  exact ⟨o, rn_seq h h1, h2⟩
theorem en_R (h : Rn K W t δ (.rt d)) (e : Except.ok d = r) : Ends K W (tSeq t u) δ r := ⟨_, rn_seqR h, e.symm⟩
theorem en_X (h : Rn K W t δ (.ex δ1 x)) (e : Except.error x = r) : Ends K W (tSeq t u) δ r := ⟨_, rn_seqX h, e.symm⟩
theorem rn_frzE {i : Nat} {l : List PyData} (hi : δ[i]? = some (Sl.own l)) (h : Ends K W t (δ.set i (.val (.list l))) r) : Ends K W t δ r := by
  obtain ⟨o, h1, h2⟩ := h
  exact ⟨o, rn_frz hi h1, h2⟩
theorem okB {a b : Bool} (h : a = b) : (Except.ok (PyData.bool a) : Res PyData) = Except.ok (PyData.bool b) := by rw [h]
theorem okS {a b : Str} (h : a = b) : (Except.ok (PyData.str a) : Res PyData) = Except.ok (PyData.str b) := by rw [h]
theorem okI {a b : Int} (h : a = b) : (Except.ok (PyData.int a) : Res PyData) = Except.ok (PyData.int b) := by rw [h]
theorem en_rt (h : Rn K W t δ (.rt d)) (e : Except.ok d = r) : Ends K W t δ r := ⟨_, h, e.symm⟩
theorem en_ex (h : Rn K W t δ (.ex δ1 x)) (e : Except.error x = r) : Ends K W t δ r := ⟨_, h, e.symm⟩
end
end DL
set_option Elab.async false
set_option linter.all false
set_option maxRecDepth 100000
set_option maxHeartbeats 4000000
/-! DH: the head: facts by names, own errors with super().__init__ among them. -/
namespace DL
open PySem PySem.Spec PyProof.Rows L2 He
/-! ### a method that stands in a cell's sight -/
abbrev FnC : Type := Option (Str × Str × Arguments × FuncBody × Scope × Addr × List Str × Addr)
def fnC (K : PySem.W.Frag) (p : Str × Option Str) : FnC := match K.lookup (fAd K p) with
  | some ⟨_, _, .func fd, _⟩ => some (fd.name, fd.qualname, fd.params, fd.body, fd.scope, fd.globals, fd.closure.map (·.1), fd.builtins)
  | _ => none
/-- an own error's __init__: the class, its qualified name, its text -/
structure SupD where
  C : Str
  qual : Str
  st : Stmt
def SupD.val (d : SupD) : FnC := some ("__init__", d.qual, defArgs d.st, .stmts (defBody d.st), defScope d.st, mainGlobals, ["__class__"], builtinsNs)
def oexB (K : PySem.W.Frag) (C : Addr) : Bool := PySem.W.excInitIn K C veBase "ValueError.__new__" && (match K.lookup C with
  | some ⟨_, _, .cls cd, _⟩ => cd.hasDict && (match cd.mro with
    | _ :: bm => decide (PySem.HandSPX.refsVE bm = true)
    | _ => false)
  | _ => false) && (eqO (PySem.W.findIn K (.ref C) "__setattr__") (some (some (.builtin "object.__setattr__"))) && (decide (PySem.W.subIn K (.ref C) (.type "BaseException") = some true) && (decide (PySem.W.typeIn K (.ref C) = some (.type "type")) && PySem.W.keepIn K (.ref C))))
theorem oexB_ok {K : PySem.W.Frag} {C : Addr} (h : oexB K C = true) : OexC K C := by
  obtain ⟨h0, h⟩ := ba h
  obtain ⟨h0, h1⟩ := ba h0
  obtain ⟨h2, h⟩ := ba h
  obtain ⟨h3, h⟩ := ba h
  obtain ⟨h4, h5⟩ := ba h
  refine ⟨?_, eqO_ok h2, of_decide_eq_true h3, of_decide_eq_true h4, h5⟩
  unfold PySem.W.excInitIn at h0
  split at h0
  · rename_i dd cd sl ho
    rw [ho] at h1
    split at h0
    · rename_i C' bm k0 k1 k2 k3 n k5 hm hs
      simp only [Bool.and_eq_true, beq_iff_eq, Bool.not_eq_true'] at h0
      obtain ⟨⟨⟨rfl, rfl⟩, hdel⟩, ht⟩ := h0
      obtain ⟨nm, bs, mro, ns, qn, hd, sn, sub, ab, col, del⟩ := cd
      dsimp only at hm hdel
      subst hm hdel
      have hsl : sl = #[k0, k1, k2, k3, some (.builtin "ValueError.__new__"), k5] := by
        obtain ⟨l⟩ := sl
        simp only at hs
        rw [hs]
      obtain ⟨g1, g2⟩ := ba h1
      have g1' : hd = true := g1
      subst g1' hsl
      exact ⟨nm, qn, ns, bs, bm, sn, sub, ab, col, dd, k0, k1, k2, k3, k5, ho, of_decide_eq_true g2⟩
    · cases h0
  · cases h0
def supFB (K : PySem.W.Frag) (C : Addr) (file qual : Str) : Bool := match K.lookup (ma K C "__init__") with
  | some ⟨_, _, .func fd, _⟩ => (match fd.defaults with
    | .none => true
    | _ => false) && (PySem.W.codeIn K fd.code qual && ((match fd.code with
    | .ref cda => (match K.lookup cda with
      | some ⟨_, _, .fields vs, _⟩ => (match (vs[2]? : Option Value) with
        | some (.str f _) => file == f
        | _ => false)
      | _ => false)
    | _ => false) && (match fd.closure with
    | [(_, cc)] => (match K.lookup cc with
      | some ⟨_, _, .cell (some (.ref a)), _⟩ => decide (a = C)
      | _ => false)
    | _ => false)))
  | _ => false
theorem supF_of {P : Program} {K : PySem.W.Frag} {d : SupD} (e : fnC K (d.C, some "__init__") = d.val) (c : supFB K (ga K d.C) P.main.file d.qual = true) : ∃ fd, SupF P K (ga K d.C) (ma K (ga K d.C) "__init__") d.qual d.st fd := by
  unfold fnC at e
  have ef : fAd K (d.C, some "__init__") = ma K (ga K d.C) "__init__" := rfl
  rw [ef] at e
  unfold supFB at c
  cases q : K.lookup (ma K (ga K d.C) "__init__") with
  | none =>
    rw [q] at c
    cases c
  | some o =>
    obtain ⟨oc, od, dt, osl⟩ := o
    rw [q] at c e
    cases dt with
    | func fd =>
      obtain ⟨n1, n2, n3, n4, n5, n6, n7, n8, n9, n10, n11, n12, n13, n14, n15⟩ := fd
      have e2 : (some (n1, n2, n3, n4, n5, n6, n7.map (·.1), n15) : FnC) = (some (("__init__" : Str), d.qual, defArgs d.st, .stmts (defBody d.st), defScope d.st, mainGlobals, ["__class__"], builtinsNs) : FnC) := e
      simp only [Option.some.injEq, Prod.mk.injEq] at e2
      obtain ⟨h1, h2, h3, h4, h5, h6, h7, h8⟩ := e2
      subst h1 h2 h3 h4 h5 h6 h8
      obtain ⟨c1, c⟩ := ba c
      obtain ⟨c2, c⟩ := ba c
      obtain ⟨c3, c4⟩ := ba c
      have d1 : n8 = .none := by
        cases n8 with
        | none => rfl
        | _ => cases c1
      subst d1
      cases n13 with
      | ref cda =>
        have c3' : (match K.lookup cda with
          | some ⟨_, _, .fields vs, _⟩ => (match (vs[2]? : Option Value) with
            | some (.str f _) => P.main.file == f
            | _ => false)
          | _ => false) = true := c3
        cases q2 : K.lookup cda with
        | none =>
          rw [q2] at c3'
          cases c3'
        | some o2 =>
          obtain ⟨oc2, od2, dt2, osl2⟩ := o2
          rw [q2] at c3'
          cases dt2 with
          | fields vs =>
            have c3'' : (match (vs[2]? : Option Value) with
              | some (.str f _) => P.main.file == f
              | _ => false) = true := c3'
            cases q3 : vs[2]? with
            | none =>
              rw [q3] at c3''
              cases c3''
            | some v =>
              rw [q3] at c3''
              cases v with
              | str f tf =>
                cases n7 with
                | nil => cases h7
                | cons p r =>
                  cases r with
                  | nil =>
                    obtain ⟨pn, cc⟩ := p
                    have e7 : pn = "__class__" := by simpa using h7
                    subst e7
                    have c4' : (match K.lookup cc with
                      | some ⟨_, _, .cell (some (.ref a)), _⟩ => decide (a = ga K d.C)
                      | _ => false) = true := c4
                    cases q4 : K.lookup cc with
                    | none =>
                      rw [q4] at c4'
                      cases c4'
                    | some o4 =>
                      obtain ⟨oc4, od4, dt4, osl4⟩ := o4
                      rw [q4] at c4'
                      cases dt4 with
                      | cell cv =>
                        cases cv with
                        | none => cases c4'
                        | some v4 =>
                          cases v4 with
                          | ref a =>
                            have ea : a = ga K d.C := of_decide_eq_true c4'
                            subst ea
                            exact ⟨_, oc, od, n9, n10, n11, n14, n12, cda, cc, osl, oc2, oc4, od2, od4, osl2, osl4, vs, f, tf, rfl, q, c2, q2, q3, c3'', q4⟩
                          | _ => cases c4'
                      | _ => cases c4'
                  | cons _ _ => simp at h7
              | _ => cases c3''
          | _ => cases c3'
      | _ => cases c3
    | _ => cases c
def supCB (K : PySem.W.Frag) (C : Addr) : Bool := oexB K C && (eqO (PySem.W.findIn K (.ref C) "__init__") (some (some (.ref (ma K C "__init__")))) && (decide (PySem.W.typeIn K (.ref (ma K C "__init__")) = some (.type "function")) && (decide (PySem.W.subIn K (.ref C) (.type "ValueError") = some true) && (decide (PySem.W.mroIn K C (.ref C) = some true) && (eqO (PySem.W.ks_superIn K C C "__init__") (some (some (.builtin "ValueError.__init__"))) && eqO (PySem.W.nsIn K cStatics "thirdparty.any") (some none))))))
theorem supC_of {P : Program} {K : PySem.W.Frag} {mg : Str → Option Value} {C : Addr} (h : supCB K C = true) (top : (P.main.scope.names.lookup ("super" : Str)).isSome = false) (ms : mg "super" = none) : SupC P K mg C (ma K C "__init__") := by
  obtain ⟨h1, h⟩ := ba h
  obtain ⟨h2, h⟩ := ba h
  obtain ⟨h3, h⟩ := ba h
  obtain ⟨h4, h⟩ := ba h
  obtain ⟨h5, h⟩ := ba h
  obtain ⟨h6, h7⟩ := ba h
  exact ⟨oexB_ok h1, eqO_ok h2, of_decide_eq_true h3, of_decide_eq_true h4, of_decide_eq_true h5, eqO_ok h6, eqO_ok h7, top, ms⟩
def noDigB (K : PySem.W.Frag) : Bool := PySem.W.nsOkIn K cStatics && eqO (PySem.W.nsIn K cStatics "sys.int_max_str_digits") (some none)
theorem noDigB_ok {K : PySem.W.Frag} (h : noDigB K = true) : NoDig K := ⟨(ba h).1, eqO_ok (ba h).2⟩
/-! ### constants -/
def bltB (K : PySem.W.Frag) (x : Str) (id : String) : Bool := eqO (PySem.W.nsIn K mainGlobals x) (some (some (.builtin id)))
theorem bltB_ok {K : PySem.W.Frag} {h : Heap} {mg : Str → Option Value} {x : Str} {id : String} (X : K.In h) (G : h.Ns mainGlobals mg) (c : bltB K x id = true) : mg x = some (.builtin id) := PySem.W.mg_of X G (eqO_ok c)
/-- a tuple of the module, of plain leaves -/
theorem ct_of {K : PySem.W.Frag} {h : Heap} {mg : Str → Option Value} {x : Str} {vs : List Dv} {ds : List PyData} (X : K.In h) (G : h.Ns mainGlobals mg) (g : (Fa.glo x).ok K = true) (t : tupB K x vs = true) (hd : ∀ F : Hp, DpAll K F (vs.map (Dv.v K)) ds) : CT K mg x (ga K x) (.tuple ds) :=
  ⟨glo_ok X G g, fun F => .tup (tupB_ok t F) (hd F)⟩
theorem cl_of {K : PySem.W.Frag} {h : Heap} {mg : Str → Option Value} {x : Str} {vs : List Dv} {ds : List PyData} (X : K.In h) (G : h.Ns mainGlobals mg) (g : (Fa.glo x).ok K = true) (t : lstB K x vs = true) (hd : ∀ F : Hp, DpAll K F (vs.map (Dv.v K)) ds) : CT K mg x (ga K x) (.list ds) :=
  ⟨glo_ok X G g, fun F => .lst (lstB_ok t F) (hd F)⟩
/-! ### the Hook -/
abbrev AlY : Type := AlD × (Bool × List FnC)
def obsY (fa : List Fa) (fn : List DefD) (sd : List SupD) (ex : PySem.W.Frag → Bool) (K : PySem.W.Frag) : AlY := (obsD fa fn K, (ex K, sd.map fun d => fnC K (d.C, some "__init__")))
def valY (fn : List DefD) (sd : List SupD) : AlY := (valD fn, (true, sd.map SupD.val))
def SaysY (fa : List Fa) (fn : List DefD) (sd : List SupD) (ex : PySem.W.Frag → Bool) (K : PySem.W.Frag) : Prop := obsY fa fn sd ex K = valY fn sd
def asY (g : Addr → Option Obj) (n : Nat) : List Addr := cStatics :: asD g n
def obsYG (n : Nat) (fa : List Fa) (fn : List DefD) (sd : List SupD) (ex : PySem.W.Frag → Bool) (g : Addr → Option Obj) : AlY := obsY fa fn sd ex (frG g (asY g n))
def hookY (n : Nat) (fa : List Fa) (fn : List DefD) (sd : List SupD) (ex : PySem.W.Frag → Bool) : PySem.W.Hook where
  α := AlY
  obs := fun s => obsYG n fa fn sd ex s.heap.get?
  val := fun _ => valY fn sd
  says := fun _ h => ∃ K : PySem.W.Frag, K.In h ∧ SaysY fa fn sd ex K
  of := fun _ _ e => ⟨_, frG_in, e⟩
  keeps := fun _ _ _ ⟨K, hK, c⟩ k => ⟨K, PySem.W.Frag.In.keeps hK k, c⟩
theorem obsYG_eq {n : Nat} {fa : List Fa} {fn : List DefD} {sd : List SupD} {ex : PySem.W.Frag → Bool} {g : Addr → Option Obj} {s : Shared} (h : ∀ a, g a = s.heap.get? a) : obsYG n fa fn sd ex g = (hookY n fa fn sd ex).obs s := by
  have e : g = s.heap.get? := funext h
  rw [e] <;> rfl
section
variable {fa : List Fa} {fn : List DefD} {sd : List SupD} {ex : PySem.W.Frag → Bool} {K : PySem.W.Frag}
theorem SaysY.d (c : SaysY fa fn sd ex K) : SaysD fa fn K := congrArg (fun z : AlY => z.1) c
theorem SaysY.more (c : SaysY fa fn sd ex K) : ex K = true := congrArg (fun z : AlY => z.2.1) c
theorem SaysY.sup (c : SaysY fa fn sd ex K) (i : Nat) {d : SupD} (h : sd[i]? = some d := by rfl) : fnC K (d.C, some "__init__") = d.val := by
  have e : sd.map (fun d => fnC K (d.C, some "__init__")) = sd.map SupD.val := congrArg (fun z : AlY => z.2.2) c
  have e2 : (sd.map fun d => fnC K (d.C, some "__init__"))[i]? = (sd.map SupD.val)[i]? := by rw [e]
  rw [List.getElem?_map, List.getElem?_map, h] at e2
  exact Option.some.inj e2
end
/-! ### defs -/
def dD (x : Str) (st : Stmt) (dfl : List Dv) : DefD := ⟨(x, none), x, x, defArgs st, defBody st, defScope st, dfl, []⟩
theorem defat {fa : List Fa} {fn : List DefD} {K : PySem.W.Frag} {h : Heap} {mg : Str → Option Value} (c : SaysD fa fn K) (X : K.In h) (G : h.Ns mainGlobals mg) {x : Str} {st : Stmt} {dfl : List Dv} (i j : Nat) (hd : fn[i]? = some (dD x st dfl) := by rfl) (hg : fa[j]? = some (.glo x) := by rfl) : DefAt K mg x st (dfl.map (Dv.v K)) := by
  obtain ⟨fd, F⟩ := c.def_ i hd
  exact ⟨_, fd, F, glo_ok X G (c.fact j hg)⟩
/-- the class's __init__ statement -/
def initOf (st : Stmt) : Stmt := match st with
  | .ClassDef _ _ _ body _ _ _ _ _ _ _ => body.getD 0 (.Pass ⟨0, 0, 0, 0⟩)
  | _ => .Pass ⟨0, 0, 0, 0⟩
/-- the law's own def, its parameter told -/
structure LawX (P : Program) (w : World) (K : PySem.W.Frag) (mg : Str → Option Value) (base : Heap) (k : Nat) (st : Stmt) (R : List PyData → Res PyData → Prop) : Prop where
  ex : ∃ (f : Addr) (fd : FuncData), FunD K "law" "law" (defArgs st) (defBody st) (defScope st) [] [] f fd ∧ mg "law" = some (.ref f) ∧ FnOk P w K mg base CX0 k f fd ["script"] (spD K R)
theorem okL {P : Program} {w : World} {K : PySem.W.Frag} {mg : Str → Option Value} {base : Heap} {st : Stmt} {N : List Str} {k : Nat} {R : List PyData → Res PyData → Prop} (D : DefAt K mg "law" st []) (S : FnScope N ["script"] (defScope st)) (len : ∀ ds r, R ds r → ds.length = (["script"] : List Str).length)
    (hb : ∀ (f : Addr) (cdv : Value) (A : Around) (outer : List Env) (s : Shared) (H : Hp) (Ex : XK), Room k (A.deeper (PyProof.Rows.envOfC "law" (defScope st) s.heap.objs.size f cdv)) →
      ∃ t, PSs (cxOf CX0 P w K mg base N "law" (defScope st) f cdv A outer s H Ex).nox (defBody st) t ∧ ∀ ds r, R ds r → ∃ o, Rn K (fun cls d _ H => Ex cls d H) t (dn N ds) o ∧ endsAs o r) : LawX P w K mg base (k + 1) st R := by
  obtain ⟨f, fd, F, hm⟩ := D.ex
  have hpl : (["script"] : List Str).length ≤ N.length := by have := congrArg List.length S.pre; rw [List.length_take] at this; omega
  refine ⟨f, fd, F, hm, F.ok S (fun vs H Q E h => ?_) fun cdv A outer s H vs Q E hr h => ?_⟩
  · obtain ⟨_, ds, r, _, hd, hR, _⟩ := h
    rw [dpa_len hd]; exact len ds r hR
  · obtain ⟨t, h1, h2⟩ := hb f cdv A outer s H E hr
    exact ⟨t, h1.nox, fn_read (fun ds r hR => by rw [len ds r hR]; exact hpl) h h2⟩
/-! ### own errors by name -/
section
variable {P : Program} {w : World} {K : PySem.W.Frag} {mg : Str → Option Value} {base : Heap} {C fI : Addr} {st : Stmt} {qual x f g msg : Str} {fd : FuncData} {j : Nat} {p0 p1 p2 p3 p4 p5 q1 q2 q3 q4 r1 r2 r3 r4 : Pos}
theorem supF_binds {ps : List Str} (S : SupF P K C fI qual st fd) (hb : ∀ (kV doc pm ct : Value) (an : Option Addr) (cda cc : Addr) (us : List Value), us.length = ps.length → bindArgs (PySem.W.ksFn "__init__" qual (defArgs st) (defBody st) (defScope st) .none kV doc pm an (.ref cda) ct cc) ⟨us, []⟩ = pure (ps.zip us)) : Binds K fd ps [] := by
  obtain ⟨oc, od, kV, doc, pm, ct, an, cda, cc, osl, ccl, cl, cdd, cld, ccs, csl, vs0, file, tf, rfl, _⟩ := S.ex
  exact .all (hb kV doc pm ct an cda cc)
theorem err1_of {pl : Sem Bool} (T : SupC P K mg C fI) (S : SupF P K C fI qual st fd) (xf : XfC K C) (nf : PySem.W.findIn K (.ref C) f = some none) (gl : mg x = some (.ref C))
    (I : InitText st qual fI msg j p0 p1 p2 p3 p4 p5 ["self", f] [.Assign [.Attribute (.Name "self" q1) f q2] (.Name f q3) q4] pl) (St1 : StoreText st qual fI f f q1 q2 q3 q4) (hne : f ≠ "self")
    (hb : ∀ (kV doc pm ct : Value) (an : Option Addr) (cda cc : Addr) (us : List Value), us.length = (["self", f] : List Str).length → bindArgs (PySem.W.ksFn "__init__" qual (defArgs st) (defBody st) (defScope st) .none kV doc pm an (.ref cda) ct cc) ⟨us, []⟩ = pure ((["self", f] : List Str).zip us)) : Err1 P w K mg base x C f :=
  ⟨T.ox, xf, nf, gl, fI, fd, T.iC, T.tI, init1_ok T S nf I St1 hne, supF_binds S hb⟩
theorem err2_of {pl : Sem Bool} (T : SupC P K mg C fI) (S : SupF P K C fI qual st fd) (xf : XfC K C) (nf : PySem.W.findIn K (.ref C) f = some none) (ng : PySem.W.findIn K (.ref C) g = some none) (gl : mg x = some (.ref C))
    (I : InitText st qual fI msg j p0 p1 p2 p3 p4 p5 ["self", f, g] [.Assign [.Attribute (.Name "self" q1) f q2] (.Name f q3) q4, .Assign [.Attribute (.Name "self" r1) g r2] (.Name g r3) r4] pl)
    (St1 : StoreText st qual fI f f q1 q2 q3 q4) (St2 : StoreText st qual fI g g r1 r2 r3 r4) (hne : f ≠ "self") (hne2 : g ≠ "self") (hfg : f ≠ g)
    (hb : ∀ (kV doc pm ct : Value) (an : Option Addr) (cda cc : Addr) (us : List Value), us.length = (["self", f, g] : List Str).length → bindArgs (PySem.W.ksFn "__init__" qual (defArgs st) (defBody st) (defScope st) .none kV doc pm an (.ref cda) ct cc) ⟨us, []⟩ = pure ((["self", f, g] : List Str).zip us)) : Err2 P w K mg base x C f g :=
  ⟨T.ox, xf, nf, ng, gl, fI, fd, T.iC, T.tI, init2_ok T S nf ng I St1 St2 hne hne2 hfg, supF_binds S hb⟩
end
/-- the law's end: from the law's contract -/
theorem law_of {l : PySem.W.OpenLaw} {k : Nat} {q : Program} {loose : List Str} {XP : (Str → Option Value) → Heap → Prop} {YP : World → Heap → Prop} {d : DefRec} {st : Stmt} {R : List PyData → Res PyData → Prop}
    (hn : l.most = some 63) (hdf : d.params.defaults = []) (hr : Room k callerA) (hnm : d.name = ("law" : Str))
    (hR : ∀ ns : List Int, ns.length ≤ 63 → R [.list (ns.map .int)] (.ok (.bool true)))
    (hb : ∀ (kV doc pm : Value) (an : Option Addr) (cdv ct : Value) (us : List Value), us.length = (["script"] : List Str).length → bindArgs (PySem.W.fnOf "law" "law" (defArgs st) (defBody st) (defScope st) .none kV doc pm an cdv ct) ⟨us, []⟩ = pure ((["script"] : List Str).zip us))
    (F : ∀ (w : World) (mg : Str → Option Value) (h : Heap), YP w h → h.Ns mainGlobals mg → ∃ K : PySem.W.Frag, K.In h ∧ DefAt K mg "law" st [] ∧ ∀ base : Heap, K.In base → base.Ns mainGlobals mg → LawX l.prog w K mg base k st R) :
    PySem.W.WalkO q loose XP YP l.row.toRowW d [] (fun f vs => PySem.call f vs) := by
  refine L2.walk_ofE (l := l) (n := 63) (k := k) (x := "script") (CX := L2.CX0) hn (by decide) hdf hr ?F (fun _ _ _ _ z => z)
  intro w mg fa h Y G hmg
  rw [hnm] at hmg
  obtain ⟨K, KX, D, C⟩ := F w mg h Y G
  obtain ⟨f0, fd0, F0, hm0⟩ := D.ex
  have e := hmg.symm.trans hm0
  cases e
  refine ⟨K, fd0, spD K R, KX, fun s v => FunD.bindsA (ps := ["script"]) F0 hb s [v] rfl, fun H a ns hl _ hS => ⟨H, _, _, Same.refl _, .cons (.lst hS (ints_dpAll ns)) .nil, hR ns hl, fun v F' H' _ dv => by cases dv; rfl⟩, fun base X1 G1 => ?_⟩
  obtain ⟨f, fd, Fd, hm, hF⟩ := (C base X1 G1).ex
  rw [hm0] at hm
  cases hm
  have same : fd = fd0 := by
    obtain ⟨oc, od, dV, kV, doc, pm, an, cdv, ct, osl, e1, lk, _⟩ := Fd.ex
    obtain ⟨oc', od', dV', kV', doc', pm', an', cdv', ct', osl', e2, lk', _⟩ := F0.ex
    rw [lk] at lk'
    have z := Option.some.inj lk'
    injection z with _ _ z3 _
    injection z3
  rw [← same]
  exact hF
end DL
/-! ### the reading tactics -/
local macro_rules | `(tactic| walk_at "sz") => `(tactic| first
  | assumption
  | (apply DL.Sz.neg
     · walk_at "sz")
  | (apply DL.Sz.mul
     · walk_at "sz"
     · walk_at "sz")
  | (apply DL.Sz.add
     · walk_at "sz"
     · walk_at "sz")
  | (apply DL.Sz.sub
     · walk_at "sz"
     · walk_at "sz")
  | (apply DL.Sz.fmod
     · decide
     · walk_at "sz")
  | exact DL.Sz.self)
local macro_rules | `(tactic| walk_at "side") => `(tactic| first
  | assumption
  | (apply DL.cmulW_of
     · walk_at "sz"
     · walk_at "sz"
     · first | decide +kernel | omega)
  | rfl
  | decide
  | omega
  | (simp only [List.length_cons, List.length_nil]; decide)
  | (simp; done)
  | (simp only [PySem.sizeLine_eq, List.length_cons, List.length_nil]; omega))
local macro_rules | `(tactic| walk_at "rd") => `(tactic| first
  | exact DL.rd_addI
  | exact DL.rd_sub
  | exact DL.rd_mulL (by decide) (by decide)
  | exact DL.rd_mulR (by decide) (by decide)
  | (refine DL.rd_mulI ?_
     · walk_at "side")
  | exact DL.rd_pow ⟨by decide, by decide, by decide⟩
  | exact DL.rd_mod (by show (_ : Int) ≠ _; first | decide | assumption)
  | exact DL.rd_ix_T rfl
  | exact DL.rd_ix_L rfl
  | exact DL.rd_eqI
  | exact DL.rd_inC
  | exact DL.rd_niC
  | exact DL.rd_ix_S (by assumption) (by assumption)
  | exact DL.rd_neI
  | exact DL.rd_eqT
  | exact DL.rd_neT
  | exact DL.rd_eqB
  | exact DL.rd_I0b
  | (refine DL.rd_addS ?_
     · walk_at "side")
  | (refine DL.rd_addT ?_
     · walk_at "side")
  | (refine DL.rd_fdiv ?_ ?_
     · walk_at "side"
     · walk_at "side")
  | (refine DL.rd_mod ?_
     · walk_at "side")
  | assumption)
local macro_rules | `(tactic| walk_at "rc") => `(tactic| first
  | exact DL.rc_gcd
  | exact DL.rc_abs
  | exact DL.rc_max2
  | exact DL.rc_intV
  | exact DL.rc_intB
  | exact DL.rc_len_t
  | exact DL.rc_list_l
  | exact DL.rc_list_t
  | exact DL.rc_tup_l
  | exact DL.rc_len_l
  | (apply DL.rc_len_s
     · walk_at "side")
  | (apply DL.rc_str
     · walk_at "side")
  | assumption)
local macro_rules | `(tactic| walk_at "call") => `(tactic| first
  | exact ⟨_, rfl, by assumption, rfl⟩
  | exact ⟨_, rfl, rfl⟩
  | exact ⟨_, _, rfl, rfl⟩
  | assumption
  | fail "call: no contract")
local macro_rules | `(tactic| walk_at "ep") => `(tactic| first
  | with_reducible exact DL.ep_no
  | (with_reducible apply DL.ep_some
     · walk_at "ev"))
local macro_rules | `(tactic| walk_at "ev") => `(tactic| first
  | assumption
  | (with_reducible apply DL.ev_var
     · rfl)
  | with_reducible exact DL.ev_int
  | with_reducible exact DL.ev_str
  | with_reducible exact DL.ev_bl
  | with_reducible exact DL.ev_non
  | with_reducible exact DL.ea_nil
  | exact DL.ev_glob (by assumption)
  | (with_reducible apply DL.ev_op
     · walk_at "ev"
     · walk_at "ev"
     · walk_at "rd")
  | (with_reducible apply DL.ea_cons
     · walk_at "ev"
     · walk_at "ev")
  | (with_reducible apply DL.ev_sl
     · walk_at "ev"
     · walk_at "ep"
     · walk_at "ep"
     · first | exact DL.rs_s (by assumption) | exact DL.rs_l | exact DL.rs_t)
  | (with_reducible apply DL.ev_un
     · walk_at "ev"
     · with_reducible exact DL.ru_neg)
  | (with_reducible apply DL.ev_isiE
     · walk_at "ev"
     · first | rfl | assumption
     · rfl)
  | (with_reducible apply DL.ev_tupH
     · walk_at "ev"
     · walk_at "side")
  | (with_reducible apply DL.ev_lstH
     · walk_at "ev"
     · walk_at "side")
  | (with_reducible apply DL.ev_cb
     · walk_at "ev"
     · walk_at "rc")
  | (with_reducible apply DL.et_test
     · walk_at "ev")
  | (with_reducible apply DL.et_B
     · walk_at "ev")
  | (with_reducible apply DL.et_not
     · walk_at "ev")
  | (with_reducible apply DL.et_and
     · walk_at "ev"
     · (intro _; walk_at "ev"))
  | (with_reducible apply DL.et_or
     · walk_at "ev"
     · (intro _; walk_at "ev"))
  | (with_reducible apply DL.ev_xf
     · rfl
     · rfl)
  | (with_reducible apply DL.ev_isN
     · walk_at "ev")
  | (with_reducible apply DL.ev_notN
     · walk_at "ev")
  | (with_reducible apply DL.ev_andV
     · walk_at "ev"
     · (intro _; walk_at "ev"))
  | (with_reducible apply DL.ev_orV
     · walk_at "ev"
     · (intro _; walk_at "ev"))
  | (with_reducible apply DL.ev_notV
     · walk_at "ev")
  | (with_reducible apply DL.ev_callE
     · walk_at "ev"
     · walk_at "call"
     · rfl)
  | (with_reducible apply DL.ev_callSE
     · walk_at "ev"
     · walk_at "call"
     · rfl))
local macro_rules | `(tactic| walk_at "less") => `(tactic| (
  (try simp only [List.set_cons_zero, List.set_cons_succ])
  repeat (first | exact DL.less_nil | apply DL.less_same | apply DL.less_no)))

set_option Elab.async false
set_option linter.all false
set_option maxRecDepth 100000
set_option maxHeartbeats 4000000
set_option exponentiation.threshold 10000
/-! K85A: the program's numbers. -/
namespace K85
open PySem PySem.Spec PyProof.Rows L2 DL
def topS (i : Nat) : Stmt := PySem.Challenge.rw_plansasnewscome_k85_numbers_read_and_wri.prog.main.body.getD i (.Pass ⟨0, 0, 0, 0⟩)
def wall : Int := 10 ^ 600
structure Tx (K : PySem.W.Frag) (mg : Str → Option Value) (Z0 Z1 : Addr) : Prop where
  nd : NoDig K
  n_abs : mg "abs" = none
  n_bool : mg "bool" = none
  n_int : mg "int" = none
  n_isinstance : mg "isinstance" = none
  n_len : mg "len" = none
  n_list : mg "list" = none
  n_max : mg "max" = none
  n_range : mg "range" = none
  n_str : mg "str" = none
  n_sum : mg "sum" = none
  n_tuple : mg "tuple" = none
  m_gcd : mg "gcd" = some (.builtin "math.gcd")
  c_ZERO : CT K mg "ZERO" Z0 (.tuple [.int 0, .int 1])
  c_ONE : CT K mg "ONE" Z1 (.tuple [.int 1, .int 1])
  c_MOST_FIGURES : CI mg "MOST_FIGURES" 600
  c_WALL : CI mg "WALL" wall
  c_DIGITS : CS mg "DIGITS" "0123456789"

/-! ### what is reckoned -/
/-- a ratio in its lowest terms -/
def nrm (t b : Int) : Int × Int :=
  let p : Int := if b < 0 then -((Nat.gcd t.natAbs b.natAbs : Nat) : Int) else ((Nat.gcd t.natAbs b.natAbs : Nat) : Int)
  (t.fdiv p, b.fdiv p)
def qadd (a b : Int × Int) : Int × Int := nrm (a.1 * b.2 + b.1 * a.2) (a.2 * b.2)
def qsub (a b : Int × Int) : Int × Int := nrm (a.1 * b.2 - b.1 * a.2) (a.2 * b.2)
def qmul (a b : Int × Int) : Int × Int := nrm (a.1 * b.1) (a.2 * b.2)
def qdiv (a b : Int × Int) : Int × Int := nrm (a.1 * b.2) (a.2 * b.1)
def qcmp (a b : Int × Int) : Int := if a.1 * b.2 - b.1 * a.2 < 0 then -1 else if a.1 * b.2 - b.1 * a.2 > 0 then 1 else 0
/-- of at most n bits, above a bottom that is not 0 -/
structure Qz (n : Nat) (p : Int × Int) : Prop where
  t : Sz n p.1
  b : Sz n p.2
  z : p.2 ≠ 0
def isWh : PyData → Bool
  | .int _ => true
  | _ => false
def isRt : PyData → Bool
  | .tuple [.int a, .int b] => decide (1 ≤ b) && decide (((Nat.gcd a.natAbs b.natAbs : Nat) : Int) = 1)
  | _ => false
def eB (C : Addr) (d : PyData) : Exn := ⟨C, [("value", d)]⟩
def R_ratio (C : Addr) (ds : List PyData) (r : Res PyData) : Prop := ∃ t b : Int, ds = [.int t, .int b] ∧ Sz 6100 t ∧ Sz 6100 b ∧ r = if b = 0 then .error (eB C (.int b)) else .ok (rat (nrm t b))
def RQ (n : Nat) (f : Int × Int → Int × Int → PyData) (ds : List PyData) (r : Res PyData) : Prop := ∃ a b : Int × Int, ds = [rat a, rat b] ∧ Qz n a ∧ Qz n b ∧ r = .ok (f a b)
def R_over (C : Addr) (ds : List PyData) (r : Res PyData) : Prop := ∃ a b : Int × Int, ds = [rat a, rat b] ∧ Qz 3000 a ∧ Qz 3000 b ∧ r = if b.1 = 0 then .error (eB C (rat b)) else .ok (rat (qdiv a b))
def R1 (f : PyData → PyData) (ds : List PyData) (r : Res PyData) : Prop := ∃ d, ds = [d] ∧ r = .ok (f d)
theorem gcd_ne {t b : Int} (h : b ≠ 0) : ((Nat.gcd t.natAbs b.natAbs : Nat) : Int) ≠ 0 := by
  have : 0 < Nat.gcd t.natAbs b.natAbs := Nat.gcd_pos_of_pos_right _ (by omega)
  omega
theorem gcd_sz {t b : Int} {n : Nat} (h : b ≠ 0) (hb : Sz n b) : Sz n ((Nat.gcd t.natAbs b.natAbs : Nat) : Int) := by
  unfold Sz at *
  have : Nat.gcd t.natAbs b.natAbs ≤ b.natAbs := Nat.le_of_dvd (by omega) (Nat.gcd_dvd_right ..)
  rw [Int.natAbs_natCast]
  omega
theorem sz_fits {n : Nat} {b : Int} (h : Sz n b) (hn : n < 9000 := by decide) : b.natAbs.log2 < 9000 := Nat.lt_of_le_of_lt h.log hn
theorem ratio_ok {C : Addr} {t b : Int} {r : Res PyData} (h1 : Sz 6100 t) (h2 : Sz 6100 b) (hb : b ≠ 0) (hr : r = .ok (rat (nrm t b))) : R_ratio C [.int t, .int b] r := ⟨t, b, rfl, h1, h2, by rw [if_neg hb]; exact hr⟩
section
variable {P : Program} {w : World} {K : PySem.W.Frag} {mg : Str → Option Value} {base : Heap} {Z0 Z1 CB CM : Addr}

abbrev s_ratio : Stmt := topS 11
theorem sc_ratio : FnScope ["top", "bottom", "part"] ["top", "bottom"] (defScope s_ratio) := ⟨rfl, rfl, rfl, by decide +kernel, rfl, by decide +kernel, by decide +kernel⟩
theorem len_ratio : ∀ ds r, (R_ratio CB) ds r → ds.length = (["top", "bottom"] : List Str).length := by
  rintro _ _ ⟨_, _, rfl, _⟩; rfl
theorem ok_ratio (T : Tx K mg Z0 Z1) (D : DefAt K mg "ratio" s_ratio [.int 1]) {dv2 : List V} (b : BindH K "ratio" s_ratio ["top", "bottom"] [.int 1] dv2) (e_BadNumber : Err1 P w K mg base "BadNumber" CB "value") : CalX P w K mg base (L2N.CX P w) 2 "ratio" dv2 (R_ratio CB) := by
  refine okR D b sc_ratio len_ratio fun f cdv A outer s H Ex hr => ⟨_, (pss_cons (ps_if (pt_cmpR (op_eqU (hu64 hr)) (pv 1) pe_int (nomark _)) (pss_one (L2N.ps_raise rfl (L2N.takes_of rfl rfl rfl rfl) (pmk_e1 e_BadNumber hr (by decide) (pa_cons (pv 1) pa_nil)))) pss_nil)
    (pss_cons (ps_set (i := 2) sc_ratio.nd rfl (by first | exact Or.inl rfl | exact Or.inr rfl) (pe_callBfun cr_gcd (by rfl) T.m_gcd (pa_cons (pv 0) (pa_cons (pv 1) pa_nil))))
    (pss_cons (ps_if (pt_cmpR op_lt (pv 1) pe_int (nomark _)) (pss_one (ps_set (i := 2) sc_ratio.nd rfl (by first | exact Or.inl rfl | exact Or.inr rfl) (pe_un un_neg (pv 2)))) pss_nil)
    (pss_one (ps_ret (pe_tup (pa_cons (pe_op op_fdivX (pv 0) (pv 2)) (pa_cons (pe_op op_fdivX (pv 1) (pv 2)) pa_nil)))))))), ?_⟩

  rintro ds r ⟨t, b, rfl, h1, h2, rfl⟩
  by_cases hb : b = 0
  · rw [if_pos hb]
    exact ⟨.ex _ _, rn_seqX (rn_ifT' (by walk_at "ev") (by simpa using hb) (rn_raise1 (by walk_at "ev"))), rfl⟩
  · rw [if_neg hb]
    have g0 := gcd_ne (t := t) hb
    have g1 := sz_fits (gcd_sz (t := t) hb h2)
    by_cases hn : b < 0
    · have g0' : -((Nat.gcd t.natAbs b.natAbs : Nat) : Int) ≠ 0 := by omega
      have g1' : (-((Nat.gcd t.natAbs b.natAbs : Nat) : Int)).natAbs.log2 < 9000 := by rw [Int.natAbs_neg]; exact g1
      refine ⟨.rt _, rn_seq (rn_ifF' (by walk_at "ev") (by simpa using hb) rn_next) (rn_seq (rn_asgE (by walk_at "ev") rfl) (rn_seq (rn_ifT' (by walk_at "ev") (by simpa using hn) (rn_asgE (by walk_at "ev") rfl)) (rn_ret (by walk_at "ev")))), ?_⟩
      show Except.ok (rat (nrm t b)) = _
      unfold nrm; rw [if_pos hn]
    · refine ⟨.rt _, rn_seq (rn_ifF' (by walk_at "ev") (by simpa using hb) rn_next) (rn_seq (rn_asgE (by walk_at "ev") rfl) (rn_seq (rn_ifF' (by walk_at "ev") (by simpa using hn) rn_next) (rn_ret (by walk_at "ev")))), ?_⟩
      show Except.ok (rat (nrm t b)) = _
      unfold nrm; rw [if_neg hn]
abbrev s_plus : Stmt := topS 12
theorem sc_plus : FnScope ["a", "b"] ["a", "b"] (defScope s_plus) := ⟨rfl, rfl, rfl, by decide +kernel, rfl, by decide +kernel, by decide +kernel⟩
theorem len_plus : ∀ ds r, (RQ 3000 fun a b => rat (qadd a b)) ds r → ds.length = (["a", "b"] : List Str).length := by
  rintro _ _ ⟨_, _, rfl, _⟩; rfl
theorem ok_plus (T : Tx K mg Z0 Z1) (D : DefAt K mg "plus" s_plus []) (c_ratio : CalX P w K mg base (L2N.CX P w) 2 "ratio" [] (R_ratio CB)) : CalX P w K mg base CX0 3 "plus" [] (RQ 3000 fun a b => rat (qadd a b)) := by
  refine okN D (bind0 (fun _ _ _ _ _ _ us hl => match us, hl with | [_, _], _ => rfl)) sc_plus len_plus fun f cdv A outer s H Ex hr => ⟨_, (pss_one (ps_ret (pe_cal c_ratio hr (by decide) (fun σ => pLN σ) (pa_cons (pe_op op_addU (pe_op op_mulU (pe_ix ix_seq (pv 0) pe_int (fun _ _ => rfl)) (pe_ix ix_seq (pv 1) pe_int (fun _ _ => rfl))) (pe_op op_mulU (pe_ix ix_seq (pv 1) pe_int (fun _ _ => rfl)) (pe_ix ix_seq (pv 0) pe_int (fun _ _ => rfl)))) (pa_cons (pe_op op_mulU (pe_ix ix_seq (pv 0) pe_int (fun _ _ => rfl)) (pe_ix ix_seq (pv 1) pe_int (fun _ _ => rfl))) pa_nil))))), ?_⟩

  rintro ds r ⟨a, b, rfl, ha, hb, rfl⟩
  have a1 := ha.t; have a2 := ha.b; have b1 := hb.t; have b2 := hb.b
  have hz : a.2 * b.2 ≠ 0 := Int.mul_ne_zero ha.z hb.z
  refine ⟨.rt _, rn_ret (ev_call0 (by walk_at "ev") (ratio_ok (Sz.mono (by walk_at "sz") (by decide)) (Sz.mono (by walk_at "sz") (by decide)) hz rfl)), rfl⟩
abbrev s_minus : Stmt := topS 13
theorem sc_minus : FnScope ["a", "b"] ["a", "b"] (defScope s_minus) := ⟨rfl, rfl, rfl, by decide +kernel, rfl, by decide +kernel, by decide +kernel⟩
theorem len_minus : ∀ ds r, (RQ 3000 fun a b => rat (qsub a b)) ds r → ds.length = (["a", "b"] : List Str).length := by
  rintro _ _ ⟨_, _, rfl, _⟩; rfl
theorem ok_minus (T : Tx K mg Z0 Z1) (D : DefAt K mg "minus" s_minus []) (c_ratio : CalX P w K mg base (L2N.CX P w) 2 "ratio" [] (R_ratio CB)) : CalX P w K mg base CX0 3 "minus" [] (RQ 3000 fun a b => rat (qsub a b)) := by
  refine okN D (bind0 (fun _ _ _ _ _ _ us hl => match us, hl with | [_, _], _ => rfl)) sc_minus len_minus fun f cdv A outer s H Ex hr => ⟨_, (pss_one (ps_ret (pe_cal c_ratio hr (by decide) (fun σ => pLN σ) (pa_cons (pe_op op_sub (pe_op op_mulU (pe_ix ix_seq (pv 0) pe_int (fun _ _ => rfl)) (pe_ix ix_seq (pv 1) pe_int (fun _ _ => rfl))) (pe_op op_mulU (pe_ix ix_seq (pv 1) pe_int (fun _ _ => rfl)) (pe_ix ix_seq (pv 0) pe_int (fun _ _ => rfl)))) (pa_cons (pe_op op_mulU (pe_ix ix_seq (pv 0) pe_int (fun _ _ => rfl)) (pe_ix ix_seq (pv 1) pe_int (fun _ _ => rfl))) pa_nil))))), ?_⟩

  rintro ds r ⟨a, b, rfl, ha, hb, rfl⟩
  have a1 := ha.t; have a2 := ha.b; have b1 := hb.t; have b2 := hb.b
  have hz : a.2 * b.2 ≠ 0 := Int.mul_ne_zero ha.z hb.z
  refine ⟨.rt _, rn_ret (ev_call0 (by walk_at "ev") (ratio_ok (Sz.mono (by walk_at "sz") (by decide)) (Sz.mono (by walk_at "sz") (by decide)) hz rfl)), rfl⟩
abbrev s_times : Stmt := topS 14
theorem sc_times : FnScope ["a", "b"] ["a", "b"] (defScope s_times) := ⟨rfl, rfl, rfl, by decide +kernel, rfl, by decide +kernel, by decide +kernel⟩
theorem len_times : ∀ ds r, (RQ 3000 fun a b => rat (qmul a b)) ds r → ds.length = (["a", "b"] : List Str).length := by
  rintro _ _ ⟨_, _, rfl, _⟩; rfl
theorem ok_times (T : Tx K mg Z0 Z1) (D : DefAt K mg "times" s_times []) (c_ratio : CalX P w K mg base (L2N.CX P w) 2 "ratio" [] (R_ratio CB)) : CalX P w K mg base CX0 3 "times" [] (RQ 3000 fun a b => rat (qmul a b)) := by
  refine okN D (bind0 (fun _ _ _ _ _ _ us hl => match us, hl with | [_, _], _ => rfl)) sc_times len_times fun f cdv A outer s H Ex hr => ⟨_, (pss_one (ps_ret (pe_cal c_ratio hr (by decide) (fun σ => pLN σ) (pa_cons (pe_op op_mulU (pe_ix ix_seq (pv 0) pe_int (fun _ _ => rfl)) (pe_ix ix_seq (pv 1) pe_int (fun _ _ => rfl))) (pa_cons (pe_op op_mulU (pe_ix ix_seq (pv 0) pe_int (fun _ _ => rfl)) (pe_ix ix_seq (pv 1) pe_int (fun _ _ => rfl))) pa_nil))))), ?_⟩

  rintro ds r ⟨a, b, rfl, ha, hb, rfl⟩
  have a1 := ha.t; have a2 := ha.b; have b1 := hb.t; have b2 := hb.b
  have hz : a.2 * b.2 ≠ 0 := Int.mul_ne_zero ha.z hb.z
  refine ⟨.rt _, rn_ret (ev_call0 (by walk_at "ev") (ratio_ok (Sz.mono (by walk_at "sz") (by decide)) (Sz.mono (by walk_at "sz") (by decide)) hz rfl)), rfl⟩
abbrev s_over : Stmt := topS 15
theorem sc_over : FnScope ["a", "b"] ["a", "b"] (defScope s_over) := ⟨rfl, rfl, rfl, by decide +kernel, rfl, by decide +kernel, by decide +kernel⟩
theorem len_over : ∀ ds r, (R_over CB) ds r → ds.length = (["a", "b"] : List Str).length := by
  rintro _ _ ⟨_, _, rfl, _⟩; rfl
theorem ok_over (T : Tx K mg Z0 Z1) (D : DefAt K mg "over" s_over []) (c_ratio : CalX P w K mg base (L2N.CX P w) 2 "ratio" [] (R_ratio CB)) (e_BadNumber : Err1 P w K mg base "BadNumber" CB "value") : CalX P w K mg base (L2N.CX P w) 3 "over" [] (R_over CB) := by
  refine okR D (bind0 (fun _ _ _ _ _ _ us hl => match us, hl with | [_, _], _ => rfl)) sc_over len_over fun f cdv A outer s H Ex hr => ⟨_, (pss_cons (ps_if (pt_cmpR (op_eqU (hu64 hr)) (pe_ix ix_seq (pv 1) pe_int (fun _ _ => rfl)) pe_int (nomark _)) (pss_one (L2N.ps_raise rfl (L2N.takes_of rfl rfl rfl rfl) (pmk_e1 e_BadNumber hr (by decide) (pa_cons (pv 1) pa_nil)))) pss_nil)
    (pss_one (ps_ret (pe_cal c_ratio hr (by decide) (fun σ => pLN σ) (pa_cons (pe_op op_mulU (pe_ix ix_seq (pv 0) pe_int (fun _ _ => rfl)) (pe_ix ix_seq (pv 1) pe_int (fun _ _ => rfl))) (pa_cons (pe_op op_mulU (pe_ix ix_seq (pv 0) pe_int (fun _ _ => rfl)) (pe_ix ix_seq (pv 1) pe_int (fun _ _ => rfl))) pa_nil)))))), ?_⟩

  rintro ds r ⟨a, b, rfl, ha, hb, rfl⟩
  have a1 := ha.t; have a2 := ha.b; have b1 := hb.t; have b2 := hb.b
  by_cases h0 : b.1 = 0
  · rw [if_pos h0]
    exact ⟨.ex _ _, rn_seqX (rn_ifT' (by walk_at "ev") (by simpa using h0) (rn_raise1 (by walk_at "ev"))), rfl⟩
  · rw [if_neg h0]
    have hz : a.2 * b.1 ≠ 0 := Int.mul_ne_zero ha.z h0
    exact ⟨.rt _, rn_seq (rn_ifF' (by walk_at "ev") (by simpa using h0) rn_next) (rn_ret (ev_call0 (by walk_at "ev") (ratio_ok (Sz.mono (by walk_at "sz") (by decide)) (Sz.mono (by walk_at "sz") (by decide)) hz rfl))), rfl⟩
abbrev s_compare : Stmt := topS 16
theorem sc_compare : FnScope ["a", "b", "gap"] ["a", "b"] (defScope s_compare) := ⟨rfl, rfl, rfl, by decide +kernel, rfl, by decide +kernel, by decide +kernel⟩
theorem len_compare : ∀ ds r, (RQ 3000 fun a b => .int (qcmp a b)) ds r → ds.length = (["a", "b"] : List Str).length := by
  rintro _ _ ⟨_, _, rfl, _⟩; rfl
theorem ok_compare (T : Tx K mg Z0 Z1) (D : DefAt K mg "compare" s_compare [])  : CalX P w K mg base CX0 1 "compare" [] (RQ 3000 fun a b => .int (qcmp a b)) := by
  refine okN D (bind0 (fun _ _ _ _ _ _ us hl => match us, hl with | [_, _], _ => rfl)) sc_compare len_compare fun f cdv A outer s H Ex hr => ⟨_, (pss_cons (ps_set (i := 2) sc_compare.nd rfl (by first | exact Or.inl rfl | exact Or.inr rfl) (pe_op op_sub (pe_op op_mulU (pe_ix ix_seq (pv 0) pe_int (fun _ _ => rfl)) (pe_ix ix_seq (pv 1) pe_int (fun _ _ => rfl))) (pe_op op_mulU (pe_ix ix_seq (pv 1) pe_int (fun _ _ => rfl)) (pe_ix ix_seq (pv 0) pe_int (fun _ _ => rfl)))))
    (pss_cons (ps_if (pt_cmpR op_lt (pv 2) pe_int (nomark _)) (pss_one (ps_ret (pe_un un_neg pe_int))) pss_nil)
    (pss_cons (ps_if (pt_cmpR op_gt (pv 2) pe_int (nomark _)) (pss_one (ps_ret pe_int)) pss_nil)
    (pss_one (ps_ret pe_int))))), ?_⟩

  rintro ds r ⟨a, b, rfl, ha, hb, rfl⟩
  have a1 := ha.t; have a2 := ha.b; have b1 := hb.t; have b2 := hb.b
  by_cases h0 : a.1 * b.2 - b.1 * a.2 < 0
  · refine ⟨.rt _, rn_seq (rn_asgE (by walk_at "ev") rfl) (rn_seqR (rn_ifT' (by walk_at "ev") (by simpa using h0) (rn_ret (by walk_at "ev")))), ?_⟩
    show Except.ok (PyData.int (qcmp a b)) = _
    unfold qcmp; rw [if_pos h0]
  · by_cases h1 : a.1 * b.2 - b.1 * a.2 > 0
    · refine ⟨.rt _, rn_seq (rn_asgE (by walk_at "ev") rfl) (rn_seq (rn_ifF' (by walk_at "ev") (by simpa using h0) rn_next) (rn_seqR (rn_ifT' (by walk_at "ev") (by simpa using h1) (rn_ret (by walk_at "ev"))))), ?_⟩
      show Except.ok (PyData.int (qcmp a b)) = _
      unfold qcmp; rw [if_neg h0, if_pos h1]
    · refine ⟨.rt _, rn_seq (rn_asgE (by walk_at "ev") rfl) (rn_seq (rn_ifF' (by walk_at "ev") (by simpa using h0) rn_next) (rn_seq (rn_ifF' (by walk_at "ev") (by simpa using h1) rn_next) (rn_ret (by walk_at "ev")))), ?_⟩
      show Except.ok (PyData.int (qcmp a b)) = _
      unfold qcmp; rw [if_neg h0, if_neg h1]
abbrev s_is_whole : Stmt := topS 18
theorem sc_is_whole : FnScope ["value"] ["value"] (defScope s_is_whole) := ⟨rfl, rfl, rfl, by decide +kernel, rfl, by decide +kernel, by decide +kernel⟩
theorem len_is_whole : ∀ ds r, (R1 fun d => .bool (isWh d)) ds r → ds.length = (["value"] : List Str).length := by
  rintro _ _ ⟨_, rfl, _⟩; rfl
theorem ok_is_whole (T : Tx K mg Z0 Z1) (D : DefAt K mg "is_whole" s_is_whole [])  : CalX P w K mg base CX0 1 "is_whole" [] (R1 fun d => .bool (isWh d)) := by
  refine okN D (bind0 (fun _ _ _ _ _ _ us hl => match us, hl with | [_], _ => rfl)) sc_is_whole len_is_whole fun f cdv A outer s H Ex hr => ⟨_, (pss_one (ps_ret (pe_and (pe_callB call_isi (by rfl) T.n_isinstance (by decide +kernel) (pa_cons (pv 0) (pa_cons (pe_bltn (v := .ty "int") (u := .type "int") (by rfl) T.n_int (by decide +kernel) rfl) pa_nil))) (pe_one (pe_not (pe_callB call_isi (by rfl) T.n_isinstance (by decide +kernel) (pa_cons (pv 0) (pa_cons (pe_bltn (v := .ty "bool") (u := .type "bool") (by rfl) T.n_bool (by decide +kernel) rfl) pa_nil)))))))), ?_⟩

  rintro ds r ⟨d, rfl, rfl⟩
  cases d <;> refine ⟨.rt _, rn_ret (by walk_at "ev"), ?_⟩ <;> rfl
abbrev s_is_ratio : Stmt := topS 19
theorem sc_is_ratio : FnScope ["value"] ["value"] (defScope s_is_ratio) := ⟨rfl, rfl, rfl, by decide +kernel, rfl, by decide +kernel, by decide +kernel⟩
theorem len_is_ratio : ∀ ds r, (R1 fun d => .bool (isRt d)) ds r → ds.length = (["value"] : List Str).length := by
  rintro _ _ ⟨_, rfl, _⟩; rfl
theorem ok_is_ratio (T : Tx K mg Z0 Z1) (D : DefAt K mg "is_ratio" s_is_ratio []) (c_is_whole : CalX P w K mg base CX0 1 "is_whole" [] (R1 fun d => .bool (isWh d))) : CalX P w K mg base CX0 2 "is_ratio" [] (R1 fun d => .bool (isRt d)) := by
  refine okN D (bind0 (fun _ _ _ _ _ _ us hl => match us, hl with | [_], _ => rfl)) sc_is_ratio len_is_ratio fun f cdv A outer s H Ex hr => ⟨_, (pss_cons (ps_if (PW.pt (pw_or (pt_not (pt_val (pe_callB call_isi (by rfl) T.n_isinstance (by decide +kernel) (pa_cons (pv 0) (pa_cons (pe_bltn (v := .ty "tuple") (u := .type "tuple") (by rfl) T.n_tuple (by decide +kernel) rfl) pa_nil))))) (pw_or1 (pt_cmpR (op_neU (hu64 hr)) (pe_callB call_len (by rfl) T.n_len (by decide +kernel) (pa_cons (pv 0) pa_nil)) pe_int (nomark _))))) (pss_one (ps_ret pe_bl)) pss_nil)
    (pss_cons (ps_if (PW.pt (pw_or (pt_not (pt_val (pe_cal c_is_whole hr (by decide) (fun σ => p0At σ) (pa_cons (pe_ix ix_seq (pv 0) pe_int (fun _ _ => rfl)) pa_nil)))) (pw_or1 (pt_not (pt_val (pe_cal c_is_whole hr (by decide) (fun σ => p0At σ) (pa_cons (pe_ix ix_seq (pv 0) pe_int (fun _ _ => rfl)) pa_nil))))))) (pss_one (ps_ret pe_bl)) pss_nil)
    (pss_one (ps_ret (pe_and (pe_cmpR op_ge (pe_ix ix_seq (pv 0) pe_int (fun _ _ => rfl)) pe_int (nomark _)) (pe_one (pe_cmpR (op_eqU (hu64 hr)) (pe_callBfun cr_gcd (by rfl) T.m_gcd (pa_cons (pe_ix ix_seq (pv 0) pe_int (fun _ _ => rfl)) (pa_cons (pe_ix ix_seq (pv 0) pe_int (fun _ _ => rfl)) pa_nil))) pe_int (nomark _)))))))), ?_⟩

  rintro ds r ⟨d, rfl, rfl⟩
  by_cases ht : ∃ l, d = .tuple l
  · obtain ⟨l, rfl⟩ := ht
    by_cases h2 : l.length = 2
    · obtain ⟨x, y, rfl⟩ : ∃ x y, l = [x, y] := by
        match l, h2 with
        | [x, y], _ => exact ⟨x, y, rfl⟩
      by_cases hw : isWh x = true ∧ isWh y = true
      · obtain ⟨a, rfl⟩ : ∃ a, x = .int a := by
          cases x <;> first | exact ⟨_, rfl⟩ | exact absurd hw.1 (by simp [isWh])
        obtain ⟨b, rfl⟩ : ∃ a, y = .int a := by
          cases y <;> first | exact ⟨_, rfl⟩ | exact absurd hw.2 (by simp [isWh])
        refine ⟨.rt _, rn_seq (rn_ifF' (by walk_at "ev") (by rfl) rn_next) (rn_seq (rn_ifF' (by walk_at "ev") (by rfl) rn_next) (rn_ret (by walk_at "ev"))), ?_⟩
        show Except.ok (PyData.bool (isRt _)) = _
        unfold isRt
        simp
      · refine ⟨.rt _, rn_seq (rn_ifF' (by walk_at "ev") (by rfl) rn_next) (rn_seqR (rn_ifT' (by walk_at "ev") ?_ (rn_ret (by walk_at "ev")))), ?_⟩
        · cases h1 : isWh x <;> cases h2 : isWh y <;> simp_all
        · show Except.ok (PyData.bool (isRt _)) = _
          have : isRt (.tuple [x, y]) = false := by
            cases x <;> cases y <;> first | rfl | exact absurd ⟨rfl, rfl⟩ hw
          rw [this]
    · refine ⟨.rt _, rn_seqR (rn_ifT' (by walk_at "ev") (by simp; omega) (rn_ret (by walk_at "ev"))), ?_⟩
      show Except.ok (PyData.bool (isRt _)) = _
      have : isRt (.tuple l) = false := by
        unfold isRt
        split
        · rename_i e; cases e; exact absurd rfl h2
        · rfl
      rw [this]
  · have ki : kitB (tyD d) "tuple" = some false := by
      cases d <;> first | rfl | exact absurd ⟨_, rfl⟩ ht
    refine ⟨.rt _, rn_seqR (rn_ifT (et_orT (by walk_at "ev") (by rfl)) (rn_ret (by walk_at "ev"))), ?_⟩
    show Except.ok (PyData.bool (isRt _)) = _
    have : isRt d = false := by
      cases d <;> first | rfl | exact absurd ⟨_, rfl⟩ ht
    rw [this]
end
end K85
set_option Elab.async false
set_option linter.all false
set_option maxRecDepth 100000
set_option maxHeartbeats 4000000
set_option exponentiation.threshold 10000
/-! K85B: the program's texts. -/
namespace K85
open PySem PySem.Spec PyProof.Rows L2 DL
/-! ### what is reckoned of texts -/
def digB (c : Nat) : Bool := decide (48 ≤ c ∧ c ≤ 57)
def figL (l : List Nat) : Bool := decide (0 < l.length) && (decide (l.length ≤ 600) && (l.all digB && (decide (l = [48]) || !decide (l.head? = some 48))))
def figs (z : Str) : Bool := figL z.cps.toList
def bodyOf (z : Str) : Str := if cutS z none (some 1) = ("-" : Str) then cutS z (some 1) none else z
def wholeW (z : Str) : Bool := figs (bodyOf z) && !decide (z = ("-0" : Str))
def ival (z : Str) : Int := (intText? z).getD 0
def ratioL (z : Str) : List Str → Bool
  | [_] => wholeW z
  | [p, q] => wholeW p && (figs q && (decide (1 < ival q) && decide (((Nat.gcd (ival p).natAbs (ival q).natAbs : Nat) : Int) = 1)))
  | _ => false
def ratioW (z : Str) : Bool := ratioL z (Txt.split z ("/" : Str))
def numW (z : Str) : Int × Int :=
  match Txt.split z "/" with
  | [p, q] => (ival p, ival q)
  | _ => (ival z, 1)
def long (i : Int) : Bool := decide (wall ≤ i) || decide (i ≤ -wall)
def eM (C : Addr) : Exn := ⟨C, [("limit", .int 600), ("word", .str "figures")]⟩
def R_write_whole (C : Addr) (ds : List PyData) (r : Res PyData) : Prop := ∃ i : Int, ds = [.int i] ∧ r = if long i then .error (eM C) else .ok (.str (toString i))
def R_write_ratio (C : Addr) (ds : List PyData) (r : Res PyData) : Prop := ∃ p : Int × Int, ds = [rat p] ∧ r = if p.2 = 1 then (if long p.1 then .error (eM C) else .ok (.str (toString p.1))) else if long p.1 || long p.2 then .error (eM C) else .ok (.str ((toString p.1 : Str) ++ ("/" : Str) ++ (toString p.2 : Str)))
def RT (n : Nat) (f : Str → PyData) (ds : List PyData) (r : Res PyData) : Prop := ∃ z : Str, ds = [.str z] ∧ z.length ≤ n ∧ r = .ok (f z)
def R_read_whole (C : Addr) (ds : List PyData) (r : Res PyData) : Prop := ∃ z : Str, ds = [.str z] ∧ z.length ≤ 5000 ∧ r = if wholeW z then .ok (.int (ival z)) else .error (eB C (.str z))
def R_read_ratio (C : Addr) (ds : List PyData) (r : Res PyData) : Prop := ∃ z : Str, ds = [.str z] ∧ z.length ≤ 5000 ∧ r = if ratioW z then .ok (rat (numW z)) else .error (eB C (.str z))
theorem str_emp (z : Str) : z = ("" : Str) ↔ z.cps.toList = [] := by
  constructor
  · rintro rfl; rfl
  · intro h
    cases z with
    | mk a =>
      have : a = #[] := by cases a; simpa using h
      subst this; rfl
theorem z_len (z : Str) : z.length = z.cps.toList.length := by simp [Str.length]
theorem dig_mem (c : Nat) : decide (c ∈ ("0123456789" : Str).cps.toList) = digB c := by
  have e : ("0123456789" : Str).cps.toList = [48, 49, 50, 51, 52, 53, 54, 55, 56, 57] := by decide +kernel
  rw [e]
  unfold digB
  rw [decide_eq_decide]
  simp only [List.mem_cons, List.not_mem_nil, or_false]
  omega
def badD : PyData → Bool
  | .str z => z.cps.toList.any fun c => !digB c
  | _ => true
theorem any_signs (z : Str) : (DL.signs z).any badD = !(z.cps.toList.all digB) := by
  unfold DL.signs
  rw [List.any_map, List.not_all_eq_any_not]
  congr 1
  funext c
  simp [badD]
theorem signs_get {z : Str} {i : Nat} {d : PyData} (h : (DL.signs z)[i]? = some d) : ∃ c, d = .str ⟨#[c]⟩ := by
  unfold DL.signs at h
  rw [List.getElem?_map] at h
  cases e : z.cps.toList[i]? with
  | none => rw [e] at h; cases h
  | some c => rw [e] at h; cases h; exact ⟨c, rfl⟩
theorem one_eq (c : Nat) : ((⟨#[c]⟩ : Str) = ("0" : Str)) ↔ c = 48 := by
  have e : ("0" : Str) = ⟨#[48]⟩ := by decide +kernel
  rw [e]
  simp
theorem zero_eq (z : Str) : z = ("0" : Str) ↔ z.cps.toList = [48] := by
  have e : ("0" : Str) = ⟨#[48]⟩ := by decide +kernel
  rw [e]
  cases z with
  | mk a => cases a; simp
theorem long_sz {i : Int} (h : long i = false) : i.natAbs < 10 ^ 4300 := by
  have e : wall = ((10 ^ 600 : Nat) : Int) := (Int.natCast_pow 10 600).symm
  have h2 : 10 ^ 600 ≤ 10 ^ 4300 := Nat.pow_le_pow_right (by decide) (by decide)
  unfold long at h
  rw [Bool.or_eq_false_iff, decide_eq_false_iff_not, decide_eq_false_iff_not, e] at h
  generalize 10 ^ 600 = a at *
  generalize 10 ^ 4300 = b at *
  omega
theorem str_app (a b : String) : Str.ofString (a ++ b) = Str.ofString a ++ Str.ofString b := by
  apply TL.ext_tl
  rw [TL.tl_append, Str.ofString_eq_toList, Str.ofString_eq_toList, Str.ofString_eq_toList]
  simp [TL.tl]
theorem neg_text (m : Nat) : (toString (Int.negSucc m) : Str) = ("-" : Str) ++ (toString ((m + 1 : Nat) : Int) : Str) := by
  have e : toString (Int.negSucc m) = "-" ++ toString ((m + 1 : Nat) : Int) := rfl
  rw [e]
  exact str_app _ _
/-- a number that may be written has few figures -/
theorem str_len {i : Int} (h : long i = false) : (toString i : Str).length ≤ 700 := by
  have e : wall = ((10 ^ 600 : Nat) : Int) := (Int.natCast_pow 10 600).symm
  unfold long at h
  rw [Bool.or_eq_false_iff, decide_eq_false_iff_not, decide_eq_false_iff_not, e] at h
  have hn : i.natAbs < 10 ^ 600 := by
    generalize 10 ^ 600 = a at *
    omega
  have hl := TL.numL_len (n := i.natAbs) (k := 600) (by decide) hn
  rw [TL.len_tl]
  cases i with
  | ofNat m =>
    have q : TL.tl (Str.ofString (toString (Int.ofNat m))) = TL.numL m := TL.tl_num m
    rw [q]
    have : TL.numL m = TL.numL (Int.ofNat m).natAbs := rfl
    rw [this]
    exact Nat.le_trans hl (by decide)
  | negSucc m =>
    have q : (toString (Int.negSucc m) : Str) = ("-" : Str) ++ (toString ((m + 1 : Nat) : Int) : Str) := neg_text m
    rw [q, TL.tl_append, List.length_append, TL.tl_num]
    have : TL.numL (m + 1) = TL.numL (Int.negSucc m).natAbs := rfl
    rw [this]
    have l1 : (TL.tl ("-" : Str)).length = 1 := by decide +kernel
    rw [l1]
    exact Nat.le_trans (Nat.add_le_add_left hl 1) (by decide)
theorem app_len (a b : Str) : (a ++ b).length = a.length + b.length := Str.length_append a b
theorem add_fits {a b m n : Nat} (ha : a ≤ m) (hb : b ≤ n) (h : m + n ≤ 16777216 := by decide) : a + b ≤ sizeLine := by rw [sizeLine_eq]; omega
theorem sl_ok {z : Str} {n : Nat} (h : z.length ≤ n) (hn : n ≤ 16777216 := by decide) : z.length ≤ sizeLine := by
  rw [sizeLine_eq]; omega
section
variable {P : Program} {w : World} {K : PySem.W.Frag} {mg : Str → Option Value} {base : Heap} {Z0 Z1 CB CM : Addr}

abbrev s_is_figures : Stmt := topS 22
theorem sc_is_figures : FnScope ["text", "sign"] ["text"] (defScope s_is_figures) := ⟨rfl, rfl, rfl, by decide +kernel, rfl, by decide +kernel, by decide +kernel⟩
theorem len_is_figures : ∀ ds r, (RT 5000 fun z => .bool (figs z)) ds r → ds.length = (["text"] : List Str).length := by
  rintro _ _ ⟨_, rfl, _⟩; rfl
theorem ok_is_figures (T : Tx K mg Z0 Z1) (D : DefAt K mg "is_figures" s_is_figures [])  : CalX P w K mg base CX0 1 "is_figures" [] (RT 5000 fun z => .bool (figs z)) := by
  refine okN D (bind0 (fun _ _ _ _ _ _ us hl => match us, hl with | [_], _ => rfl)) sc_is_figures len_is_figures fun f cdv A outer s H Ex hr => ⟨_, (pss_cons (ps_if (PW.pt (pw_or (pt_cmpR (op_eqU (hu64 hr)) (pv 0) pe_str (nomark _)) (pw_or1 (pt_cmpR op_gt (pe_callB call_len (by rfl) T.n_len (by decide +kernel) (pa_cons (pv 0) pa_nil)) (pe_cI T.c_MOST_FIGURES) (nomark _))))) (pss_one (ps_ret pe_bl)) pss_nil)
    (pss_cons (ps_for PassesOwn.never rfl (pi_str (pv 0)) (pg_name (i := 1) sc_is_figures.nd rfl (by first | exact Or.inl rfl | exact Or.inr rfl)) (pss_one (ps_if (pt_cmpR op_notIn_sign (pv 1) (pe_cS T.c_DIGITS) (by rfl)) (pss_one (ps_ret pe_bl)) pss_nil)))
    (pss_one (ps_ret (pe_or (pe_cmpR (op_eqU (hu64 hr)) (pv 0) pe_str (nomark _)) (pe_one (pe_cmpR (op_neU (hu64 hr)) (pe_ix ix_seq (pv 0) pe_int (fun _ _ => rfl)) pe_str (nomark _)))))))), ?_⟩

  rintro ds r ⟨z, rfl, hz, rfl⟩
  have hs := sl_ok hz
  by_cases hA : z.cps.toList = [] ∨ 600 < z.length
  · refine ⟨.rt _, rn_seqR (rn_ifT' (by walk_at "ev") ?_ (rn_ret (by walk_at "ev"))), ?_⟩
    · rw [Bool.or_eq_true, decide_eq_true_eq, decide_eq_true_eq, str_emp]
      rcases hA with h | h
      · exact .inl h
      · exact .inr (by omega)
    · show Except.ok (PyData.bool (figs z)) = _
      have : figs z = false := by
        unfold figs figL
        rw [z_len] at hA
        rcases hA with h | h
        · rw [h]; rfl
        · rw [decide_eq_false (show ¬ z.cps.toList.length ≤ 600 by omega)]; simp
      rw [this]
  · have h1 : z.cps.toList ≠ [] := fun h => hA (.inl h)
    have h2 : ¬ 600 < z.length := fun h => hA (.inr h)
    obtain ⟨c, l, hc⟩ := List.exists_cons_of_ne_nil h1
    have he : atI z.cps.toList 0 = some c := by rw [hc]; exact atI_zero
    have loop := rn_all (K := K) (W := fun cls d _ H => Ex cls d H) (δ := [.val (.str z), .no]) (wi := iStr (tVar 0)) (g := gName 1) (js := [1]) (r := .bool false)
      (t := tIfS (tTest (tOp rNiC (tVar 1) (tC (.str "0123456789")))) (tRet (tC (.bl false))) tNext) badD (src_str (W := fun _ _ _ _ => False) (by walk_at "ev"))
      (fun i d hd hb => by
        obtain ⟨c, e⟩ := signs_get hd
        subst e
        refine ⟨_, _, as_name, rn_ifF' (by walk_at "ev") ?_ rn_next, by walk_at "less"⟩
        rw [dig_mem]
        simpa [badD] using hb)
      (fun i d hd hb => by
        obtain ⟨c, e⟩ := signs_get hd
        subst e
        refine ⟨_, as_name, rn_ifT' (by walk_at "ev") ?_ (rn_ret (by walk_at "ev"))⟩
        rw [dig_mem]
        simpa [badD] using hb)
    rw [any_signs] at loop
    cases hall : z.cps.toList.all digB with
    | false =>
      rw [hall] at loop
      refine ⟨.rt _, rn_seq (rn_ifF' (by walk_at "ev") ?_ rn_next) (rn_seqR loop), ?_⟩
      · rw [Bool.or_eq_false_iff, decide_eq_false_iff_not, decide_eq_false_iff_not, str_emp]
        exact ⟨h1, by omega⟩
      · show Except.ok (PyData.bool (figs z)) = _
        have : figs z = false := by
          unfold figs figL
          rw [hall]; simp
        rw [this]
    | true =>
      rw [hall] at loop
      refine ⟨.rt _, rn_seq (rn_ifF' (by walk_at "ev") ?_ rn_next) (rn_seq loop (rn_ret (by walk_at "ev"))), ?_⟩
      · rw [Bool.or_eq_false_iff, decide_eq_false_iff_not, decide_eq_false_iff_not, str_emp]
        exact ⟨h1, by omega⟩
      · show Except.ok (PyData.bool (figs z)) = _
        have : figs z = (decide (z = ("0" : Str)) || !decide ((⟨#[c]⟩ : Str) = ("0" : Str))) := by
          unfold figs figL
          rw [hall, decide_eq_true (show 0 < z.cps.toList.length by rw [hc]; simp), decide_eq_true (show z.cps.toList.length ≤ 600 by rw [← z_len]; omega)]
          simp only [Bool.true_and, one_eq, zero_eq]
          rw [hc]
          simp
        rw [this]
abbrev s_write_whole : Stmt := topS 20
theorem sc_write_whole : FnScope ["value"] ["value"] (defScope s_write_whole) := ⟨rfl, rfl, rfl, by decide +kernel, rfl, by decide +kernel, by decide +kernel⟩
theorem len_write_whole : ∀ ds r, (R_write_whole CM) ds r → ds.length = (["value"] : List Str).length := by
  rintro _ _ ⟨_, rfl, _⟩; rfl
theorem ok_write_whole (T : Tx K mg Z0 Z1) (D : DefAt K mg "write_whole" s_write_whole []) (e_TooMany : Err2 P w K mg base "TooMany" CM "word" "limit") : CalX P w K mg base (L2N.CX P w) 2 "write_whole" [] (R_write_whole CM) := by
  refine okR D (bind0 (fun _ _ _ _ _ _ us hl => match us, hl with | [_], _ => rfl)) sc_write_whole len_write_whole fun f cdv A outer s H Ex hr => ⟨_, (pss_cons (ps_if (PW.pt (pw_or (pt_cmpR op_ge (pv 0) (pe_cI T.c_WALL) (nomark _)) (pw_or1 (pt_cmpR op_le (pv 0) (pe_un un_neg (pe_cI T.c_WALL)) (nomark _))))) (pss_one (L2N.ps_raise rfl (L2N.takes_of rfl rfl rfl rfl) (pmk_e2 e_TooMany hr (by decide) (pa_cons pe_str (pa_cons (pe_cI T.c_MOST_FIGURES) pa_nil))))) pss_nil)
    (pss_one (ps_ret (pe_callTy (call_strB rfl T.nd) (by rfl) T.n_str (by decide +kernel) (pa_cons (pv 0) pa_nil))))), ?_⟩

  rintro ds r ⟨i, rfl, rfl⟩
  by_cases h : long i = true
  · rw [if_pos h]
    exact ⟨.ex _ _, rn_seqX (rn_ifT' (by walk_at "ev") (by exact h) (rn_raise2 (by walk_at "ev"))), rfl⟩
  · rw [if_neg h]
    have hs : i.natAbs < 10 ^ 4300 := by
      exact long_sz (by simpa using h)
    exact ⟨.rt _, rn_seq (rn_ifF' (by walk_at "ev") (by exact eq_false_of_ne_true h) rn_next) (rn_ret (by walk_at "ev")), rfl⟩
abbrev s_write_ratio : Stmt := topS 21
theorem sc_write_ratio : FnScope ["value"] ["value"] (defScope s_write_ratio) := ⟨rfl, rfl, rfl, by decide +kernel, rfl, by decide +kernel, by decide +kernel⟩
theorem len_write_ratio : ∀ ds r, (R_write_ratio CM) ds r → ds.length = (["value"] : List Str).length := by
  rintro _ _ ⟨_, rfl, _⟩; rfl
theorem ok_write_ratio (T : Tx K mg Z0 Z1) (D : DefAt K mg "write_ratio" s_write_ratio []) (c_write_whole : CalX P w K mg base (L2N.CX P w) 2 "write_whole" [] (R_write_whole CM)) : CalX P w K mg base (L2N.CX P w) 3 "write_ratio" [] (R_write_ratio CM) := by
  refine okR D (bind0 (fun _ _ _ _ _ _ us hl => match us, hl with | [_], _ => rfl)) sc_write_ratio len_write_ratio fun f cdv A outer s H Ex hr => ⟨_, (pss_cons (ps_if (pt_cmpR (op_eqU (hu64 hr)) (pe_ix ix_seq (pv 0) pe_int (fun _ _ => rfl)) pe_int (nomark _)) (pss_one (ps_ret (pe_cal c_write_whole hr (by decide) (fun σ => passN (L2N.takes_of rfl rfl rfl rfl) σ) (pa_cons (pe_ix ix_seq (pv 0) pe_int (fun _ _ => rfl)) pa_nil)))) pss_nil)
    (pss_one (ps_ret (pe_op op_addU (pe_op op_addU (pe_cal c_write_whole hr (by decide) (fun σ => passN (L2N.takes_of rfl rfl rfl rfl) σ) (pa_cons (pe_ix ix_seq (pv 0) pe_int (fun _ _ => rfl)) pa_nil)) pe_str) (pe_cal c_write_whole hr (by decide) (fun σ => passN (L2N.takes_of rfl rfl rfl rfl) σ) (pa_cons (pe_ix ix_seq (pv 0) pe_int (fun _ _ => rfl)) pa_nil)))))), ?_⟩

  rintro ds r ⟨p, rfl, rfl⟩
  have go : ∀ i : Int, long i = false → R_write_whole CM [.int i] (.ok (.str (toString i))) := fun i h => ⟨i, rfl, by rw [h]; rfl⟩
  have no : ∀ i : Int, long i = true → R_write_whole CM [.int i] (.error (eM CM)) := fun i h => ⟨i, rfl, by rw [h]; rfl⟩
  by_cases h1 : p.2 = 1
  · rw [if_pos h1]
    cases h : long p.1 with
    | true => exact ⟨.ex _ _, rn_seqX (rn_ifT' (by walk_at "ev") (by simpa using h1) (rn_retX (ev_callXE (by walk_at "ev") (no _ h) rfl))), rfl⟩
    | false => exact ⟨.rt _, rn_seqR (rn_ifT' (by walk_at "ev") (by simpa using h1) (rn_ret (ev_callE (by walk_at "ev") (go _ h) rfl))), rfl⟩
  · rw [if_neg h1]
    cases h : long p.1 with
    | true => exact ⟨.ex _ _, rn_seq (rn_ifF' (by walk_at "ev") (by simpa using h1) rn_next) (rn_retX (ev_opX1 (ev_opX1 (ev_callXE (by walk_at "ev") (no _ h) rfl)))), rfl⟩
    | false =>
      have l1 := str_len h
      have l4 : ("/" : Str).length ≤ 700 := by decide +kernel
      have a1 := add_fits l1 l4
      cases h2 : long p.2 with
      | true => exact ⟨.ex _ _, rn_seq (rn_ifF' (by walk_at "ev") (by simpa using h1) rn_next) (rn_retX (ev_opX2 (ev_op (ev_callE (by walk_at "ev") (go _ h) rfl) (by walk_at "ev") (rd_addS a1)) (ev_callXE (by walk_at "ev") (no _ h2) rfl))), rfl⟩
      | false =>
        have l2 := str_len h2
        have l3 : ((toString p.1 : Str) ++ ("/" : Str)).length ≤ 1400 := by rw [app_len]; exact Nat.add_le_add l1 l4
        exact ⟨.rt _, rn_seq (rn_ifF' (by walk_at "ev") (by simpa using h1) rn_next) (rn_ret (ev_op (ev_op (ev_callE (by walk_at "ev") (go _ h) rfl) (by walk_at "ev") (rd_addS a1)) (ev_callE (by walk_at "ev") (go _ h2) rfl) (rd_addS (add_fits l3 l2)))), rfl⟩
end
end K85
set_option Elab.async false
set_option linter.all false
set_option maxRecDepth 100000
set_option maxHeartbeats 4000000
set_option exponentiation.threshold 10000
/-! K85C: texts read. -/
namespace K85
open PySem PySem.Spec PyProof.Rows L2 DL
theorem cut_head (z : Str) (k : Nat) : (cutS z none (some (k : Int))).cps.toList = z.cps.toList.take k := by
  unfold cutS
  rw [HT.sIx_none, HT.sIx_nat, z_len]
  simp
theorem cut_tail (z : Str) (k : Nat) : (cutS z (some (k : Int)) none).cps.toList = z.cps.toList.drop k := by
  unfold cutS
  rw [HT.sIx_none, HT.sIx_nat, z_len]
  by_cases h : k ≤ z.cps.toList.length
  · rw [Nat.min_eq_left h]
    simp only [List.toList_toArray]
    exact List.take_of_length_le (by simp)
  · rw [Nat.min_eq_right (by omega), List.drop_eq_nil_of_le (Nat.le_refl _), List.drop_eq_nil_of_le (by omega)]
    simp
theorem all_dig {l : List Nat} (h : l.all digB = true) : NumText.AllDigits l := fun c hc => by
  have := List.all_eq_true.mp h c hc
  simpa [digB] using this
theorem figs_dig {z : Str} (h : figs z = true) : NumText.AllDigits z.cps.toList ∧ z.cps.toList ≠ [] ∧ z.length ≤ 600 := by
  unfold figs figL at h
  simp only [Bool.and_eq_true, decide_eq_true_eq] at h
  obtain ⟨h1, h2, h3, _⟩ := h
  exact ⟨all_dig h3, fun e => by rw [e] at h1; exact absurd h1 (by decide), by rw [z_len]; exact h2⟩
theorem ival_of {z : Str} {n : Int} (h : intText? z = some n) : intText? z = some (ival z) := by
  unfold ival; rw [h]; rfl
theorem figs_int {z : Str} (h : figs z = true) : intText? z = some (ival z) ∧ z.length ≤ 600 := by
  obtain ⟨h1, h2, h3⟩ := figs_dig h
  exact ⟨ival_of (intText_digits h1 h2 (Nat.le_trans h3 (by decide))), h3⟩
theorem minus_list (z : Str) : cutS z none (some 1) = ("-" : Str) ↔ ∃ l, z.cps.toList = 45 :: l := by
  have e : ("-" : Str).cps.toList = [45] := by decide +kernel
  have k := cut_head z 1
  constructor
  · intro h
    rw [show ((1 : Nat) : Int) = 1 from rfl, h, e] at k
    cases hz : z.cps.toList with
    | nil => rw [hz] at k; cases k
    | cons c l => rw [hz] at k; cases k; exact ⟨l, rfl⟩
  · rintro ⟨l, hl⟩
    apply TL.ext_tl
    show (cutS z none (some 1)).cps.toList = _
    rw [show (1 : Int) = ((1 : Nat) : Int) from rfl, k, hl]
    exact e.symm
theorem body_len (z : Str) : (bodyOf z).length ≤ z.length := by
  unfold bodyOf
  split
  · exact cutS_length z _ _
  · exact Nat.le_refl _
theorem body_int {z : Str} (h : figs (bodyOf z) = true) : intText? z = some (ival z) ∧ z.length ≤ 601 := by
  unfold bodyOf at h
  split at h
  · rename_i hm
    obtain ⟨l, hl⟩ := (minus_list z).mp hm
    obtain ⟨h1, h2, h3⟩ := figs_dig h
    have k := cut_tail z 1
    rw [hl] at k
    have k' : (cutS z (some 1) none).cps.toList = l := k
    rw [k'] at h1 h2
    rw [z_len, k'] at h3
    have hz : z.length ≤ 601 := by rw [z_len, hl]; simp; omega
    exact ⟨ival_of (intText_neg hl h1 h2 (Nat.le_trans hz (by decide))), hz⟩
  · obtain ⟨h1, h2⟩ := figs_int h
    exact ⟨h1, Nat.le_trans h2 (by decide)⟩
theorem not_and_or {a b : Bool} (h : false = (a && !b)) : (!a || b) = true := by cases a <;> cases b <;> first | rfl | exact h
theorem not_or_and {a b : Bool} (h : true = (a && !b)) : (!a || b) = false := by cases a <;> cases b <;> first | rfl | exact absurd h (by decide)
theorem split_len (z : Str) : ∀ p ∈ Txt.split z "/", p.length ≤ z.length := by
  have e : TL.tl ("/" : Str) = [47] := by decide +kernel
  have k := TL.split_spl z ("/" : Str) (by rw [e]; simp) (TL.kind_ok (by decide +kernel))
  rw [e] at k
  have key : ∀ (l acc : List Nat) (k : Nat), ∀ q ∈ TL.spl [47] k acc l, q.length ≤ acc.length + l.length := by
    intro l
    induction l with
    | nil => intro acc k q hq; unfold TL.spl at hq; simp at hq; rw [hq]; simp
    | cons c r ih =>
      intro acc k q hq
      cases k with
      | zero =>
        unfold TL.spl at hq
        split at hq
        · rcases List.mem_cons.mp hq with h | h
          · rw [h]; omega
          · have := ih [] _ q h
            simp at this ⊢; omega
        · have := ih (acc ++ [c]) 0 q hq
          simp at this ⊢; omega
      | succ k =>
        unfold TL.spl at hq
        have := ih acc k q hq
        simp at this ⊢; omega
  intro p hp
  have hm : TL.tl p ∈ (Txt.split z ("/" : Str)).map TL.tl := List.mem_map_of_mem hp
  rw [k] at hm
  have := key _ _ _ _ hm
  rw [TL.len_tl p, TL.len_tl z]
  simpa using this
section
variable {P : Program} {w : World} {K : PySem.W.Frag} {mg : Str → Option Value} {base : Heap} {Z0 Z1 CB CM : Addr}

abbrev s_read_whole : Stmt := topS 23
theorem sc_read_whole : FnScope ["text", "body"] ["text"] (defScope s_read_whole) := ⟨rfl, rfl, rfl, by decide +kernel, rfl, by decide +kernel, by decide +kernel⟩
theorem len_read_whole : ∀ ds r, (R_read_whole CB) ds r → ds.length = (["text"] : List Str).length := by
  rintro _ _ ⟨_, rfl, _⟩; rfl
theorem ok_read_whole (T : Tx K mg Z0 Z1) (D : DefAt K mg "read_whole" s_read_whole []) (c_is_figures : CalX P w K mg base CX0 1 "is_figures" [] (RT 5000 fun z => .bool (figs z))) (e_BadNumber : Err1 P w K mg base "BadNumber" CB "value") : CalX P w K mg base (L2N.CX P w) 2 "read_whole" [] (R_read_whole CB) := by
  refine okR D (bind0 (fun _ _ _ _ _ _ us hl => match us, hl with | [_], _ => rfl)) sc_read_whole len_read_whole fun f cdv A outer s H Ex hr => ⟨_, (pss_cons (ps_if (pt_not (pt_val (pe_callB call_isi (by rfl) T.n_isinstance (by decide +kernel) (pa_cons (pv 0) (pa_cons (pe_bltn (v := .ty "str") (u := .type "str") (by rfl) T.n_str (by decide +kernel) rfl) pa_nil))))) (pss_one (L2N.ps_raise rfl (L2N.takes_of rfl rfl rfl rfl) (pmk_e1 e_BadNumber hr (by decide) (pa_cons (pv 0) pa_nil)))) pss_nil)
    (pss_cons (ps_set (i := 1) sc_read_whole.nd rfl (by first | exact Or.inl rfl | exact Or.inr rfl) (pv 0))
    (pss_cons (ps_if (pt_cmpR (op_eqU (hu64 hr)) (pe_slice sl_U (pv 0) po_none (po_some pe_int)) pe_str (nomark _)) (pss_one (ps_set (i := 1) sc_read_whole.nd rfl (by first | exact Or.inl rfl | exact Or.inr rfl) (pe_slice sl_U (pv 0) (po_some pe_int) po_none))) pss_nil)
    (pss_cons (ps_if (PW.pt (pw_or (pt_not (pt_val (pe_cal c_is_figures hr (by decide) (fun σ => p0At σ) (pa_cons (pv 1) pa_nil)))) (pw_or1 (pt_cmpR (op_eqU (hu64 hr)) (pv 0) pe_str (nomark _))))) (pss_one (L2N.ps_raise rfl (L2N.takes_of rfl rfl rfl rfl) (pmk_e1 e_BadNumber hr (by decide) (pa_cons (pv 0) pa_nil)))) pss_nil)
    (pss_one (ps_ret (pe_callTy (call_intU T.nd) (by rfl) T.n_int (by decide +kernel) (pa_cons (pv 0) pa_nil)))))))), ?_⟩

  rintro ds r ⟨z, rfl, hz, rfl⟩
  have hs := sl_ok hz
  have hb : (bodyOf z).length ≤ 5000 := Nat.le_trans (body_len z) hz
  have hw' : wholeW z = (figs (bodyOf z) && !decide (z = ("-0" : Str))) := rfl
  by_cases hm : cutS z none (some 1) = ("-" : Str)
  · have e : bodyOf z = cutS z (some 1) none := if_pos hm
    rw [e] at hb hw'
    cases hw : wholeW z with
    | false =>
      rw [hw] at hw'
      refine ⟨.ex _ _, rn_seq (rn_ifF' (by walk_at "ev") (by rfl) rn_next) (rn_seq (rn_asgE (by walk_at "ev") rfl) (rn_seq (rn_ifT' (by walk_at "ev") (by exact decide_eq_true hm) (rn_asgE (by walk_at "ev") rfl)) (rn_seqX (rn_ifT' (by walk_at "ev") (by exact not_and_or hw') (rn_raise1 (by walk_at "ev")))))), rfl⟩
    | true =>
      rw [hw] at hw'
      have hf : figs (bodyOf z) = true := by rw [e]; exact (Bool.and_eq_true_iff.mp hw'.symm).1
      obtain ⟨h1, h2⟩ := body_int hf
      exact ⟨.rt _, rn_seq (rn_ifF' (by walk_at "ev") (by rfl) rn_next) (rn_seq (rn_asgE (by walk_at "ev") rfl) (rn_seq (rn_ifT' (by walk_at "ev") (by exact decide_eq_true hm) (rn_asgE (by walk_at "ev") rfl)) (rn_seq (rn_ifF' (by walk_at "ev") (by exact not_or_and hw') rn_next) (rn_ret (ev_cb (by walk_at "ev") (rc_intT h1 (Nat.le_trans h2 (by decide)) (.inl (Nat.le_trans h2 (by decide))))))))), rfl⟩
  · have e : bodyOf z = z := if_neg hm
    rw [e] at hb hw'
    cases hw : wholeW z with
    | false =>
      rw [hw] at hw'
      refine ⟨.ex _ _, rn_seq (rn_ifF' (by walk_at "ev") (by rfl) rn_next) (rn_seq (rn_asgE (by walk_at "ev") rfl) (rn_seq (rn_ifF' (by walk_at "ev") (by exact decide_eq_false hm) rn_next) (rn_seqX (rn_ifT' (by walk_at "ev") (by exact not_and_or hw') (rn_raise1 (by walk_at "ev")))))), rfl⟩
    | true =>
      rw [hw] at hw'
      have hf : figs (bodyOf z) = true := by rw [e]; exact (Bool.and_eq_true_iff.mp hw'.symm).1
      obtain ⟨h1, h2⟩ := body_int hf
      exact ⟨.rt _, rn_seq (rn_ifF' (by walk_at "ev") (by rfl) rn_next) (rn_seq (rn_asgE (by walk_at "ev") rfl) (rn_seq (rn_ifF' (by walk_at "ev") (by exact decide_eq_false hm) rn_next) (rn_seq (rn_ifF' (by walk_at "ev") (by exact not_or_and hw') rn_next) (rn_ret (ev_cb (by walk_at "ev") (rc_intT h1 (Nat.le_trans h2 (by decide)) (.inl (Nat.le_trans h2 (by decide))))))))), rfl⟩
abbrev s_read_ratio : Stmt := topS 24
theorem sc_read_ratio : FnScope ["text", "parts", "found", "sound"] ["text"] (defScope s_read_ratio) := ⟨rfl, rfl, rfl, by decide +kernel, rfl, by decide +kernel, by decide +kernel⟩
theorem len_read_ratio : ∀ ds r, (R_read_ratio CB) ds r → ds.length = (["text"] : List Str).length := by
  rintro _ _ ⟨_, rfl, _⟩; rfl
theorem ok_read_ratio (T : Tx K mg Z0 Z1) (D : DefAt K mg "read_ratio" s_read_ratio []) (c_is_figures : CalX P w K mg base CX0 1 "is_figures" [] (RT 5000 fun z => .bool (figs z))) (c_read_whole : CalX P w K mg base (L2N.CX P w) 2 "read_whole" [] (R_read_whole CB)) (c_is_ratio : CalX P w K mg base CX0 2 "is_ratio" [] (R1 fun d => .bool (isRt d))) (e_BadNumber : Err1 P w K mg base "BadNumber" CB "value") : CalX P w K mg base (L2N.CX P w) 3 "read_ratio" [] (R_read_ratio CB) := by
  refine okR D (bind0 (fun _ _ _ _ _ _ us hl => match us, hl with | [_], _ => rfl)) sc_read_ratio len_read_ratio fun f cdv A outer s H Ex hr => ⟨_, (pss_cons (ps_if (pt_not (pt_val (pe_callB call_isi (by rfl) T.n_isinstance (by decide +kernel) (pa_cons (pv 0) (pa_cons (pe_bltn (v := .ty "str") (u := .type "str") (by rfl) T.n_str (by decide +kernel) rfl) pa_nil))))) (pss_one (L2N.ps_raise rfl (L2N.takes_of rfl rfl rfl rfl) (pmk_e1 e_BadNumber hr (by decide) (pa_cons (pv 0) pa_nil)))) pss_nil)
    (pss_cons (ps_set (i := 1) sc_read_ratio.nd rfl (by first | exact Or.inl rfl | exact Or.inr rfl) (pe_bm PySem.F.plainAttrs_str PySem.F.slot_str_split PySem.F.type_str_split mt_split (pv 0) (pa_cons pe_str pa_nil)))
    (pss_cons (ps_if (pt_cmpR (op_eqU (hu64 hr)) (pe_callB call_len (by rfl) T.n_len (by decide +kernel) (pa_cons (pv 1) pa_nil)) pe_int (nomark _)) (pss_one (ps_ret (pe_tup (pa_cons (pe_cal c_read_whole hr (by decide) (fun σ => passN (L2N.takes_of rfl rfl rfl rfl) σ) (pa_cons (pv 0) pa_nil)) (pa_cons pe_int pa_nil))))) pss_nil)
    (pss_cons (ps_if (PW.pt (pw_or (pt_cmpR (op_neU (hu64 hr)) (pe_callB call_len (by rfl) T.n_len (by decide +kernel) (pa_cons (pv 1) pa_nil)) pe_int (nomark _)) (pw_or1 (pt_not (pt_val (pe_cal c_is_figures hr (by decide) (fun σ => p0At σ) (pa_cons (pe_ix ix_seq (pv 1) pe_int (fun _ _ => rfl)) pa_nil))))))) (pss_one (L2N.ps_raise rfl (L2N.takes_of rfl rfl rfl rfl) (pmk_e1 e_BadNumber hr (by decide) (pa_cons (pv 0) pa_nil)))) pss_nil)
    (pss_cons (ps_if (pt_cmpR (op_eqU (hu64 hr)) (pe_slice sl_U (pe_ix ix_seq (pv 1) pe_int (fun _ _ => rfl)) po_none (po_some pe_int)) pe_str (nomark _)) (pss_one (ps_set (i := 3) sc_read_ratio.nd rfl (by first | exact Or.inl rfl | exact Or.inr rfl) (pe_cal c_is_figures hr (by decide) (fun σ => p0At σ) (pa_cons (pe_slice sl_U (pe_ix ix_seq (pv 1) pe_int (fun _ _ => rfl)) (po_some pe_int) po_none) pa_nil)))) (pss_one (ps_set (i := 3) sc_read_ratio.nd rfl (by first | exact Or.inl rfl | exact Or.inr rfl) (pe_cal c_is_figures hr (by decide) (fun σ => p0At σ) (pa_cons (pe_ix ix_seq (pv 1) pe_int (fun _ _ => rfl)) pa_nil)))))
    (pss_cons (ps_if (pt_not (pt_val (pv 3))) (pss_one (L2N.ps_raise rfl (L2N.takes_of rfl rfl rfl rfl) (pmk_e1 e_BadNumber hr (by decide) (pa_cons (pv 0) pa_nil)))) pss_nil)
    (pss_cons (ps_set (i := 2) sc_read_ratio.nd rfl (by first | exact Or.inl rfl | exact Or.inr rfl) (pe_tup (pa_cons (pe_callTy (call_intU T.nd) (by rfl) T.n_int (by decide +kernel) (pa_cons (pe_ix ix_seq (pv 1) pe_int (fun _ _ => rfl)) pa_nil)) (pa_cons (pe_callTy (call_intU T.nd) (by rfl) T.n_int (by decide +kernel) (pa_cons (pe_ix ix_seq (pv 1) pe_int (fun _ _ => rfl)) pa_nil)) pa_nil))))
    (pss_cons (ps_if (PW.pt (pw_or (pt_cmpR op_lt (pe_ix ix_seq (pv 2) pe_int (fun _ _ => rfl)) pe_int (nomark _)) (pw_or1 (pt_not (pt_val (pe_cal c_is_ratio hr (by decide) (fun σ => p0At σ) (pa_cons (pv 2) pa_nil))))))) (pss_one (L2N.ps_raise rfl (L2N.takes_of rfl rfl rfl rfl) (pmk_e1 e_BadNumber hr (by decide) (pa_cons (pv 0) pa_nil)))) pss_nil)
    (pss_one (ps_ret (pv 2))))))))))), ?_⟩

  rintro ds r ⟨z, rfl, hz, rfl⟩
  have hs := sl_ok hz
  have h47 : (("/" : Str).length == 0) = false := by decide +kernel
  have hs2 : z.length + 2 ≤ sizeLine := by rw [sizeLine_eq]; omega
  have wh : ∀ r, (r = if wholeW z then Except.ok (PyData.int (ival z)) else .error (eB CB (.str z))) → R_read_whole CB [.str z] r := fun r h => ⟨z, rfl, hz, h⟩
  have sl := split_len z
  match hsp : Txt.split z ("/" : Str) with
  | [x] =>
    have hr : ratioW z = wholeW z := by unfold ratioW; rw [hsp]; rfl
    have hn : numW z = (ival z, 1) := by unfold numW; rw [hsp]
    rw [hr, hn]
    cases hw : wholeW z with
    | false => exact ⟨.ex _ _, rn_seq (rn_ifF' (by walk_at "ev") (by rfl) rn_next) (rn_seq (rn_asgE (ev_is (ev_split (by walk_at "ev") (by walk_at "ev") h47 hs2) (by rw [hsp])) rfl) (rn_seqX (rn_ifT' (by walk_at "ev") (by rfl) (rn_retX (ev_tupX (ea_consX1 (ev_callXE (by walk_at "ev") (wh _ (by rw [hw]; rfl)) rfl))))))), rfl⟩
    | true => exact ⟨.rt _, rn_seq (rn_ifF' (by walk_at "ev") (by rfl) rn_next) (rn_seq (rn_asgE (ev_is (ev_split (by walk_at "ev") (by walk_at "ev") h47 hs2) (by rw [hsp])) rfl) (rn_seqR (rn_ifT' (by walk_at "ev") (by rfl) (rn_ret (ev_tupH (ea_cons (ev_callE (by walk_at "ev") (wh _ (by rw [hw]; rfl)) rfl) (by walk_at "ev")) (by walk_at "side")))))), rfl⟩
  | [p, q] =>
    have hr : ratioW z = (wholeW p && (figs q && (decide (1 < ival q) && decide (((Nat.gcd (ival p).natAbs (ival q).natAbs : Nat) : Int) = 1)))) := by unfold ratioW; rw [hsp]; rfl
    have hn : numW z = (ival p, ival q) := by unfold numW; rw [hsp]
    rw [hsp] at sl
    have lp : p.length ≤ 5000 := Nat.le_trans (sl p (by simp)) hz
    have lq : q.length ≤ 5000 := Nat.le_trans (sl q (by simp)) hz
    have lpS := sl_ok lp
    have lb : (bodyOf p).length ≤ 5000 := Nat.le_trans (body_len p) lp
    rw [hr, hn]
    cases fq : figs q with
    | false =>
      rw [Bool.false_and, Bool.and_false]
      exact ⟨.ex _ _, rn_seq (rn_ifF' (by walk_at "ev") (by rfl) rn_next) (rn_seq (rn_asgE (ev_is (ev_split (by walk_at "ev") (by walk_at "ev") h47 hs2) (by rw [hsp])) rfl) (rn_seq (rn_ifF' (by walk_at "ev") (by rfl) rn_next) (rn_seqX (rn_ifT' (by walk_at "ev") (by rw [fq]; rfl) (rn_raise1 (by walk_at "ev")))))), rfl⟩
    | true =>
      obtain ⟨q1, q2⟩ := figs_int fq
      rw [Bool.true_and]
      refine en_seq (rn_ifF' (by walk_at "ev") (by rfl) rn_next) ?_
      refine en_seq (rn_asgE (ev_is (ev_split (by walk_at "ev") (by walk_at "ev") h47 hs2) (by rw [hsp])) rfl) ?_
      refine en_seq (rn_ifF' (by walk_at "ev") (by rfl) rn_next) ?_
      refine en_seq (rn_ifF' (by walk_at "ev") (by rw [fq]; rfl) rn_next) ?_
      refine en_seq (δ1 := [.val (.str z), .val (.list [.str p, .str q]), .no, .val (.bool (figs (bodyOf p)))]) ?_ ?_
      · by_cases hm : cutS p none (some 1) = ("-" : Str)
        · have e : bodyOf p = cutS p (some 1) none := if_pos hm
          rw [e] at lb ⊢
          exact rn_ifT' (by walk_at "ev") (by exact decide_eq_true hm) (rn_asgE (by walk_at "ev") rfl)
        · have e : bodyOf p = p := if_neg hm
          rw [e] at lb ⊢
          exact rn_ifF' (by walk_at "ev") (by exact decide_eq_false hm) (rn_asgE (by walk_at "ev") rfl)
      cases fb : figs (bodyOf p) with
      | false =>
        have hw : wholeW p = false := by unfold wholeW; rw [fb]; rfl
        rw [hw]
        exact en_X (rn_ifT' (by walk_at "ev") (by rfl) (rn_raise1 (by walk_at "ev"))) rfl
      | true =>
        obtain ⟨p1, p2⟩ := body_int fb
        have c1 : RC K rIntU [.str p] (.int (ival p)) := rc_intT p1 (Nat.le_trans p2 (by decide)) (.inl (Nat.le_trans p2 (by decide)))
        have c2 : RC K rIntU [.str q] (.int (ival q)) := rc_intT q1 (Nat.le_trans q2 (by decide)) (.inl (Nat.le_trans q2 (by decide)))
        refine en_seq (rn_ifF' (by walk_at "ev") (by rfl) rn_next) ?_
        refine en_seq (rn_asgE (by walk_at "ev") rfl) ?_
        have hw : (wholeW p && (decide (1 < ival q) && decide (((Nat.gcd (ival p).natAbs (ival q).natAbs : Nat) : Int) = 1))) = !(decide (ival q < 2) || !isRt (.tuple [.int (ival p), .int (ival q)])) := by
          have ir : isRt (.tuple [.int (ival p), .int (ival q)]) = (decide (1 ≤ ival q) && decide (((Nat.gcd (ival p).natAbs (ival q).natAbs : Nat) : Int) = 1)) := rfl
          have wr : wholeW p = (figs (bodyOf p) && !decide (p = ("-0" : Str))) := rfl
          rw [ir, wr, fb, Bool.true_and]
          by_cases g1 : 1 < ival q
          · have g2 : ¬ ival q < 2 := by omega
            have g3 : 1 ≤ ival q := by omega
            rw [decide_eq_true g1, decide_eq_false g2, decide_eq_true g3]
            by_cases hz0 : p = ("-0" : Str)
            · have i0 : ival p = 0 := by rw [hz0]; decide +kernel
              have : ¬ ((Nat.gcd (ival p).natAbs (ival q).natAbs : Nat) : Int) = 1 := by
                rw [i0]
                simp
                omega
              rw [decide_eq_false this]
              simp
            · rw [decide_eq_false hz0]
              simp
          · have g2 : ival q < 2 := by omega
            rw [decide_eq_false g1, decide_eq_true g2]
            simp
        rw [hw]
        cases hb : (decide (ival q < 2) || !isRt (.tuple [.int (ival p), .int (ival q)])) with
        | true => exact en_X (rn_ifT' (by walk_at "ev") (by exact hb) (rn_raise1 (by walk_at "ev"))) rfl
        | false =>
          refine en_seq (rn_ifF' (by walk_at "ev") (by exact hb) rn_next) ?_
          exact en_rt (rn_ret (by walk_at "ev")) rfl
  | [] =>
    have hr : ratioW z = false := by unfold ratioW; rw [hsp]; rfl
    rw [hr]
    exact ⟨.ex _ _, rn_seq (rn_ifF' (by walk_at "ev") (by rfl) rn_next) (rn_seq (rn_asgE (ev_is (ev_split (by walk_at "ev") (by walk_at "ev") h47 hs2) (by rw [hsp])) rfl) (rn_seq (rn_ifF' (by walk_at "ev") (by rfl) rn_next) (rn_seqX (rn_ifT (et_orT (by walk_at "ev") (by rfl)) (rn_raise1 (by walk_at "ev")))))), rfl⟩
  | a :: b :: c :: l =>
    have hr : ratioW z = false := by unfold ratioW; rw [hsp]; rfl
    rw [hr]
    refine ⟨.ex _ _, rn_seq (rn_ifF' (by walk_at "ev") ?_ rn_next) (rn_seq (rn_asgE (ev_is (ev_split (by walk_at "ev") (by walk_at "ev") h47 hs2) (by rw [hsp])) rfl) (rn_seq (rn_ifF' (by walk_at "ev") ?_ rn_next) (rn_seqX (rn_ifT (et_orT (by walk_at "ev") ?_) (rn_raise1 (by walk_at "ev")))))), rfl⟩
    · rfl
    · simp; omega
    · simp; omega
end
end K85
set_option Elab.async false
set_option linter.all false
set_option maxRecDepth 100000
set_option maxHeartbeats 4000000
set_option exponentiation.threshold 10000
/-! K85D: sums of ratios, the law's own numbers. -/
namespace K85
open PySem PySem.Spec PyProof.Rows L2 DL
/-! ### lowest terms -/
structure Nf (p : Int × Int) : Prop where
  pos : 0 < p.2
  one : Nat.gcd p.1.natAbs p.2.natAbs = 1
theorem nrm_spec {t b : Int} (hb : b ≠ 0) : Nf (nrm t b) ∧ (nrm t b).1.natAbs ≤ t.natAbs ∧ (nrm t b).2.natAbs ≤ b.natAbs := by
  have hg : 0 < Nat.gcd t.natAbs b.natAbs := Nat.gcd_pos_of_pos_right _ (by omega)
  have key : ∀ p : Int, p.natAbs = Nat.gcd t.natAbs b.natAbs → (b < 0 → p < 0) → (0 < b → 0 < p) → Nf (t.fdiv p, b.fdiv p) ∧ (t.fdiv p).natAbs ≤ t.natAbs ∧ (b.fdiv p).natAbs ≤ b.natAbs := by
    intro p hp h1 h2
    have hp0 : p ≠ 0 := by omega
    have dt : p ∣ t := Int.natAbs_dvd_natAbs.mp (by rw [hp]; exact Nat.gcd_dvd_left ..)
    have db : p ∣ b := Int.natAbs_dvd_natAbs.mp (by rw [hp]; exact Nat.gcd_dvd_right ..)
    refine ⟨?_, fdiv_abs_le t p dt, fdiv_abs_le b p db⟩
    obtain ⟨t', et⟩ := dt
    obtain ⟨b', eb⟩ := db
    have ft : t.fdiv p = t' := by rw [et, Int.mul_fdiv_cancel_left _ hp0]
    have fb : b.fdiv p = b' := by rw [eb, Int.mul_fdiv_cancel_left _ hp0]
    refine ⟨?_, ?_⟩
    · show 0 < b.fdiv p
      rw [fb]
      rcases Int.lt_trichotomy b 0 with h | h | h
      · have hpn := h1 h
        rcases Int.lt_trichotomy b' 0 with g | g | g
        · have := Int.mul_pos_of_neg_of_neg hpn g
          omega
        · rw [g] at eb; omega
        · exact g
      · exact absurd h hb
      · have hpp := h2 h
        rcases Int.lt_trichotomy b' 0 with g | g | g
        · have := Int.mul_neg_of_pos_of_neg hpp g
          omega
        · rw [g] at eb; omega
        · exact g
    · show Nat.gcd (t.fdiv p).natAbs (b.fdiv p).natAbs = 1
      rw [ft, fb]
      have e : Nat.gcd t.natAbs b.natAbs = p.natAbs * Nat.gcd t'.natAbs b'.natAbs := by
        rw [et, eb, Int.natAbs_mul, Int.natAbs_mul, Nat.gcd_mul_left]
      rw [← hp] at e
      have hpn : 0 < p.natAbs := by omega
      exact (Nat.mul_right_cancel hpn (by rw [Nat.one_mul, Nat.mul_comm]; exact e)).symm
  unfold nrm
  by_cases h : b < 0
  · rw [if_pos h]
    exact key _ (by rw [Int.natAbs_neg, Int.natAbs_natCast]) (fun _ => by omega) (fun z => by omega)
  · rw [if_neg h]
    exact key _ (by rw [Int.natAbs_natCast]) (fun z => absurd z h) (fun _ => by omega)
theorem nrm_self {p : Int × Int} (h : Nf p) : nrm p.1 p.2 = p := by
  unfold nrm
  rw [if_neg (by have := h.pos; omega), h.one]
  show (p.1.fdiv ((1 : Nat) : Int), p.2.fdiv ((1 : Nat) : Int)) = p
  rw [show ((1 : Nat) : Int) = 1 from rfl, Int.fdiv_one, Int.fdiv_one]
theorem nrm_qz {t b : Int} {m : Nat} (h1 : Sz m t) (h2 : Sz m b) (hb : b ≠ 0) : Qz m (nrm t b) := by
  obtain ⟨h, l1, l2⟩ := nrm_spec (t := t) hb
  exact ⟨h1.le l1, h2.le l2, by have := h.pos; omega⟩
theorem nrm_zero {b : Int} (hb : b ≠ 0) : nrm 0 b = (0, 1) := by
  obtain ⟨h, l1, _⟩ := nrm_spec (t := 0) hb
  have e : (nrm 0 b).1 = 0 := by
    have : (0 : Int).natAbs = 0 := rfl
    omega
  have o := h.one
  have p := h.pos
  rw [e] at o
  have : (nrm 0 b).2 = 1 := by
    rw [show (0 : Int).natAbs = 0 from rfl, Nat.gcd_zero_left] at o
    omega
  exact Prod.ext e this
theorem qadd_zero {p : Int × Int} (h : Nf p) : qadd p (0, 1) = p := by
  have : qadd p (0, 1) = nrm p.1 p.2 := by
    unfold qadd
    simp
  rw [this]
  exact nrm_self h
theorem qmul_zero {a b : Int × Int} (ha : a.2 ≠ 0) (hb : b.2 ≠ 0) (h : a.1 = 0 ∨ b.1 = 0) : qmul a b = (0, 1) := by
  unfold qmul
  have e : a.1 * b.1 = 0 := by rcases h with h | h <;> rw [h] <;> simp
  rw [e]
  exact nrm_zero (Int.mul_ne_zero ha hb)
theorem Qz.mono {m n : Nat} {p : Int × Int} (h : Qz m p) (e : m ≤ n) : Qz n p := ⟨h.t.mono e, h.b.mono e, h.z⟩
theorem qadd_qz {m n : Nat} {a b : Int × Int} (ha : Qz m a) (hb : Qz n b) : Qz (m + n + 1) (qadd a b) := by
  refine nrm_qz ?_ ?_ (Int.mul_ne_zero ha.z hb.z)
  · exact Sz.mono (Sz.add (Sz.mul ha.t hb.b) (Sz.mul hb.t ha.b)) (by omega)
  · exact Sz.mono (Sz.mul ha.b hb.b) (by omega)
theorem qmul_qz {m n : Nat} {a b : Int × Int} (ha : Qz m a) (hb : Qz n b) : Qz (m + n) (qmul a b) :=
  nrm_qz (Sz.mul ha.t hb.t) (Sz.mul ha.b hb.b) (Int.mul_ne_zero ha.z hb.z)
theorem qadd_nf {a b : Int × Int} (ha : a.2 ≠ 0) (hb : b.2 ≠ 0) : Nf (qadd a b) := (nrm_spec (Int.mul_ne_zero ha hb)).1
/-! ### the sum of products -/
def totN (xs ys : List (Int × Int)) : Nat → Int × Int
  | 0 => (0, 1)
  | i + 1 => qadd (totN xs ys i) (qmul (xs.getD i (0, 1)) (ys.getD i (0, 1)))
theorem getD_at {α : Type} {l : List α} {i : Nat} {d : α} (h : i < l.length) : l.getD i d = l[i] := by
  rw [List.getD_eq_getElem?_getD, List.getElem?_eq_getElem h]; rfl
def QL (n : Nat) (xs : List (Int × Int)) : Prop := ∀ x ∈ xs, Qz n x
theorem QL.get {n : Nat} {xs : List (Int × Int)} (h : QL n xs) {i : Nat} (hi : i < xs.length) : Qz n (xs.getD i (0, 1)) := by
  rw [getD_at hi]
  exact h _ (List.getElem_mem _)
theorem tot_ok {xs ys : List (Int × Int)} (hx : QL 20 xs) (hy : QL 20 ys) (hl : xs.length = ys.length) : ∀ i, i ≤ xs.length → Qz (1 + 41 * i) (totN xs ys i) ∧ Nf (totN xs ys i)
  | 0, _ => ⟨⟨by show (0 : Int).natAbs < 2 ^ 1; decide, by show (1 : Int).natAbs < 2 ^ 1; decide, by show (1 : Int) ≠ 0; decide⟩, ⟨by show (0 : Int) < 1; decide, by show Nat.gcd 0 1 = 1; decide⟩⟩
  | i + 1, h => by
    obtain ⟨h1, h2⟩ := tot_ok hx hy hl i (by omega)
    have m := qmul_qz (hx.get (i := i) (by omega)) (hy.get (i := i) (by omega))
    exact ⟨(qadd_qz h1 m).mono (by omega), qadd_nf h1.z m.z⟩
def R_dot (ds : List PyData) (r : Res PyData) : Prop := ∃ (f : List PyData → PyData) (xs ys : List (Int × Int)), (f = PyData.list ∨ f = PyData.tuple) ∧ ds = [f (xs.map rat), f (ys.map rat)] ∧ xs.length = ys.length ∧ xs.length ≤ 13 ∧ QL 20 xs ∧ QL 20 ys ∧ r = .ok (rat (totN xs ys xs.length))
theorem at_rat {xs : List (Int × Int)} {i : Nat} (hi : i < xs.length) : atI (xs.map rat) (i : Int) = some (rat (xs.getD i (0, 1))) := by
  rw [at_nat, List.getElem?_map, List.getElem?_eq_getElem hi, getD_at hi]; rfl
theorem rq_mk {n : Nat} {f : Int × Int → Int × Int → PyData} {a b : Int × Int} (ha : Qz n a) (hb : Qz n b) : RQ n f [rat a, rat b] (.ok (f a b)) := ⟨a, b, rfl, ha, hb, rfl⟩
/-! ### Euclid -/
def eu (a b : Nat) : Nat → Nat × Nat
  | 0 => (a, b)
  | k + 1 => ((eu a b k).2, (eu a b k).1 % (eu a b k).2)
theorem eu_gcd (a b : Nat) : ∀ k, Nat.gcd (eu a b k).1 (eu a b k).2 = Nat.gcd a b
  | 0 => rfl
  | k + 1 => by
    rw [← eu_gcd a b k]
    show Nat.gcd (eu a b k).2 ((eu a b k).1 % (eu a b k).2) = _
    rw [Nat.gcd_comm, ← Nat.gcd_rec, Nat.gcd_comm]
theorem eu_half (a b : Nat) (n : Nat) (h : b < 2 ^ n) : ∀ k, k ≤ n → (eu a b (2 * k)).2 < 2 ^ (n - k) ∨ ∃ j, j ≤ 2 * k ∧ (eu a b j).2 = 0
  | 0, _ => .inl h
  | k + 1, hk => by
    rcases eu_half a b n h k (by omega) with g | ⟨j, g1, g2⟩
    · have e1 : (eu a b (2 * k + 1)) = ((eu a b (2 * k)).2, (eu a b (2 * k)).1 % (eu a b (2 * k)).2) := rfl
      have e2 : (eu a b (2 * (k + 1))) = ((eu a b (2 * k + 1)).2, (eu a b (2 * k + 1)).1 % (eu a b (2 * k + 1)).2) := rfl
      by_cases z0 : (eu a b (2 * k)).2 = 0
      · exact .inr ⟨2 * k, by omega, z0⟩
      by_cases z1 : (eu a b (2 * k + 1)).2 = 0
      · exact .inr ⟨2 * k + 1, by omega, z1⟩
      left
      rw [e2]
      show (eu a b (2 * k + 1)).1 % (eu a b (2 * k + 1)).2 < _
      rw [e1] at z1 ⊢
      have lt : (eu a b (2 * k)).1 % (eu a b (2 * k)).2 < (eu a b (2 * k)).2 := Nat.mod_lt _ (by omega)
      generalize (eu a b (2 * k)).2 = y at *
      generalize (eu a b (2 * k)).1 % y = r at *
      show y % r < 2 ^ (n - (k + 1))
      have hp : 2 ^ (n - k) = 2 * 2 ^ (n - (k + 1)) := by
        rw [show n - k = (n - (k + 1)) + 1 by omega, Nat.pow_succ, Nat.mul_comm]
      rw [hp] at g
      have zr : r ≠ 0 := z1
      have l2 : y % r < r := Nat.mod_lt _ (by omega)
      have d := Nat.div_add_mod y r
      have q1 : 1 ≤ y / r := (Nat.one_le_div_iff (by omega)).mpr (by omega)
      have : r ≤ r * (y / r) := Nat.le_mul_of_pos_right _ q1
      omega
    · exact .inr ⟨j, by omega, g2⟩
theorem eu_end (a b : Nat) (n : Nat) (h : b < 2 ^ n) : ∃ j, j ≤ 2 * n ∧ (eu a b j).2 = 0 := by
  rcases eu_half a b n h n (Nat.le_refl _) with g | g
  · rw [Nat.sub_self] at g
    exact ⟨2 * n, Nat.le_refl _, by omega⟩
  · exact g
theorem least {P : Nat → Prop} : ∀ n, P n → ∃ m, m ≤ n ∧ P m ∧ ∀ i, i < m → ¬ P i := by
  intro n
  induction n using Nat.strongRecOn with
  | _ n ih =>
    intro h
    by_cases g : ∃ i, i < n ∧ P i
    · obtain ⟨i, h1, h2⟩ := g
      obtain ⟨m, m1, m2, m3⟩ := ih i h1 h2
      exact ⟨m, by omega, m2, m3⟩
    · exact ⟨n, Nat.le_refl _, h, fun i hi hp => g ⟨i, hi, hp⟩⟩
theorem fmod_nat (x y : Nat) : (x : Int).fmod (y : Int) = ((x % y : Nat) : Int) := by
  rw [Int.fmod_eq_emod_of_nonneg _ (by omega)]
  first | exact (Int.natCast_emod x y).symm | rfl | simp
theorem abs_nat (i : Int) : (if i < 0 then -i else i) = (i.natAbs : Int) := by
  split <;> omega
def R_law_gcd (ds : List PyData) (r : Res PyData) : Prop := ∃ a b : Int, ds = [.int a, .int b] ∧ Sz 4400 b ∧ r = .ok (.int ((Nat.gcd a.natAbs b.natAbs : Nat) : Int))
def R_law_ratio (ds : List PyData) (r : Res PyData) : Prop := ∃ t b : Int, ds = [.int t, .int b] ∧ Sz 4400 t ∧ Sz 4400 b ∧ b ≠ 0 ∧ r = .ok (rat (nrm t b))
section
variable {P : Program} {w : World} {K : PySem.W.Frag} {mg : Str → Option Value} {base : Heap} {Z0 Z1 CB CM : Addr}

abbrev s_dot : Stmt := topS 17
theorem sc_dot : FnScope ["xs", "ys", "found", "k"] ["xs", "ys"] (defScope s_dot) := ⟨rfl, rfl, rfl, by decide +kernel, rfl, by decide +kernel, by decide +kernel⟩
theorem len_dot : ∀ ds r, R_dot ds r → ds.length = (["xs", "ys"] : List Str).length := by
  rintro _ _ ⟨_, _, _, _, rfl, _⟩; rfl
theorem ok_dot (T : Tx K mg Z0 Z1) (D : DefAt K mg "dot" s_dot []) (c_plus : CalX P w K mg base CX0 3 "plus" [] (RQ 3000 fun a b => rat (qadd a b))) (c_times : CalX P w K mg base CX0 3 "times" [] (RQ 3000 fun a b => rat (qmul a b))) : CalX P w K mg base CX0 4 "dot" [] R_dot := by
  refine okN D (bind0 (fun _ _ _ _ _ _ us hl => match us, hl with | [_, _], _ => rfl)) sc_dot len_dot fun f cdv A outer s H Ex hr => ⟨_, (pss_cons (ps_set (i := 2) sc_dot.nd rfl (by first | exact Or.inl rfl | exact Or.inr rfl) (pe_cT T.c_ZERO))
    (pss_cons (ps_for PassesOwn.never rfl (pi_range1 rfl T.n_range (pa_cons (pe_callB call_len (by rfl) T.n_len (by decide +kernel) (pa_cons (pv 0) pa_nil)) pa_nil)) (pg_name (i := 3) sc_dot.nd rfl (by first | exact Or.inl rfl | exact Or.inr rfl)) (pss_one (ps_if (PW.pt (pw_and (pt_cmpR (op_neU (hu64 hr)) (pe_ix ix_seq (pe_ix ix_seq (pv 0) (pv 3) (fun _ _ => rfl)) pe_int (fun _ _ => rfl)) pe_int (nomark _)) (pw_and1 (pt_cmpR (op_neU (hu64 hr)) (pe_ix ix_seq (pe_ix ix_seq (pv 1) (pv 3) (fun _ _ => rfl)) pe_int (fun _ _ => rfl)) pe_int (nomark _))))) (pss_one (ps_set (i := 2) sc_dot.nd rfl (by first | exact Or.inl rfl | exact Or.inr rfl) (pe_cal c_plus hr (by decide) (fun σ => p0At σ) (pa_cons (pv 2) (pa_cons (pe_cal c_times hr (by decide) (fun σ => p0At σ) (pa_cons (pe_ix ix_seq (pv 0) (pv 3) (fun _ _ => rfl)) (pa_cons (pe_ix ix_seq (pv 1) (pv 3) (fun _ _ => rfl)) pa_nil))) pa_nil))))) pss_nil)))
    (pss_one (ps_ret (pv 2))))), ?_⟩

  rintro ds r ⟨F, xs, ys, hF, rfl, hl, hn, hx, hy, rfl⟩
  have hZ := T.c_ZERO.d
  have ix : ∀ (zs : List (Int × Int)) (i : Nat), i < zs.length → RD K (rIx K) (F (zs.map rat)) (.int (i : Int)) (rat (zs.getD i (0, 1))) := by
    intro zs i hi
    rcases hF with rfl | rfl
    · exact rd_ix_L (at_rat hi)
    · exact rd_ix_T (at_rat hi)
  have ln : RC K (fun xs H Q => ∃ x n, xs = [x] ∧ LenV K x H n ∧ Q (.int n) H) [F (xs.map rat)] (.int (xs.length : Nat)) := by
    rcases hF with rfl | rfl
    · have := rc_len_l (K := K) (l := xs.map rat)
      rwa [List.length_map] at this
    · have := rc_len_t (K := K) (l := xs.map rat)
      rwa [List.length_map] at this
  refine en_seq (rn_asgE (by walk_at "ev") rfl) ?_
  refine en_seq (δ1 := [.val (F (xs.map rat)), .val (F (ys.map rat)), .val (rat (totN xs ys xs.length)), .no]) ?_ (en_rt (rn_ret (by walk_at "ev")) rfl)
  refine rn_for (js := [3]) (fun i => [.val (F (xs.map rat)), .val (F (ys.map rat)), .val (rat (totN xs ys i)), .no]) xs.length (by rw [iota_len]; simp) (src_rng1 (W := fun _ _ _ _ => False) (j := (xs.length : Int)) (ea_cons (ev_cb (by walk_at "ev") ln) ea_nil) (by omega) (by omega)) (fun i d hi hd => ?_) (.inl ⟨by rw [iota_len]; simp, rfl⟩)
  rw [iota_get (by simpa using hi)] at hd
  cases hd
  have e0 : (0 : Int) + (i : Nat) = (i : Int) := by omega
  rw [e0]
  have ix1 := ix xs i hi
  have ix2 := ix ys i (by omega)
  have q1 := hx.get hi
  have q2 := hy.get (i := i) (by omega)
  obtain ⟨t1, t2⟩ := tot_ok hx hy hl i (by omega)
  have m := qmul_qz q1 q2
  have T1 : EvD K (fun cls d _ H => Ex cls d H) _ [.val (F (xs.map rat)), .val (F (ys.map rat)), .val (rat (totN xs ys i)), .val (.int (i : Int))] (.ok (rat (xs.getD i (0, 1)))) := ev_op (ev_var (i := 0) rfl) (ev_var (i := 3) rfl) ix1
  have T2 : EvD K (fun cls d _ H => Ex cls d H) _ [.val (F (xs.map rat)), .val (F (ys.map rat)), .val (rat (totN xs ys i)), .val (.int (i : Int))] (.ok (rat (ys.getD i (0, 1)))) := ev_op (ev_var (i := 1) rfl) (ev_var (i := 3) rfl) ix2
  by_cases z : (xs.getD i (0, 1)).1 = 0 ∨ (ys.getD i (0, 1)).1 = 0
  · have e : totN xs ys (i + 1) = totN xs ys i := by
      show qadd _ (qmul _ _) = _
      rw [qmul_zero q1.z q2.z z, qadd_zero t2]
    rw [e]
    refine ⟨_, .nx _, as_name, rfl, rn_weak (by walk_at "less") (rn_ifF' (et_and (et_test (ev_op (ev_op T1 ev_int (rd_ix_T rfl)) ev_int rd_neI)) (fun _ => et_test (ev_op (ev_op T2 ev_int (rd_ix_T rfl)) ev_int rd_neI))) ?_ rn_next)⟩
    rcases z with z | z
    · rw [decide_eq_true z]; rfl
    · rw [decide_eq_true z]; simp
  · have z1 : (xs.getD i (0, 1)).1 ≠ 0 := fun h => z (.inl h)
    have z2 : (ys.getD i (0, 1)).1 ≠ 0 := fun h => z (.inr h)
    refine ⟨_, .nx _, as_name, rfl, rn_weak (by walk_at "less") (rn_ifT' (et_and (et_test (ev_op (ev_op T1 ev_int (rd_ix_T rfl)) ev_int rd_neI)) (fun _ => et_test (ev_op (ev_op T2 ev_int (rd_ix_T rfl)) ev_int rd_neI))) ?_ (rn_asgE (ev_call0 (ea_cons (ev_var (i := 2) rfl) (ea_cons (ev_call0 (ea_cons T1 (ea_cons T2 ea_nil)) (rq_mk (q1.mono (by decide)) (q2.mono (by decide)))) ea_nil)) (rq_mk (t1.mono (by omega)) (m.mono (by decide)))) rfl))⟩
    rw [decide_eq_false z1, decide_eq_false z2]; rfl
abbrev s__law_gcd : Stmt := topS 28
theorem sc__law_gcd : FnScope ["a", "b", "k", "rest"] ["a", "b"] (defScope s__law_gcd) := ⟨rfl, rfl, rfl, by decide +kernel, rfl, by decide +kernel, by decide +kernel⟩
theorem len__law_gcd : ∀ ds r, R_law_gcd ds r → ds.length = (["a", "b"] : List Str).length := by
  rintro _ _ ⟨_, _, rfl, _⟩; rfl
theorem ok__law_gcd (T : Tx K mg Z0 Z1) (D : DefAt K mg "_law_gcd" s__law_gcd [])  : CalX P w K mg base CX0 1 "_law_gcd" [] R_law_gcd := by
  refine okN D (bind0 (fun _ _ _ _ _ _ us hl => match us, hl with | [_, _], _ => rfl)) sc__law_gcd len__law_gcd fun f cdv A outer s H Ex hr => ⟨_, (pss_cons (ps_set (i := 0) sc__law_gcd.nd rfl (by first | exact Or.inl rfl | exact Or.inr rfl) (pe_callB call_abs (by rfl) T.n_abs (by decide +kernel) (pa_cons (pv 0) pa_nil)))
    (pss_cons (ps_set (i := 1) sc__law_gcd.nd rfl (by first | exact Or.inl rfl | exact Or.inr rfl) (pe_callB call_abs (by rfl) T.n_abs (by decide +kernel) (pa_cons (pv 1) pa_nil)))
    (pss_cons (ps_for PassesOwn.never rfl (pi_range1 rfl T.n_range (pa_cons pe_int pa_nil)) (pg_name (i := 2) sc__law_gcd.nd rfl (by first | exact Or.inl rfl | exact Or.inr rfl)) (pss_cons (ps_if (pt_cmpR (op_eqU (hu64 hr)) (pv 1) pe_int (nomark _)) (pss_one (ps_ret (pv 0))) pss_nil)
    (pss_cons (ps_set (i := 3) sc__law_gcd.nd rfl (by first | exact Or.inl rfl | exact Or.inr rfl) (pe_op op_modN (pe_callTy (call_intU T.nd) (by rfl) T.n_int (by decide +kernel) (pa_cons (pv 0) pa_nil)) (pv 1)))
    (pss_cons (ps_set (i := 0) sc__law_gcd.nd rfl (by first | exact Or.inl rfl | exact Or.inr rfl) (pv 1))
    (pss_one (ps_set (i := 1) sc__law_gcd.nd rfl (by first | exact Or.inl rfl | exact Or.inr rfl) (pv 3)))))))
    (pss_one (ps_ret pe_int))))), ?_⟩

  rintro ds r ⟨a, b, rfl, hb, rfl⟩
  have hb2 : b.natAbs < 2 ^ 4400 := hb
  obtain ⟨j, j1, j2⟩ := eu_end a.natAbs b.natAbs 4400 hb2
  obtain ⟨m, m1, m2, m3⟩ := least (P := fun k => (eu a.natAbs b.natAbs k).2 = 0) j j2
  have hm : m < 9000 := by omega
  refine en_seq (rn_asgE (d := .int (a.natAbs : Int)) (ev_is (by walk_at "ev") (by rw [abs_nat])) rfl) ?_
  refine en_seq (rn_asgE (d := .int (b.natAbs : Int)) (ev_is (by walk_at "ev") (by rw [abs_nat])) rfl) ?_
  refine en_R (d := .int ((Nat.gcd a.natAbs b.natAbs : Nat) : Int)) ?_ rfl
  refine rn_for (js := [2]) (fun i => [.val (.int ((eu a.natAbs b.natAbs i).1 : Nat)), .val (.int ((eu a.natAbs b.natAbs i).2 : Nat)), .no, .no]) m (by rw [iota_len]; exact Nat.le_of_lt hm) (src_rng1 (W := fun _ _ _ _ => False) (j := 9000) (by walk_at "ev") (by decide) (by decide)) (fun i d hi hd => ?_) (.inr ?_)
  · have hz := m3 i hi
    have hz' : ((eu a.natAbs b.natAbs i).2 : Int) ≠ 0 := by omega
    refine ⟨_, .nx _, as_name, rfl, rn_weak (by walk_at "less") (rn_seq (rn_ifF' (by walk_at "ev") (by simpa using hz) rn_next) (rn_seq (rn_asgE (d := .int (((eu a.natAbs b.natAbs i).1 % (eu a.natAbs b.natAbs i).2 : Nat) : Int)) (ev_is (by walk_at "ev") (by rw [fmod_nat])) rfl) (rn_seq (rn_asgE (by walk_at "ev") rfl) (rn_asgE (by walk_at "ev") rfl))))⟩
  · refine ⟨_, _, .rt _, iota_get hm, as_name, rfl, rn_seqR (rn_ifT' (by walk_at "ev") (by simpa using m2) (rn_ret (ev_is (by walk_at "ev") ?_)))⟩
    have := eu_gcd a.natAbs b.natAbs m
    rw [m2, Nat.gcd_zero_right] at this
    rw [← this]
abbrev s__law_ratio : Stmt := topS 29
theorem sc__law_ratio : FnScope ["top", "bottom", "part"] ["top", "bottom"] (defScope s__law_ratio) := ⟨rfl, rfl, rfl, by decide +kernel, rfl, by decide +kernel, by decide +kernel⟩
theorem len__law_ratio : ∀ ds r, R_law_ratio ds r → ds.length = (["top", "bottom"] : List Str).length := by
  rintro _ _ ⟨_, _, rfl, _⟩; rfl
theorem ok__law_ratio (T : Tx K mg Z0 Z1) (D : DefAt K mg "_law_ratio" s__law_ratio []) (c__law_gcd : CalX P w K mg base CX0 1 "_law_gcd" [] R_law_gcd) : CalX P w K mg base CX0 2 "_law_ratio" [] R_law_ratio := by
  refine okN D (bind0 (fun _ _ _ _ _ _ us hl => match us, hl with | [_, _], _ => rfl)) sc__law_ratio len__law_ratio fun f cdv A outer s H Ex hr => ⟨_, (pss_cons (ps_set (i := 2) sc__law_ratio.nd rfl (by first | exact Or.inl rfl | exact Or.inr rfl) (pe_callB (call_max2 rfl) (by rfl) T.n_max (by decide +kernel) (pa_cons pe_int (pa_cons (pe_cal c__law_gcd hr (by decide) (fun σ => p0At σ) (pa_cons (pv 0) (pa_cons (pv 1) pa_nil))) pa_nil))))
    (pss_cons (ps_if (pt_cmpR op_lt (pv 1) pe_int (nomark _)) (pss_one (ps_set (i := 2) sc__law_ratio.nd rfl (by first | exact Or.inl rfl | exact Or.inr rfl) (pe_un un_neg (pv 2)))) pss_nil)
    (pss_one (ps_ret (pe_tup (pa_cons (pe_op op_fdivX (pv 0) (pv 2)) (pa_cons (pe_op op_fdivX (pv 1) (pv 2)) pa_nil))))))), ?_⟩

  rintro ds r ⟨t, b, rfl, h1, h2, hb, rfl⟩
  have g0 := gcd_ne (t := t) hb
  have g1 := sz_fits (gcd_sz (t := t) hb h2)
  have gm : (if ((Nat.gcd t.natAbs b.natAbs : Nat) : Int) > 1 then ((Nat.gcd t.natAbs b.natAbs : Nat) : Int) else 1) = ((Nat.gcd t.natAbs b.natAbs : Nat) : Int) := by
    split <;> omega
  refine en_seq (rn_asgE (d := .int ((Nat.gcd t.natAbs b.natAbs : Nat) : Int)) (ev_is (ev_cb (ea_cons ev_int (ea_cons (ev_call0 (by walk_at "ev") ⟨t, b, rfl, h2, rfl⟩) ea_nil)) rc_max2) (by rw [gm])) rfl) ?_
  by_cases hn : b < 0
  · have g0' : -((Nat.gcd t.natAbs b.natAbs : Nat) : Int) ≠ 0 := by omega
    have g1' : (-((Nat.gcd t.natAbs b.natAbs : Nat) : Int)).natAbs.log2 < 9000 := by rw [Int.natAbs_neg]; exact g1
    refine en_seq (rn_ifT' (by walk_at "ev") (by simpa using hn) (rn_asgE (by walk_at "ev") rfl)) ?_
    refine en_rt (rn_ret (by walk_at "ev")) ?_
    show _ = Except.ok (rat (nrm t b))
    unfold nrm; rw [if_pos hn]
  · refine en_seq (rn_ifF' (by walk_at "ev") (by simpa using hn) rn_next) ?_
    refine en_rt (rn_ret (by walk_at "ev")) ?_
    show _ = Except.ok (rat (nrm t b))
    unfold nrm; rw [if_neg hn]
abbrev s__law_add : Stmt := topS 30
theorem sc__law_add : FnScope ["a", "b"] ["a", "b"] (defScope s__law_add) := ⟨rfl, rfl, rfl, by decide +kernel, rfl, by decide +kernel, by decide +kernel⟩
theorem len__law_add : ∀ ds r, (RQ 2100 fun a b => rat (qadd a b)) ds r → ds.length = (["a", "b"] : List Str).length := by
  rintro _ _ ⟨_, _, rfl, _⟩; rfl
theorem ok__law_add (T : Tx K mg Z0 Z1) (D : DefAt K mg "_law_add" s__law_add []) (c__law_ratio : CalX P w K mg base CX0 2 "_law_ratio" [] R_law_ratio) : CalX P w K mg base CX0 3 "_law_add" [] (RQ 2100 fun a b => rat (qadd a b)) := by
  refine okN D (bind0 (fun _ _ _ _ _ _ us hl => match us, hl with | [_, _], _ => rfl)) sc__law_add len__law_add fun f cdv A outer s H Ex hr => ⟨_, (pss_one (ps_ret (pe_cal c__law_ratio hr (by decide) (fun σ => p0At σ) (pa_cons (pe_op op_addU (pe_op op_mulU (pe_ix ix_seq (pv 0) pe_int (fun _ _ => rfl)) (pe_ix ix_seq (pv 1) pe_int (fun _ _ => rfl))) (pe_op op_mulU (pe_ix ix_seq (pv 1) pe_int (fun _ _ => rfl)) (pe_ix ix_seq (pv 0) pe_int (fun _ _ => rfl)))) (pa_cons (pe_op op_mulU (pe_ix ix_seq (pv 0) pe_int (fun _ _ => rfl)) (pe_ix ix_seq (pv 1) pe_int (fun _ _ => rfl))) pa_nil))))), ?_⟩

  rintro ds r ⟨a, b, rfl, ha, hb, rfl⟩
  have a1 := ha.t; have a2 := ha.b; have b1 := hb.t; have b2 := hb.b
  have hz : a.2 * b.2 ≠ 0 := Int.mul_ne_zero ha.z hb.z
  refine ⟨.rt _, rn_ret (ev_call0 (by walk_at "ev") ⟨_, _, rfl, Sz.mono (by walk_at "sz") (by decide), Sz.mono (by walk_at "sz") (by decide), hz, rfl⟩), rfl⟩
abbrev s__law_mul : Stmt := topS 31
theorem sc__law_mul : FnScope ["a", "b"] ["a", "b"] (defScope s__law_mul) := ⟨rfl, rfl, rfl, by decide +kernel, rfl, by decide +kernel, by decide +kernel⟩
theorem len__law_mul : ∀ ds r, (RQ 2100 fun a b => rat (qmul a b)) ds r → ds.length = (["a", "b"] : List Str).length := by
  rintro _ _ ⟨_, _, rfl, _⟩; rfl
theorem ok__law_mul (T : Tx K mg Z0 Z1) (D : DefAt K mg "_law_mul" s__law_mul []) (c__law_ratio : CalX P w K mg base CX0 2 "_law_ratio" [] R_law_ratio) : CalX P w K mg base CX0 3 "_law_mul" [] (RQ 2100 fun a b => rat (qmul a b)) := by
  refine okN D (bind0 (fun _ _ _ _ _ _ us hl => match us, hl with | [_, _], _ => rfl)) sc__law_mul len__law_mul fun f cdv A outer s H Ex hr => ⟨_, (pss_one (ps_ret (pe_cal c__law_ratio hr (by decide) (fun σ => p0At σ) (pa_cons (pe_op op_mulU (pe_ix ix_seq (pv 0) pe_int (fun _ _ => rfl)) (pe_ix ix_seq (pv 1) pe_int (fun _ _ => rfl))) (pa_cons (pe_op op_mulU (pe_ix ix_seq (pv 0) pe_int (fun _ _ => rfl)) (pe_ix ix_seq (pv 1) pe_int (fun _ _ => rfl))) pa_nil))))), ?_⟩

  rintro ds r ⟨a, b, rfl, ha, hb, rfl⟩
  have a1 := ha.t; have a2 := ha.b; have b1 := hb.t; have b2 := hb.b
  have hz : a.2 * b.2 ≠ 0 := Int.mul_ne_zero ha.z hb.z
  refine ⟨.rt _, rn_ret (ev_call0 (by walk_at "ev") ⟨_, _, rfl, Sz.mono (by walk_at "sz") (by decide), Sz.mono (by walk_at "sz") (by decide), hz, rfl⟩), rfl⟩
abbrev s__law_below : Stmt := topS 32
theorem sc__law_below : FnScope ["a", "b"] ["a", "b"] (defScope s__law_below) := ⟨rfl, rfl, rfl, by decide +kernel, rfl, by decide +kernel, by decide +kernel⟩
theorem len__law_below : ∀ ds r, (RQ 2100 fun a b => .bool (decide (a.1 * b.2 < b.1 * a.2))) ds r → ds.length = (["a", "b"] : List Str).length := by
  rintro _ _ ⟨_, _, rfl, _⟩; rfl
theorem ok__law_below (T : Tx K mg Z0 Z1) (D : DefAt K mg "_law_below" s__law_below [])  : CalX P w K mg base CX0 1 "_law_below" [] (RQ 2100 fun a b => .bool (decide (a.1 * b.2 < b.1 * a.2))) := by
  refine okN D (bind0 (fun _ _ _ _ _ _ us hl => match us, hl with | [_, _], _ => rfl)) sc__law_below len__law_below fun f cdv A outer s H Ex hr => ⟨_, (pss_one (ps_ret (pe_cmpR op_lt (pe_op op_mulU (pe_ix ix_seq (pv 0) pe_int (fun _ _ => rfl)) (pe_ix ix_seq (pv 1) pe_int (fun _ _ => rfl))) (pe_op op_mulU (pe_ix ix_seq (pv 1) pe_int (fun _ _ => rfl)) (pe_ix ix_seq (pv 0) pe_int (fun _ _ => rfl))) (nomark _)))), ?_⟩

  rintro ds r ⟨a, b, rfl, ha, hb, rfl⟩
  have a1 := ha.t; have a2 := ha.b; have b1 := hb.t; have b2 := hb.b
  exact en_rt (rn_ret (by walk_at "ev")) rfl
abbrev s__law_is_whole : Stmt := topS 33
theorem sc__law_is_whole : FnScope ["x"] ["x"] (defScope s__law_is_whole) := ⟨rfl, rfl, rfl, by decide +kernel, rfl, by decide +kernel, by decide +kernel⟩
theorem len__law_is_whole : ∀ ds r, (R1 fun d => .bool (isWh d)) ds r → ds.length = (["x"] : List Str).length := by
  rintro _ _ ⟨_, rfl, _⟩; rfl
theorem ok__law_is_whole (T : Tx K mg Z0 Z1) (D : DefAt K mg "_law_is_whole" s__law_is_whole [])  : CalX P w K mg base CX0 1 "_law_is_whole" [] (R1 fun d => .bool (isWh d)) := by
  refine okN D (bind0 (fun _ _ _ _ _ _ us hl => match us, hl with | [_], _ => rfl)) sc__law_is_whole len__law_is_whole fun f cdv A outer s H Ex hr => ⟨_, (pss_one (ps_ret (pe_and (pe_callB call_isi (by rfl) T.n_isinstance (by decide +kernel) (pa_cons (pv 0) (pa_cons (pe_bltn (v := .ty "int") (u := .type "int") (by rfl) T.n_int (by decide +kernel) rfl) pa_nil))) (pe_one (pe_not (pe_callB call_isi (by rfl) T.n_isinstance (by decide +kernel) (pa_cons (pv 0) (pa_cons (pe_bltn (v := .ty "bool") (u := .type "bool") (by rfl) T.n_bool (by decide +kernel) rfl) pa_nil)))))))), ?_⟩

  rintro ds r ⟨d, rfl, rfl⟩
  cases d <;> refine ⟨.rt _, rn_ret (by walk_at "ev"), ?_⟩ <;> rfl
abbrev s__law_is_ratio : Stmt := topS 34
theorem sc__law_is_ratio : FnScope ["x"] ["x"] (defScope s__law_is_ratio) := ⟨rfl, rfl, rfl, by decide +kernel, rfl, by decide +kernel, by decide +kernel⟩
def R_law_is_ratio (ds : List PyData) (r : Res PyData) : Prop := ∃ d, ds = [d] ∧ (∀ a b, d = .tuple [.int a, .int b] → Sz 4400 b) ∧ r = .ok (.bool (isRt d))
theorem len__law_is_ratio : ∀ ds r, R_law_is_ratio ds r → ds.length = (["x"] : List Str).length := by
  rintro _ _ ⟨_, rfl, _⟩; rfl
theorem ok__law_is_ratio (T : Tx K mg Z0 Z1) (D : DefAt K mg "_law_is_ratio" s__law_is_ratio []) (c__law_is_whole : CalX P w K mg base CX0 1 "_law_is_whole" [] (R1 fun d => .bool (isWh d))) (c__law_gcd : CalX P w K mg base CX0 1 "_law_gcd" [] R_law_gcd) : CalX P w K mg base CX0 2 "_law_is_ratio" [] R_law_is_ratio := by
  refine okN D (bind0 (fun _ _ _ _ _ _ us hl => match us, hl with | [_], _ => rfl)) sc__law_is_ratio len__law_is_ratio fun f cdv A outer s H Ex hr => ⟨_, (pss_cons (ps_if (PW.pt (pw_or (pt_not (pt_val (pe_callB call_isi (by rfl) T.n_isinstance (by decide +kernel) (pa_cons (pv 0) (pa_cons (pe_bltn (v := .ty "tuple") (u := .type "tuple") (by rfl) T.n_tuple (by decide +kernel) rfl) pa_nil))))) (pw_or (pt_cmpR (op_neU (hu64 hr)) (pe_callB call_len (by rfl) T.n_len (by decide +kernel) (pa_cons (pv 0) pa_nil)) pe_int (nomark _)) (pw_or (pt_not (pt_val (pe_cal c__law_is_whole hr (by decide) (fun σ => p0At σ) (pa_cons (pe_ix ix_seq (pv 0) pe_int (fun _ _ => rfl)) pa_nil)))) (pw_or1 (pt_not (pt_val (pe_cal c__law_is_whole hr (by decide) (fun σ => p0At σ) (pa_cons (pe_ix ix_seq (pv 0) pe_int (fun _ _ => rfl)) pa_nil))))))))) (pss_one (ps_ret pe_bl)) pss_nil)
    (pss_one (ps_ret (pe_and (pe_cmpR op_ge (pe_ix ix_seq (pv 0) pe_int (fun _ _ => rfl)) pe_int (nomark _)) (pe_one (pe_cmpR (op_eqU (hu64 hr)) (pe_cal c__law_gcd hr (by decide) (fun σ => p0At σ) (pa_cons (pe_ix ix_seq (pv 0) pe_int (fun _ _ => rfl)) (pa_cons (pe_ix ix_seq (pv 0) pe_int (fun _ _ => rfl)) pa_nil))) pe_int (nomark _))))))), ?_⟩

  rintro ds r ⟨d, rfl, hz, rfl⟩
  by_cases ht : ∃ l, d = .tuple l
  · obtain ⟨l, rfl⟩ := ht
    by_cases h2 : l.length = 2
    · obtain ⟨x, y, rfl⟩ : ∃ x y, l = [x, y] := by
        match l, h2 with
        | [x, y], _ => exact ⟨x, y, rfl⟩
      by_cases hw : isWh x = true ∧ isWh y = true
      · obtain ⟨a, rfl⟩ : ∃ a, x = .int a := by
          cases x <;> first | exact ⟨_, rfl⟩ | exact absurd hw.1 (by simp [isWh])
        obtain ⟨b, rfl⟩ : ∃ a, y = .int a := by
          cases y <;> first | exact ⟨_, rfl⟩ | exact absurd hw.2 (by simp [isWh])
        have cg : R_law_gcd [.int a, .int b] (.ok (.int ((Nat.gcd a.natAbs b.natAbs : Nat) : Int))) := ⟨a, b, rfl, hz a b rfl, rfl⟩
        refine en_seq (rn_ifF' (by walk_at "ev") (by rfl) rn_next) (en_rt (rn_ret (by walk_at "ev")) ?_)
        show _ = Except.ok (PyData.bool (isRt _))
        unfold isRt
        simp
      · refine en_R (rn_ifT' (by walk_at "ev") ?_ (rn_ret (by walk_at "ev"))) ?_
        · cases h1 : isWh x <;> cases h2 : isWh y <;> simp_all
        · have : isRt (.tuple [x, y]) = false := by
            cases x <;> cases y <;> first | rfl | exact absurd ⟨rfl, rfl⟩ hw
          rw [this]
    · refine en_R (rn_ifT (et_orF (by walk_at "ev") (by rfl) (et_orT (by walk_at "ev") (by simp; omega))) (rn_ret (by walk_at "ev"))) ?_
      have : isRt (.tuple l) = false := by
        unfold isRt
        split
        · rename_i e; cases e; exact absurd rfl h2
        · rfl
      rw [this]
  · have ki : kitB (tyD d) "tuple" = some false := by
      cases d <;> first | rfl | exact absurd ⟨_, rfl⟩ ht
    refine en_R (rn_ifT (et_orT (by walk_at "ev") (by rfl)) (rn_ret (by walk_at "ev"))) ?_
    have : isRt d = false := by
      cases d <;> first | rfl | exact absurd ⟨_, rfl⟩ ht
    rw [this]
end
end K85
set_option Elab.async false
set_option linter.all false
set_option maxRecDepth 100000
set_option maxHeartbeats 4000000
set_option exponentiation.threshold 10000
/-! K85E: the law's words and draws. -/
namespace K85
open PySem PySem.Spec PyProof.Rows L2 DL
def cellF (ns : List Int) (k : Nat) : Int := if k < ns.length then ns.getD k 0 else ns.sum * 31 + 17 * (k : Int) + 5
def R_law_cell (ds : List PyData) (r : Res PyData) : Prop := ∃ (ns : List Int) (k : Nat), ds = [.list (ns.map .int), .int (k : Int)] ∧ r = .ok (.int (cellF ns k))
def m3F (s : Int) (k : Nat) : Int :=
  let m1 := ((s.fmod 2147483647 + 3) * 1597334677 + ((k : Int) + 1) * 805459861).fmod 2147483647
  let m2 := (m1 * m1 + 48271 * (k : Int) + 7).fmod 2147483629
  (m2 * m2 + 40692 * m2 + (k : Int) + 3).fmod 2147483587
def mixF (s : Int) (k : Nat) : Int := ((m3F s k).fdiv 16).fmod 1000
def drF (s : Int) : Nat → Int × List Int
  | 0 => (s, [])
  | k + 1 => if (10 : Int) ^ 18 ≤ s ∧ (drF s k).1 > 0 then ((drF s k).1.fdiv 1000, (drF s k).2 ++ [(drF s k).1.fmod 1000]) else ((drF s k).1, (drF s k).2 ++ [mixF s k])
def drawsF (c : Int) (n : Nat) : List Int := (drF (c.natAbs : Int) n).2
def Dr (ns : List Int) : Prop := ∀ x ∈ ns, 0 ≤ x ∧ x < 1000
theorem digits_lt : ∀ (l : List Nat), NumText.AllDigits l → NumText.digitsVal l < 10 ^ l.length := by
  have key : ∀ (l : List Nat) (a : Nat), NumText.AllDigits l → l.foldl (fun acc c => acc * 10 + (c - 48)) a < (a + 1) * 10 ^ l.length := by
    intro l
    induction l with
    | nil => intro a _; simp
    | cons c r ih =>
      intro a h
      have hc := h.head
      rw [List.foldl_cons, List.length_cons, Nat.pow_succ]
      refine Nat.lt_of_lt_of_le (ih _ h.tail) ?_
      rw [Nat.mul_comm (10 ^ r.length) 10, ← Nat.mul_assoc]
      exact Nat.mul_le_mul_right _ (by omega)
  intro l h
  have := key l 0 h
  unfold NumText.digitsVal
  simpa using this
theorem ten_two (n : Nat) : 10 ^ n ≤ 2 ^ (4 * n) := by
  rw [Nat.pow_mul]
  exact Nat.pow_le_pow_left (by decide) n
theorem figs_val {z : Str} (h : figs z = true) : ival z = ((NumText.digitsVal z.cps.toList : Nat) : Int) := by
  obtain ⟨h1, h2, h3⟩ := figs_dig h
  have e := intText_digits h1 h2 (Nat.le_trans h3 (by decide))
  unfold ival
  rw [e]; rfl
theorem figs_sz {z : Str} (h : figs z = true) : Sz 4400 (ival z) := by
  obtain ⟨h1, h2, h3⟩ := figs_dig h
  rw [figs_val h]
  unfold Sz
  rw [Int.natAbs_natCast]
  refine Nat.lt_of_lt_of_le (digits_lt _ h1) (Nat.le_trans (ten_two _) (Nat.pow_le_pow_right (by decide) ?_))
  rw [← z_len]; omega
theorem drF_ok (s : Int) : ∀ k, (drF s k).2.length = k ∧ Dr (drF s k).2
  | 0 => ⟨rfl, fun x h => by cases h⟩
  | k + 1 => by
    obtain ⟨h1, h2⟩ := drF_ok s k
    have add : ∀ y : Int, 0 ≤ y ∧ y < 1000 → ((drF s k).2 ++ [y]).length = k + 1 ∧ Dr ((drF s k).2 ++ [y]) := fun y hy =>
      ⟨by simp [h1], fun x hx => by
        rcases List.mem_append.mp hx with h | h
        · exact h2 x h
        · rw [List.mem_singleton.mp h]; exact hy⟩
    unfold drF
    split
    · exact add _ ⟨Int.fmod_nonneg_of_pos _ (by decide), Int.fmod_lt_of_pos _ (by decide)⟩
    · exact add _ ⟨Int.fmod_nonneg_of_pos _ (by decide), Int.fmod_lt_of_pos _ (by decide)⟩
def R_law_draws (ds : List PyData) (r : Res PyData) : Prop := ∃ (c : Int) (n : Nat), ds = [.int c, .int (n : Int)] ∧ n ≤ 100 ∧ r = .ok (.list ((drawsF c n).map .int))
def R_law_number (ds : List PyData) (r : Res PyData) : Prop := ∃ z : Str, ds = [.str z] ∧ z.length ≤ 5000 ∧ ratioW z = true ∧ r = .ok (rat (numW z))
section
variable {P : Program} {w : World} {K : PySem.W.Frag} {mg : Str → Option Value} {base : Heap} {Z0 Z1 CB CM : Addr}

abbrev s__law_figures : Stmt := topS 36
theorem sc__law_figures : FnScope ["word", "sign"] ["word"] (defScope s__law_figures) := ⟨rfl, rfl, rfl, by decide +kernel, rfl, by decide +kernel, by decide +kernel⟩
theorem len__law_figures : ∀ ds r, (RT 5000 fun z => .bool (figs z)) ds r → ds.length = (["word"] : List Str).length := by
  rintro _ _ ⟨_, rfl, _⟩; rfl
theorem ok__law_figures (T : Tx K mg Z0 Z1) (D : DefAt K mg "_law_figures" s__law_figures [])  : CalX P w K mg base CX0 1 "_law_figures" [] (RT 5000 fun z => .bool (figs z)) := by
  refine okN D (bind0 (fun _ _ _ _ _ _ us hl => match us, hl with | [_], _ => rfl)) sc__law_figures len__law_figures fun f cdv A outer s H Ex hr => ⟨_, (pss_cons (ps_if (PW.pt (pw_or (pt_cmpR (op_eqU (hu64 hr)) (pv 0) pe_str (nomark _)) (pw_or (pt_cmpR op_gt (pe_callB call_len (by rfl) T.n_len (by decide +kernel) (pa_cons (pv 0) pa_nil)) pe_int (nomark _)) (pw_or1 (PW.pt (pw_and (pt_cmpR op_gt (pe_callB call_len (by rfl) T.n_len (by decide +kernel) (pa_cons (pv 0) pa_nil)) pe_int (nomark _)) (pw_and1 (pt_cmpR (op_eqU (hu64 hr)) (pe_ix ix_seq (pv 0) pe_int (fun _ _ => rfl)) pe_str (nomark _))))))))) (pss_one (ps_ret pe_bl)) pss_nil)
    (pss_cons (ps_for PassesOwn.never rfl (pi_str (pv 0)) (pg_name (i := 1) sc__law_figures.nd rfl (by first | exact Or.inl rfl | exact Or.inr rfl)) (pss_one (ps_if (pt_cmpR op_notIn_sign (pv 1) pe_str (by rfl)) (pss_one (ps_ret pe_bl)) pss_nil)))
    (pss_one (ps_ret pe_bl)))), ?_⟩

  rintro ds r ⟨z, rfl, hz, rfl⟩
  have hs := sl_ok hz
  have f0 : figs z = (decide (0 < z.cps.toList.length) && (decide (z.cps.toList.length ≤ 600) && (z.cps.toList.all digB && (decide (z.cps.toList = [48]) || !decide (z.cps.toList.head? = some 48))))) := rfl
  by_cases h0 : z.cps.toList = []
  · refine en_R (rn_ifT (et_orT (by walk_at "ev") (by exact decide_eq_true ((str_emp z).mpr h0))) (rn_ret (by walk_at "ev"))) (okB ?_)
    rw [f0, h0]; rfl
  obtain ⟨c, l, hc⟩ := List.exists_cons_of_ne_nil h0
  have he : atI z.cps.toList 0 = some c := by rw [hc]; exact atI_zero
  have n0 : ¬ z = ("" : Str) := fun h => h0 ((str_emp z).mp h)
  have bad : (decide (z = ("" : Str)) || (decide ((z.length : Int) > 600) || (decide ((z.length : Int) > 1) && decide ((⟨#[c]⟩ : Str) = ("0" : Str))))) = !(decide (z.cps.toList.length ≤ 600) && (decide (z.cps.toList = [48]) || !decide (z.cps.toList.head? = some 48))) := by
    rw [decide_eq_false n0, Bool.false_or, z_len, hc]
    have e1 : decide ((⟨#[c]⟩ : Str) = ("0" : Str)) = decide (c = 48) := decide_eq_decide.mpr (one_eq c)
    rw [e1]
    simp only [List.head?_cons, Option.some.injEq, List.cons.injEq]
    by_cases g1 : (c :: l).length ≤ 600
    · rw [decide_eq_true g1, decide_eq_false (show ¬ (((c :: l).length : Nat) : Int) > 600 by omega)]
      cases l with
      | nil => by_cases g2 : c = 48 <;> simp [g2]
      | cons d m => by_cases g2 : c = 48 <;> simp [g2] <;> omega
    · rw [decide_eq_false g1, decide_eq_true (show (((c :: l).length : Nat) : Int) > 600 by omega)]
      simp
  cases hb : (decide (z = ("" : Str)) || (decide ((z.length : Int) > 600) || (decide ((z.length : Int) > 1) && decide ((⟨#[c]⟩ : Str) = ("0" : Str))))) with
  | true =>
    rw [hb] at bad
    refine en_R (rn_ifT' (by walk_at "ev") (by exact hb) (rn_ret (by walk_at "ev"))) (okB ?_)
    rw [f0]
    have g : (decide (z.cps.toList.length ≤ 600) && (decide (z.cps.toList = [48]) || !decide (z.cps.toList.head? = some 48))) = false := by
      cases q : (decide (z.cps.toList.length ≤ 600) && (decide (z.cps.toList = [48]) || !decide (z.cps.toList.head? = some 48))) with
      | false => rfl
      | true => rw [q] at bad; cases bad
    cases a1 : decide (z.cps.toList.length ≤ 600) with
    | false => simp
    | true =>
      rw [a1, Bool.true_and] at g
      rw [g]; simp
  | false =>
    rw [hb] at bad
    refine en_seq (rn_ifF' (by walk_at "ev") (by exact hb) rn_next) ?_
    have g : (decide (z.cps.toList.length ≤ 600) && (decide (z.cps.toList = [48]) || !decide (z.cps.toList.head? = some 48))) = true := by
      cases q : (decide (z.cps.toList.length ≤ 600) && (decide (z.cps.toList = [48]) || !decide (z.cps.toList.head? = some 48))) with
      | true => rfl
      | false => rw [q] at bad; cases bad
    obtain ⟨g1, g2⟩ := Bool.and_eq_true_iff.mp g
    have fin : figs z = z.cps.toList.all digB := by
      rw [f0, g1, g2, decide_eq_true (show 0 < z.cps.toList.length by rw [hc]; simp)]
      simp
    have loop := rn_all (K := K) (W := fun cls d _ H => Ex cls d H) (δ := [.val (.str z), .no]) (wi := iStr (tVar 0)) (g := gName 1) (js := [1]) (r := .bool false)
      (t := tIfS (tTest (tOp rNiC (tVar 1) (tC (.str "0123456789")))) (tRet (tC (.bl false))) tNext) badD (src_str (W := fun _ _ _ _ => False) (by walk_at "ev"))
      (fun i d hd hb => by
        obtain ⟨c, e⟩ := signs_get hd
        subst e
        refine ⟨_, _, as_name, rn_ifF' (by walk_at "ev") ?_ rn_next, by walk_at "less"⟩
        rw [dig_mem]
        simpa [badD] using hb)
      (fun i d hd hb => by
        obtain ⟨c, e⟩ := signs_get hd
        subst e
        refine ⟨_, as_name, rn_ifT' (by walk_at "ev") ?_ (rn_ret (by walk_at "ev"))⟩
        rw [dig_mem]
        simpa [badD] using hb)
    rw [any_signs] at loop
    cases hall : z.cps.toList.all digB with
    | false =>
      rw [hall] at loop
      refine en_R loop (okB ?_)
      rw [fin, hall]
    | true =>
      rw [hall] at loop
      refine en_seq loop (en_rt (rn_ret (by walk_at "ev")) (okB ?_))
      rw [fin, hall]
abbrev s__law_whole_word : Stmt := topS 37
theorem sc__law_whole_word : FnScope ["word"] ["word"] (defScope s__law_whole_word) := ⟨rfl, rfl, rfl, by decide +kernel, rfl, by decide +kernel, by decide +kernel⟩
theorem len__law_whole_word : ∀ ds r, (RT 5000 fun z => .bool (wholeW z)) ds r → ds.length = (["word"] : List Str).length := by
  rintro _ _ ⟨_, rfl, _⟩; rfl
theorem ok__law_whole_word (T : Tx K mg Z0 Z1) (D : DefAt K mg "_law_whole_word" s__law_whole_word []) (c__law_figures : CalX P w K mg base CX0 1 "_law_figures" [] (RT 5000 fun z => .bool (figs z))) : CalX P w K mg base CX0 2 "_law_whole_word" [] (RT 5000 fun z => .bool (wholeW z)) := by
  refine okN D (bind0 (fun _ _ _ _ _ _ us hl => match us, hl with | [_], _ => rfl)) sc__law_whole_word len__law_whole_word fun f cdv A outer s H Ex hr => ⟨_, (pss_cons (ps_if (pt_cmpR (op_eqU (hu64 hr)) (pe_slice sl_U (pv 0) po_none (po_some pe_int)) pe_str (nomark _)) (pss_one (ps_ret (pe_and (pe_cmpR (op_neU (hu64 hr)) (pv 0) pe_str (nomark _)) (pe_one (pe_cal c__law_figures hr (by decide) (fun σ => p0At σ) (pa_cons (pe_slice sl_U (pv 0) (po_some pe_int) po_none) pa_nil)))))) pss_nil)
    (pss_one (ps_ret (pe_cal c__law_figures hr (by decide) (fun σ => p0At σ) (pa_cons (pv 0) pa_nil))))), ?_⟩

  rintro ds r ⟨z, rfl, hz, rfl⟩
  have hs := sl_ok hz
  have lb : (bodyOf z).length ≤ 5000 := Nat.le_trans (body_len z) hz
  have wr : wholeW z = (figs (bodyOf z) && !decide (z = ("-0" : Str))) := rfl
  by_cases hm : cutS z none (some 1) = ("-" : Str)
  · have e : bodyOf z = cutS z (some 1) none := if_pos hm
    rw [e] at lb wr
    refine en_R (rn_ifT' (by walk_at "ev") (by exact decide_eq_true hm) (rn_ret (by walk_at "ev"))) (okB ?_)
    rw [wr, Bool.and_comm]
  · have e : bodyOf z = z := if_neg hm
    rw [e] at lb wr
    refine en_seq (rn_ifF' (by walk_at "ev") (by exact decide_eq_false hm) rn_next) (en_rt (rn_ret (by walk_at "ev")) (okB ?_))
    have n0 : ¬ z = ("-0" : Str) := fun h => hm (by rw [h]; decide +kernel)
    rw [wr, decide_eq_false n0]
    simp
abbrev s__law_ratio_word : Stmt := topS 38
theorem sc__law_ratio_word : FnScope ["word", "parts"] ["word"] (defScope s__law_ratio_word) := ⟨rfl, rfl, rfl, by decide +kernel, rfl, by decide +kernel, by decide +kernel⟩
theorem len__law_ratio_word : ∀ ds r, (RT 5000 fun z => .bool (ratioW z)) ds r → ds.length = (["word"] : List Str).length := by
  rintro _ _ ⟨_, rfl, _⟩; rfl
theorem ok__law_ratio_word (T : Tx K mg Z0 Z1) (D : DefAt K mg "_law_ratio_word" s__law_ratio_word []) (c__law_whole_word : CalX P w K mg base CX0 2 "_law_whole_word" [] (RT 5000 fun z => .bool (wholeW z))) (c__law_figures : CalX P w K mg base CX0 1 "_law_figures" [] (RT 5000 fun z => .bool (figs z))) (c__law_gcd : CalX P w K mg base CX0 1 "_law_gcd" [] R_law_gcd) : CalX P w K mg base CX0 3 "_law_ratio_word" [] (RT 5000 fun z => .bool (ratioW z)) := by
  refine okN D (bind0 (fun _ _ _ _ _ _ us hl => match us, hl with | [_], _ => rfl)) sc__law_ratio_word len__law_ratio_word fun f cdv A outer s H Ex hr => ⟨_, (pss_cons (ps_set (i := 1) sc__law_ratio_word.nd rfl (by first | exact Or.inl rfl | exact Or.inr rfl) (pe_bm PySem.F.plainAttrs_str PySem.F.slot_str_split PySem.F.type_str_split mt_split (pv 0) (pa_cons pe_str pa_nil)))
    (pss_cons (ps_if (pt_cmpR (op_eqU (hu64 hr)) (pe_callB call_len (by rfl) T.n_len (by decide +kernel) (pa_cons (pv 1) pa_nil)) pe_int (nomark _)) (pss_one (ps_ret (pe_cal c__law_whole_word hr (by decide) (fun σ => p0At σ) (pa_cons (pv 0) pa_nil)))) pss_nil)
    (pss_cons (ps_if (PW.pt (pw_or (pt_cmpR (op_neU (hu64 hr)) (pe_callB call_len (by rfl) T.n_len (by decide +kernel) (pa_cons (pv 1) pa_nil)) pe_int (nomark _)) (pw_or (pt_not (pt_val (pe_cal c__law_whole_word hr (by decide) (fun σ => p0At σ) (pa_cons (pe_ix ix_seq (pv 1) pe_int (fun _ _ => rfl)) pa_nil)))) (pw_or1 (pt_not (pt_val (pe_cal c__law_figures hr (by decide) (fun σ => p0At σ) (pa_cons (pe_ix ix_seq (pv 1) pe_int (fun _ _ => rfl)) pa_nil)))))))) (pss_one (ps_ret pe_bl)) pss_nil)
    (pss_one (ps_ret (pe_and (pe_cmpR op_gt (pe_callTy (call_intU T.nd) (by rfl) T.n_int (by decide +kernel) (pa_cons (pe_ix ix_seq (pv 1) pe_int (fun _ _ => rfl)) pa_nil)) pe_int (nomark _)) (pe_one (pe_cmpR (op_eqU (hu64 hr)) (pe_cal c__law_gcd hr (by decide) (fun σ => p0At σ) (pa_cons (pe_callTy (call_intU T.nd) (by rfl) T.n_int (by decide +kernel) (pa_cons (pe_ix ix_seq (pv 1) pe_int (fun _ _ => rfl)) pa_nil)) (pa_cons (pe_callTy (call_intU T.nd) (by rfl) T.n_int (by decide +kernel) (pa_cons (pe_ix ix_seq (pv 1) pe_int (fun _ _ => rfl)) pa_nil)) pa_nil))) pe_int (nomark _))))))))), ?_⟩

  rintro ds r ⟨z, rfl, hz, rfl⟩
  have hs := sl_ok hz
  have h47 : (("/" : Str).length == 0) = false := by decide +kernel
  have hs2 : z.length + 2 ≤ sizeLine := by rw [sizeLine_eq]; omega
  have sl := split_len z
  refine en_seq (rn_asgE (ev_split (by walk_at "ev") (by walk_at "ev") h47 hs2) rfl) ?_
  generalize hsp : Txt.split z ("/" : Str) = parts at *
  have hr : ratioW z = ratioL z parts := by unfold ratioW; rw [hsp]
  match parts, sl, hr with
  | [x], _, hr =>
    exact en_R (rn_ifT' (by walk_at "ev") (by rfl) (rn_ret (by walk_at "ev"))) (okB (by rw [hr]; rfl))
  | [p, q], sl, hr' =>
    have hr : ratioW z = (wholeW p && (figs q && (decide (1 < ival q) && decide (((Nat.gcd (ival p).natAbs (ival q).natAbs : Nat) : Int) = 1)))) := hr'
    have lp : p.length ≤ 5000 := Nat.le_trans (sl p (by simp)) hz
    have lq : q.length ≤ 5000 := Nat.le_trans (sl q (by simp)) hz
    refine en_seq (rn_ifF' (by walk_at "ev") (by rfl) rn_next) ?_
    cases hp : wholeW p with
    | false =>
      refine en_R (rn_ifT' (by walk_at "ev") (by rw [hp]; rfl) (rn_ret (by walk_at "ev"))) (okB ?_)
      rw [hr, hp]; rfl
    | true =>
      cases hq : figs q with
      | false =>
        refine en_R (rn_ifT' (by walk_at "ev") (by rw [hp, hq]; rfl) (rn_ret (by walk_at "ev"))) (okB ?_)
        rw [hr, hp, hq]; rfl
      | true =>
        obtain ⟨q1, q2⟩ := figs_int hq
        obtain ⟨p1, p2⟩ := body_int (Bool.and_eq_true_iff.mp hp).1
        have c1 : RC K rIntU [.str p] (.int (ival p)) := rc_intT p1 (Nat.le_trans p2 (by decide)) (.inl (Nat.le_trans p2 (by decide)))
        have c2 : RC K rIntU [.str q] (.int (ival q)) := rc_intT q1 (Nat.le_trans q2 (by decide)) (.inl (Nat.le_trans q2 (by decide)))
        have cg : R_law_gcd [.int (ival p), .int (ival q)] (.ok (.int ((Nat.gcd (ival p).natAbs (ival q).natAbs : Nat) : Int))) := ⟨_, _, rfl, figs_sz hq, rfl⟩
        refine en_seq (rn_ifF' (by walk_at "ev") (by rw [hp, hq]; rfl) rn_next) (en_rt (rn_ret (by walk_at "ev")) (okB ?_))
        rw [hr, hp, hq]; simp
  | [], _, hr =>
    exact en_seq (rn_ifF' (by walk_at "ev") (by rfl) rn_next) (en_R (rn_ifT (et_orT (by walk_at "ev") (by rfl)) (rn_ret (by walk_at "ev"))) (okB (by rw [hr]; rfl)))
  | a :: b :: c :: l, _, hr =>
    exact en_seq (rn_ifF' (by walk_at "ev") (by simp; omega) rn_next) (en_R (rn_ifT (et_orT (by walk_at "ev") (by simp; omega)) (rn_ret (by walk_at "ev"))) (okB (by rw [hr]; rfl)))
abbrev s__law_cell : Stmt := topS 26
theorem sc__law_cell : FnScope ["script", "k"] ["script", "k"] (defScope s__law_cell) := ⟨rfl, rfl, rfl, by decide +kernel, rfl, by decide +kernel, by decide +kernel⟩
theorem len__law_cell : ∀ ds r, R_law_cell ds r → ds.length = (["script", "k"] : List Str).length := by
  rintro _ _ ⟨_, _, rfl, _⟩; rfl
theorem ok__law_cell (T : Tx K mg Z0 Z1) (D : DefAt K mg "_law_cell" s__law_cell [])  : CalX P w K mg base CX0 1 "_law_cell" [] R_law_cell := by
  refine okN D (bind0 (fun _ _ _ _ _ _ us hl => match us, hl with | [_, _], _ => rfl)) sc__law_cell len__law_cell fun f cdv A outer s H Ex hr => ⟨_, (pss_cons (ps_if (pt_cmpR op_lt (pv 1) (pe_callB call_len (by rfl) T.n_len (by decide +kernel) (pa_cons (pv 0) pa_nil)) (nomark _)) (pss_one (ps_ret (pe_ix ix_seq (pv 0) (pv 1) (fun _ _ => rfl)))) pss_nil)
    (pss_one (ps_ret (pe_op op_addU (pe_op op_addU (pe_op op_mulU (pe_callB (cr_sum rfl) (by rfl) T.n_sum (by decide +kernel) (pa_cons (pv 0) pa_nil)) pe_int) (pe_op op_mulU pe_int (pv 1))) pe_int)))), ?_⟩

  rintro ds r ⟨ns, k, rfl, rfl⟩
  have ln : RC K (fun xs H Q => ∃ x n, xs = [x] ∧ LenV K x H n ∧ Q (.int n) H) [.list (ns.map .int)] (.int (ns.length : Nat)) := by
    have := rc_len_l (K := K) (l := ns.map PyData.int)
    rwa [List.length_map] at this
  have sm : RC K (rSum K) [.list (ns.map .int)] (.int ns.sum) := rc_sum
  by_cases h : k < ns.length
  · have e : cellF ns k = ns.getD k 0 := if_pos h
    rw [e]
    exact en_R (rn_ifT' (et_test (ev_op (by walk_at "ev") (ev_cb (by walk_at "ev") ln) rd_I0b)) (by simpa using h) (rn_ret (ev_op (by walk_at "ev") (by walk_at "ev") (rd_ix_L (at_int h))))) rfl
  · have e : cellF ns k = ns.sum * 31 + 17 * (k : Int) + 5 := if_neg h
    rw [e]
    exact en_seq (rn_ifF' (et_test (ev_op (by walk_at "ev") (ev_cb (by walk_at "ev") ln) rd_I0b)) (by simpa using h) rn_next) (en_rt (rn_ret (by walk_at "ev")) rfl)
end
end K85
set_option Elab.async false
set_option linter.all false
set_option maxRecDepth 100000
set_option maxHeartbeats 4000000
set_option exponentiation.threshold 10000
/-! K85F: the law's draws. -/
namespace K85
open PySem PySem.Spec PyProof.Rows L2 DL
section
variable {P : Program} {w : World} {K : PySem.W.Frag} {mg : Str → Option Value} {base : Heap} {Z0 Z1 CB CM : Addr}

abbrev s__law_draws : Stmt := topS 27
theorem sc__law_draws : FnScope ["cell", "many", "seed", "left", "big", "found", "k", "mixed"] ["cell", "many"] (defScope s__law_draws) := ⟨rfl, rfl, rfl, by decide +kernel, rfl, by decide +kernel, by decide +kernel⟩
theorem len__law_draws : ∀ ds r, R_law_draws ds r → ds.length = (["cell", "many"] : List Str).length := by
  rintro _ _ ⟨_, _, rfl, _⟩; rfl
theorem ok__law_draws (T : Tx K mg Z0 Z1) (D : DefAt K mg "_law_draws" s__law_draws [])  : CalX P w K mg base CX0 1 "_law_draws" [] R_law_draws := by
  refine okN D (bind0 (fun _ _ _ _ _ _ us hl => match us, hl with | [_, _], _ => rfl)) sc__law_draws len__law_draws fun f cdv A outer s H Ex hr => ⟨_, (pss_cons (ps_set (i := 2) sc__law_draws.nd rfl (by first | exact Or.inl rfl | exact Or.inr rfl) (pe_callB call_abs (by rfl) T.n_abs (by decide +kernel) (pa_cons (pe_callTy (call_intU T.nd) (by rfl) T.n_int (by decide +kernel) (pa_cons (pv 0) pa_nil)) pa_nil)))
    (pss_cons (ps_set (i := 3) sc__law_draws.nd rfl (by first | exact Or.inl rfl | exact Or.inr rfl) (pv 2))
    (pss_cons (ps_set (i := 4) sc__law_draws.nd rfl (by first | exact Or.inl rfl | exact Or.inr rfl) (pe_cmpR op_ge (pv 2) (pe_op op_pow pe_int pe_int) (nomark _)))
    (pss_cons (ps_set (i := 5) sc__law_draws.nd rfl (by first | exact Or.inl rfl | exact Or.inr rfl) (pe_lst pa_nil))
    (pss_cons (ps_for PassesOwn.never rfl (pi_range1 rfl T.n_range (pa_cons (pv 1) pa_nil)) (pg_name (i := 6) sc__law_draws.nd rfl (by first | exact Or.inl rfl | exact Or.inr rfl)) (pss_one (ps_if (PW.pt (pw_and (pt_val (pv 4)) (pw_and1 (pt_cmpR op_gt (pv 3) pe_int (nomark _))))) (pss_cons (ps_expr (pe_bm PySem.F.plainAttrs_list PySem.F.slot_list_append PySem.F.type_list_append mt_append (pv 5) (pa_cons (pe_op op_modN (pv 3) pe_int) pa_nil)))
    (pss_one (ps_set (i := 3) sc__law_draws.nd rfl (by first | exact Or.inl rfl | exact Or.inr rfl) (pe_op op_fdivX (pv 3) pe_int)))) (pss_cons (ps_set (i := 7) sc__law_draws.nd rfl (by first | exact Or.inl rfl | exact Or.inr rfl) (pe_op op_modN (pe_callTy (call_intU T.nd) (by rfl) T.n_int (by decide +kernel) (pa_cons (pe_op op_addU (pe_op op_mulU (pe_op op_addU (pe_op op_modN (pv 2) pe_int) pe_int) pe_int) (pe_op op_mulU (pe_op op_addU (pv 6) pe_int) pe_int)) pa_nil)) pe_int))
    (pss_cons (ps_set (i := 7) sc__law_draws.nd rfl (by first | exact Or.inl rfl | exact Or.inr rfl) (pe_op op_modN (pe_callTy (call_intU T.nd) (by rfl) T.n_int (by decide +kernel) (pa_cons (pe_op op_addU (pe_op op_addU (pe_op op_mulU (pv 7) (pv 7)) (pe_op op_mulU pe_int (pv 6))) pe_int) pa_nil)) pe_int))
    (pss_cons (ps_set (i := 7) sc__law_draws.nd rfl (by first | exact Or.inl rfl | exact Or.inr rfl) (pe_op op_modN (pe_callTy (call_intU T.nd) (by rfl) T.n_int (by decide +kernel) (pa_cons (pe_op op_addU (pe_op op_addU (pe_op op_addU (pe_op op_mulU (pv 7) (pv 7)) (pe_op op_mulU pe_int (pv 7))) (pv 6)) pe_int) pa_nil)) pe_int))
    (pss_one (ps_expr (pe_bm PySem.F.plainAttrs_list PySem.F.slot_list_append PySem.F.type_list_append mt_append (pv 5) (pa_cons (pe_op op_modN (pe_op op_fdivX (pv 7) pe_int) pe_int) pa_nil))))))))))
    (pss_one (ps_ret (pv 5)))))))), ?_⟩

  rintro ds r ⟨c, n, rfl, hn, rfl⟩
  refine en_seq (rn_asgE (d := .int (c.natAbs : Int)) (ev_is (by walk_at "ev") (by rw [abs_nat])) rfl) ?_
  refine en_seq (rn_asgE (by walk_at "ev") rfl) ?_
  refine en_seq (rn_asgE (by walk_at "ev") rfl) ?_
  refine en_seq (rn_asgO ea_nil) ?_
  refine en_seq (δ1 := [.val (.int c), .val (.int (n : Int)), .val (.int (c.natAbs : Int)), .val (.int (drF (c.natAbs : Int) n).1), .val (.bool (decide ((10 : Int) ^ 18 ≤ (c.natAbs : Int)))), .own ((drF (c.natAbs : Int) n).2.map .int), .no, .no]) ?_ (rn_frzE (i := 5) rfl (en_rt (rn_ret (by walk_at "ev")) rfl))
  generalize hs : (c.natAbs : Int) = s
  refine rn_at (δ := [.val (.int c), .val (.int (n : Int)), .val (.int s), .val (.int s), .val (.bool (decide ((10 : Int) ^ 18 ≤ s))), .own [], .no, .no]) rfl ?_
  have src := (src_rng1 (K := K) (δ := [.val (.int c), .val (.int (n : Int)), .val (.int s), .val (.int s), .val (.bool (decide ((10 : Int) ^ 18 ≤ s))), .own [], .no, .no]) (W := fun _ _ _ _ => False) (j := (n : Int)) (ta := tCons (tVar 1) tNil) (by walk_at "ev") (by omega) (by omega))
  refine rn_for (js := [6]) (fun k => [.val (.int c), .val (.int (n : Int)), .val (.int s), .val (.int (drF s k).1), .val (.bool (decide ((10 : Int) ^ 18 ≤ s))), .own ((drF s k).2.map .int), .no, .no]) n ?_ src (fun k d hk hd => ?_) (.inl ⟨?_, rfl⟩)
  · rw [iota_len]; simp
  rotate_left
  · rw [iota_len]; simp
  rw [iota_get (by simpa using hk)] at hd
  cases hd
  have e0 : (0 : Int) + (k : Nat) = (k : Int) := by omega
  rw [e0]
  have hl : ((drF s k).2.map PyData.int).length < sizeLine := by rw [List.length_map, (drF_ok s k).1, sizeLine_eq]; omega
  by_cases hb : (10 : Int) ^ 18 ≤ s ∧ (drF s k).1 > 0
  · have e : drF s (k + 1) = ((drF s k).1.fdiv 1000, (drF s k).2 ++ [(drF s k).1.fmod 1000]) := by
      show (if _ then _ else _) = _
      rw [if_pos hb]
    rw [e, List.map_append]
    refine ⟨_, .nx _, as_name, rfl, rn_weak (δ1 := [.val (.int c), .val (.int (n : Int)), .val (.int s), .val (.int ((drF s k).1.fdiv 1000)), .val (.bool (decide ((10 : Int) ^ 18 ≤ s))), .own ((drF s k).2.map .int ++ [.int ((drF s k).1.fmod 1000)]), .val (.int (k : Int)), .no]) (by walk_at "less") ?_⟩
    exact rn_ifT' (by walk_at "ev") (by rw [decide_eq_true hb.1, decide_eq_true hb.2]; rfl) (rn_seq (rn_app (i := 5) rfl (by walk_at "ev") hl) (rn_asgE (by walk_at "ev") rfl))
  · have e : drF s (k + 1) = ((drF s k).1, (drF s k).2 ++ [mixF s k]) := by
      show (if _ then _ else _) = _
      rw [if_neg hb]
    rw [e, List.map_append]
    refine ⟨_, .nx _, as_name, rfl, rn_weak (δ1 := [.val (.int c), .val (.int (n : Int)), .val (.int s), .val (.int (drF s k).1), .val (.bool (decide ((10 : Int) ^ 18 ≤ s))), .own ((drF s k).2.map .int ++ [.int (mixF s k)]), .val (.int (k : Int)), .val (.int (m3F s k))]) (by walk_at "less") ?_⟩
    have sk : Sz 10 (k : Int) := by
      show (k : Int).natAbs < 2 ^ 10
      have : (2 : Nat) ^ 10 = 1024 := rfl
      omega
    refine rn_ifF' (by walk_at "ev") ?_ (rn_seq (rn_asgE (by walk_at "ev") rfl) (rn_seq (rn_asgE (by walk_at "ev") rfl) (rn_seq (rn_asgE (by walk_at "ev") rfl) (rn_nxE (rn_app (i := 5) rfl (by walk_at "ev") hl) rfl))))
    rw [← Bool.not_eq_true, Bool.and_eq_true, decide_eq_true_eq, decide_eq_true_eq]
    exact hb
end
end K85
set_option Elab.async false
set_option linter.all false
set_option maxRecDepth 100000
set_option maxHeartbeats 4000000
set_option exponentiation.threshold 10000
/-! K85G: the law's comparison. -/
namespace K85
open PySem PySem.Spec PyProof.Rows L2 DL
/-- of at most n tuples one in another -/
def mOk : Nat → PyData → Prop
  | _, .none => True
  | _, .bool _ => True
  | _, .int _ => True
  | _, .str _ => True
  | n + 1, .tuple l => l.length ≤ 1000 ∧ ∀ y ∈ l, mOk n y
  | _, _ => False
def RM : Nat → List PyData → Res PyData → Prop
  | 0, _, _ => False
  | n + 1, ds, r => ∃ d, ds = [d, d] ∧ mOk n d ∧ r = .ok (.bool true)
section
variable {P : Program} {w : World} {K : PySem.W.Frag} {mg : Str → Option Value} {base : Heap} {Z0 Z1 CB CM : Addr}

theorem hot__law_is_whole (T : Tx K mg Z0 Z1) (D : DefAt K mg "_law_is_whole" s__law_is_whole [])  : CalH P w K mg base 1 "_law_is_whole" (R1 fun d => .bool (isWh d)) := by
  refine okH D (bind0 (fun _ _ _ _ _ _ us hl => match us, hl with | [_], _ => rfl)) sc__law_is_whole len__law_is_whole fun f cdv A outer s H Ex p hot hr => ?_
  have hc := hot_def (P := P) (w := w) (K := K) (mg := mg) (base := base) (N := ["x"]) (qual := "_law_is_whole") (scope := defScope s__law_is_whole) (f := f) (cd := cdv) (outer := outer) (s := s) (H := H) (E := Ex) hot
  refine ⟨_, (pss_one (ps_ret (pe_and (pe_callB call_isi (by rfl) T.n_isinstance (by decide +kernel) (pa_cons (pv 0) (pa_cons (pe_bltn (v := .ty "int") (u := .type "int") (by rfl) T.n_int (by decide +kernel) rfl) pa_nil))) (pe_one (pe_not (pe_callB call_isi (by rfl) T.n_isinstance (by decide +kernel) (pa_cons (pv 0) (pa_cons (pe_bltn (v := .ty "bool") (u := .type "bool") (by rfl) T.n_bool (by decide +kernel) rfl) pa_nil)))))))), ?_⟩

  rintro ds r ⟨d, rfl, rfl⟩
  cases d <;> refine ⟨.rt _, rn_ret (by walk_at "ev"), ?_⟩ <;> rfl
abbrev s__law_match : Stmt := topS 35
theorem sc__law_match : FnScope ["actual", "due", "k"] ["actual", "due"] (defScope s__law_match) := ⟨rfl, rfl, rfl, by decide +kernel, rfl, by decide +kernel, by decide +kernel⟩
theorem len__law_match (nn : Nat) : ∀ ds r, (RM nn) ds r → ds.length = (["actual", "due"] : List Str).length := by
  cases nn with
  | zero => intro _ _ h; exact h.elim
  | succ m => rintro _ _ ⟨_, rfl, _⟩; rfl
theorem step__law_match {nn kk : Nat} (hk : 2 ≤ kk) (T : Tx K mg Z0 Z1) (D : DefAt K mg "_law_match" s__law_match []) (c__law_is_whole : CalX P w K mg base CX0 1 "_law_is_whole" [] (R1 fun d => .bool (isWh d))) (c__law_match : CalX P w K mg base CX0 kk "_law_match" [] (RM nn)) : CalX P w K mg base CX0 (kk + 1) "_law_match" [] (RM (nn + 1)) := by
  refine okN D (bind0 (fun _ _ _ _ _ _ us hl => match us, hl with | [_, _], _ => rfl)) sc__law_match (len__law_match (nn + 1)) fun f cdv A outer s H Ex hr => ⟨_, (pss_cons (ps_if (pt_cmp (pc_isN (pv 1)) rfl) (pss_one (ps_ret (pe_cmp (pc_isN (pv 0)) rfl))) pss_nil)
    (pss_cons (ps_if (pt_val (pe_callB call_isi (by rfl) T.n_isinstance (by decide +kernel) (pa_cons (pv 1) (pa_cons (pe_bltn (v := .ty "bool") (u := .type "bool") (by rfl) T.n_bool (by decide +kernel) rfl) pa_nil)))) (pss_one (ps_ret (pe_and (pe_callB call_isi (by rfl) T.n_isinstance (by decide +kernel) (pa_cons (pv 0) (pa_cons (pe_bltn (v := .ty "bool") (u := .type "bool") (by rfl) T.n_bool (by decide +kernel) rfl) pa_nil))) (pe_one (pe_cmpR (op_eqU (hu64 hr)) (pv 0) (pv 1) (nomark _)))))) pss_nil)
    (pss_cons (ps_if (pt_val (pe_callB call_isi (by rfl) T.n_isinstance (by decide +kernel) (pa_cons (pv 1) (pa_cons (pe_bltn (v := .ty "int") (u := .type "int") (by rfl) T.n_int (by decide +kernel) rfl) pa_nil)))) (pss_one (ps_ret (pe_and (pe_cal c__law_is_whole hr (Nat.le_trans (by decide) hk) (fun σ => p0At σ) (pa_cons (pv 0) pa_nil)) (pe_one (pe_cmpR (op_eqU (hu64 hr)) (pv 0) (pv 1) (nomark _)))))) pss_nil)
    (pss_cons (ps_if (pt_val (pe_callB call_isi (by rfl) T.n_isinstance (by decide +kernel) (pa_cons (pv 1) (pa_cons (pe_bltn (v := .ty "str") (u := .type "str") (by rfl) T.n_str (by decide +kernel) rfl) pa_nil)))) (pss_one (ps_ret (pe_and (pe_callB call_isi (by rfl) T.n_isinstance (by decide +kernel) (pa_cons (pv 0) (pa_cons (pe_bltn (v := .ty "str") (u := .type "str") (by rfl) T.n_str (by decide +kernel) rfl) pa_nil))) (pe_one (pe_cmpR (op_eqU (hu64 hr)) (pv 0) (pv 1) (nomark _)))))) pss_nil)
    (pss_cons (ps_if (PW.pt (pw_or (pt_not (pt_val (pe_callB call_isi (by rfl) T.n_isinstance (by decide +kernel) (pa_cons (pv 0) (pa_cons (pe_bltn (v := .ty "tuple") (u := .type "tuple") (by rfl) T.n_tuple (by decide +kernel) rfl) pa_nil))))) (pw_or1 (pt_cmpR (op_neU (hu64 hr)) (pe_callB call_len (by rfl) T.n_len (by decide +kernel) (pa_cons (pv 0) pa_nil)) (pe_callB call_len (by rfl) T.n_len (by decide +kernel) (pa_cons (pv 1) pa_nil)) (nomark _))))) (pss_one (ps_ret pe_bl)) pss_nil)
    (pss_cons (ps_for PassesOwn.never rfl (pi_range1 rfl T.n_range (pa_cons (pe_callB call_len (by rfl) T.n_len (by decide +kernel) (pa_cons (pv 1) pa_nil)) pa_nil)) (pg_name (i := 2) sc__law_match.nd rfl (by first | exact Or.inl rfl | exact Or.inr rfl)) (pss_one (ps_if (pt_not (pt_val (pe_cal c__law_match hr (Nat.le_refl _) (fun σ => p0At σ) (pa_cons (pe_ix ix_seq (pv 0) (pv 2) (fun _ _ => rfl)) (pa_cons (pe_ix ix_seq (pv 1) (pv 2) (fun _ _ => rfl)) pa_nil))))) (pss_one (ps_ret pe_bl)) pss_nil)))
    (pss_one (ps_ret pe_bl)))))))), ?_⟩

  rintro ds r ⟨d, rfl, hd, rfl⟩
  cases d with
  | none => exact en_R (rn_ifT' (by walk_at "ev") (by rfl) (rn_ret (by walk_at "ev"))) (okB (by rfl))
  | bool b =>
    refine en_seq (rn_ifF' (by walk_at "ev") (by rfl) rn_next) (en_R (rn_ifT' (by walk_at "ev") (by rfl) (rn_ret (by walk_at "ev"))) (okB ?_))
    simp
  | int i =>
    refine en_seq (rn_ifF' (by walk_at "ev") (by rfl) rn_next) (en_seq (rn_ifF' (by walk_at "ev") (by rfl) rn_next) (en_R (rn_ifT' (by walk_at "ev") (by rfl) (rn_ret (by walk_at "ev"))) (okB ?_)))
    simp [isWh]
  | str z =>
    refine en_seq (rn_ifF' (by walk_at "ev") (by rfl) rn_next) (en_seq (rn_ifF' (by walk_at "ev") (by rfl) rn_next) (en_seq (rn_ifF' (by walk_at "ev") (by rfl) rn_next) (en_R (rn_ifT' (by walk_at "ev") (by rfl) (rn_ret (by walk_at "ev"))) (okB ?_))))
    simp
  | tuple l =>
    cases nn with
    | zero => exact hd.elim
    | succ m =>
      obtain ⟨hl, hd⟩ := hd
      refine en_seq (rn_ifF' (by walk_at "ev") (by rfl) rn_next) (en_seq (rn_ifF' (by walk_at "ev") (by rfl) rn_next) (en_seq (rn_ifF' (by walk_at "ev") (by rfl) rn_next) (en_seq (rn_ifF' (by walk_at "ev") (by rfl) rn_next) (en_seq (rn_ifF' (by walk_at "ev") (by simp) rn_next) (en_seq (rn_none (js := [2]) (src_rng1 (W := fun _ _ _ _ => False) (j := (l.length : Int)) (by walk_at "ev") (by omega) (by omega)) (fun i d hd' => ?_)) (en_rt (rn_ret (by walk_at "ev")) rfl))))))
      have hi : i < l.length := by
        have := (List.getElem?_eq_some_iff.mp hd').1
        rw [iota_len] at this
        simpa using this
      rw [iota_get (by simpa using hi)] at hd'
      cases hd'
      have e0 : (0 : Int) + (i : Nat) = (i : Int) := by omega
      rw [e0]
      have hx : atI l (i : Int) = some l[i] := by rw [at_nat, List.getElem?_eq_getElem hi]
      have ix := rd_ix_T (K := K) hx
      have cm : RM (m + 1) [l[i], l[i]] (.ok (.bool true)) := ⟨_, rfl, hd _ (List.getElem_mem hi), rfl⟩
      exact ⟨_, _, as_name, rn_ifF' (by walk_at "ev") (by rfl) rn_next, by walk_at "less"⟩
  | list l => cases nn <;> exact hd.elim
  | dict l => cases nn <;> exact hd.elim
theorem hot__law_match {nn kk : Nat} (hk : 2 ≤ kk) (T : Tx K mg Z0 Z1) (D : DefAt K mg "_law_match" s__law_match []) (h__law_is_whole : CalH P w K mg base 1 "_law_is_whole" (R1 fun d => .bool (isWh d))) (h__law_match : CalH P w K mg base kk "_law_match" (RM nn)) : CalH P w K mg base (kk + 1) "_law_match" (RM (nn + 1)) := by
  refine okH D (bind0 (fun _ _ _ _ _ _ us hl => match us, hl with | [_, _], _ => rfl)) sc__law_match (len__law_match (nn + 1)) fun f cdv A outer s H Ex p hot hr => ?_
  have hc := hot_def (P := P) (w := w) (K := K) (mg := mg) (base := base) (N := ["actual", "due", "k"]) (qual := "_law_match") (scope := defScope s__law_match) (f := f) (cd := cdv) (outer := outer) (s := s) (H := H) (E := Ex) hot
  refine ⟨_, (pss_cons (ps_if (pt_cmp (pc_isN (pv 1)) rfl) (pss_one (ps_ret (pe_cmp (pc_isN (pv 0)) rfl))) pss_nil)
    (pss_cons (ps_if (pt_val (pe_callB call_isi (by rfl) T.n_isinstance (by decide +kernel) (pa_cons (pv 1) (pa_cons (pe_bltn (v := .ty "bool") (u := .type "bool") (by rfl) T.n_bool (by decide +kernel) rfl) pa_nil)))) (pss_one (ps_ret (pe_and (pe_callB call_isi (by rfl) T.n_isinstance (by decide +kernel) (pa_cons (pv 0) (pa_cons (pe_bltn (v := .ty "bool") (u := .type "bool") (by rfl) T.n_bool (by decide +kernel) rfl) pa_nil))) (pe_one (pe_cmpR (op_eqU (hu64H hr)) (pv 0) (pv 1) (nomark _)))))) pss_nil)
    (pss_cons (ps_if (pt_val (pe_callB call_isi (by rfl) T.n_isinstance (by decide +kernel) (pa_cons (pv 1) (pa_cons (pe_bltn (v := .ty "int") (u := .type "int") (by rfl) T.n_int (by decide +kernel) rfl) pa_nil)))) (pss_one (ps_ret (pe_and (pe_calH h__law_is_whole hr (Nat.le_trans (by decide) hk) hc (pa_cons (pv 0) pa_nil)) (pe_one (pe_cmpR (op_eqU (hu64H hr)) (pv 0) (pv 1) (nomark _)))))) pss_nil)
    (pss_cons (ps_if (pt_val (pe_callB call_isi (by rfl) T.n_isinstance (by decide +kernel) (pa_cons (pv 1) (pa_cons (pe_bltn (v := .ty "str") (u := .type "str") (by rfl) T.n_str (by decide +kernel) rfl) pa_nil)))) (pss_one (ps_ret (pe_and (pe_callB call_isi (by rfl) T.n_isinstance (by decide +kernel) (pa_cons (pv 0) (pa_cons (pe_bltn (v := .ty "str") (u := .type "str") (by rfl) T.n_str (by decide +kernel) rfl) pa_nil))) (pe_one (pe_cmpR (op_eqU (hu64H hr)) (pv 0) (pv 1) (nomark _)))))) pss_nil)
    (pss_cons (ps_if (PW.pt (pw_or (pt_not (pt_val (pe_callB call_isi (by rfl) T.n_isinstance (by decide +kernel) (pa_cons (pv 0) (pa_cons (pe_bltn (v := .ty "tuple") (u := .type "tuple") (by rfl) T.n_tuple (by decide +kernel) rfl) pa_nil))))) (pw_or1 (pt_cmpR (op_neU (hu64H hr)) (pe_callB call_len (by rfl) T.n_len (by decide +kernel) (pa_cons (pv 0) pa_nil)) (pe_callB call_len (by rfl) T.n_len (by decide +kernel) (pa_cons (pv 1) pa_nil)) (nomark _))))) (pss_one (ps_ret pe_bl)) pss_nil)
    (pss_cons (L2H.ps_forH (passes_of rfl) hc (L2H.pi_range1H rfl T.n_range (pa_cons (pe_callB call_len (by rfl) T.n_len (by decide +kernel) (pa_cons (pv 1) pa_nil)) pa_nil)) (pg_name (i := 2) sc__law_match.nd rfl (by first | exact Or.inl rfl | exact Or.inr rfl)) (pss_one (ps_if (pt_not (pt_val (pe_calH h__law_match hr (Nat.le_refl _) hc (pa_cons (pe_ix ix_seq (pv 0) (pv 2) (fun _ _ => rfl)) (pa_cons (pe_ix ix_seq (pv 1) (pv 2) (fun _ _ => rfl)) pa_nil))))) (pss_one (ps_ret pe_bl)) pss_nil)))
    (pss_one (ps_ret pe_bl)))))))), ?_⟩

  rintro ds r ⟨d, rfl, hd, rfl⟩
  cases d with
  | none => exact en_R (rn_ifT' (by walk_at "ev") (by rfl) (rn_ret (by walk_at "ev"))) (okB (by rfl))
  | bool b =>
    refine en_seq (rn_ifF' (by walk_at "ev") (by rfl) rn_next) (en_R (rn_ifT' (by walk_at "ev") (by rfl) (rn_ret (by walk_at "ev"))) (okB ?_))
    simp
  | int i =>
    refine en_seq (rn_ifF' (by walk_at "ev") (by rfl) rn_next) (en_seq (rn_ifF' (by walk_at "ev") (by rfl) rn_next) (en_R (rn_ifT' (by walk_at "ev") (by rfl) (rn_ret (by walk_at "ev"))) (okB ?_)))
    simp [isWh]
  | str z =>
    refine en_seq (rn_ifF' (by walk_at "ev") (by rfl) rn_next) (en_seq (rn_ifF' (by walk_at "ev") (by rfl) rn_next) (en_seq (rn_ifF' (by walk_at "ev") (by rfl) rn_next) (en_R (rn_ifT' (by walk_at "ev") (by rfl) (rn_ret (by walk_at "ev"))) (okB ?_))))
    simp
  | tuple l =>
    cases nn with
    | zero => exact hd.elim
    | succ m =>
      obtain ⟨hl, hd⟩ := hd
      refine en_seq (rn_ifF' (by walk_at "ev") (by rfl) rn_next) (en_seq (rn_ifF' (by walk_at "ev") (by rfl) rn_next) (en_seq (rn_ifF' (by walk_at "ev") (by rfl) rn_next) (en_seq (rn_ifF' (by walk_at "ev") (by rfl) rn_next) (en_seq (rn_ifF' (by walk_at "ev") (by simp) rn_next) (en_seq (rn_none (js := [2]) (src_rng1 (W := fun _ _ _ _ => False) (j := (l.length : Int)) (by walk_at "ev") (by omega) (by omega)) (fun i d hd' => ?_)) (en_rt (rn_ret (by walk_at "ev")) rfl))))))
      have hi : i < l.length := by
        have := (List.getElem?_eq_some_iff.mp hd').1
        rw [iota_len] at this
        simpa using this
      rw [iota_get (by simpa using hi)] at hd'
      cases hd'
      have e0 : (0 : Int) + (i : Nat) = (i : Int) := by omega
      rw [e0]
      have hx : atI l (i : Int) = some l[i] := by rw [at_nat, List.getElem?_eq_getElem hi]
      have ix := rd_ix_T (K := K) hx
      have cm : RM (m + 1) [l[i], l[i]] (.ok (.bool true)) := ⟨_, rfl, hd _ (List.getElem_mem hi), rfl⟩
      exact ⟨_, _, as_name, rn_ifF' (by walk_at "ev") (by rfl) rn_next, by walk_at "less"⟩
  | list l => cases nn <;> exact hd.elim
  | dict l => cases nn <;> exact hd.elim
end
end K85
set_option Elab.async false
set_option linter.all false
set_option maxRecDepth 100000
set_option maxHeartbeats 4000000
set_option exponentiation.threshold 10000
/-! K85H: the law's digits. -/
namespace K85
open PySem PySem.Spec PyProof.Rows L2 DL
def dig3 (i : Int) : Str := cutS (toString (1000 + i) : Str) (some 1) none
def rep (z : Str) (n : Int) : Str := ⟨(List.replicate n.toNat z.cps).foldl (· ++ ·) #[]⟩
def dig0 (ns : List Int) : Str := Txt.join ("" : Str) (ns.map dig3)
def dig1 (ns : List Int) (size : Int) : Str := cutS (rep (dig0 ns) (size.fdiv ((dig0 ns).length : Int) + 1)) none (some size)
def digF (ns : List Int) (size : Int) : Str := if (dig1 ns size).cps.toList.head? = some 48 then ("7" : Str) ++ cutS (dig1 ns size) (some 1) none else dig1 ns size
theorem join_flat : ∀ l : List (List Nat), TL.joinL [] l = l.flatten
  | [] => rfl
  | [p] => by simp [TL.joinL]
  | p :: q :: r => by
    show p ++ ([] ++ TL.joinL [] (q :: r)) = _
    rw [join_flat (q :: r)]
    simp
theorem dig3_ok {i : Int} (h : 0 ≤ i ∧ i < 1000) : NumText.AllDigits (dig3 i).cps.toList ∧ (dig3 i).cps.toList.length = 3 := by
  have e : (dig3 i).cps.toList = (TL.numL (1000 + i).natAbs).drop 1 := by
    unfold dig3
    rw [show (1 : Int) = ((1 : Nat) : Int) from rfl, cut_tail]
    have : (1000 + i) = (((1000 + i).natAbs : Nat) : Int) := by omega
    have q := TL.tl_num (1000 + i).natAbs
    rw [← this] at q
    show (TL.tl (Str.ofString (toString (1000 + i)))).drop 1 = _
    rw [q]
  have a : NumText.AllDigits (TL.numL (1000 + i).natAbs) := TL.numL_digits _
  have l4 : (TL.numL (1000 + i).natAbs).length = 4 := by
    have h1 : 1000 ≤ (1000 + i).natAbs := by omega
    have h2 : (1000 + i).natAbs < 2000 := by omega
    rw [TL.numL_step (by omega), TL.numL_step (by omega), TL.numL_step (by omega), TL.numL_lt (by omega)]
    rfl
  rw [e]
  exact ⟨fun c hc => a c (List.mem_of_mem_drop hc), by rw [List.length_drop, l4]⟩
theorem dig0_list (ns : List Int) : (dig0 ns).cps.toList = (ns.map fun i => (dig3 i).cps.toList).flatten := by
  unfold dig0
  rw [TL.join_eq]
  show TL.tl _ = _
  rw [TL.tl_join]
  have e : TL.tl ("" : Str) = [] := by decide +kernel
  rw [e, join_flat, List.map_map]
  rfl
theorem dig0_ok : ∀ {ns : List Int}, Dr ns → NumText.AllDigits (dig0 ns).cps.toList ∧ (dig0 ns).cps.toList.length = 3 * ns.length := by
  intro ns h
  rw [dig0_list]
  induction ns with
  | nil => exact ⟨fun c hc => by simp at hc, rfl⟩
  | cons i r ih =>
    obtain ⟨h1, h2⟩ := ih fun x hx => h x (List.mem_cons_of_mem _ hx)
    obtain ⟨g1, g2⟩ := dig3_ok (h i List.mem_cons_self)
    rw [List.map_cons, List.flatten_cons]
    refine ⟨fun c hc => ?_, ?_⟩
    · rcases List.mem_append.mp hc with q | q
      · exact g1 c q
      · exact h1 c q
    · rw [List.length_append, g2, h2, List.length_cons]; omega
theorem rep_list (z : Str) (n : Int) : (rep z n).cps.toList = (List.replicate n.toNat z.cps.toList).flatten := by
  unfold rep
  have key : ∀ (k : Nat) (a : Array Nat), ((List.replicate k z.cps).foldl (· ++ ·) a).toList = a.toList ++ (List.replicate k z.cps.toList).flatten := by
    intro k
    induction k with
    | zero => intro a; simp
    | succ k ih =>
      intro a
      rw [List.replicate_succ, List.foldl_cons, ih, List.replicate_succ, List.flatten_cons]
      simp
  rw [key]; rfl
theorem rep_len (l : List Nat) (n : Nat) : ((List.replicate n l).flatten).length = n * l.length := by
  simp
theorem cut_int {z : Str} {n : Int} (h : 0 ≤ n) : (cutS z none (some n)).cps.toList = z.cps.toList.take n.toNat := by
  have : n = ((n.toNat : Nat) : Int) := by omega
  have e := cut_head z n.toNat
  rw [← this] at e
  exact e
theorem dig1_ok {ns : List Int} {size : Int} (h : Dr ns) (hn : 1 ≤ ns.length) (hs : 1 ≤ size) : NumText.AllDigits (dig1 ns size).cps.toList ∧ (dig1 ns size).cps.toList.length = size.toNat := by
  obtain ⟨h1, h2⟩ := dig0_ok h
  unfold dig1
  rw [cut_int (by omega), rep_list]
  refine ⟨fun c hc => ?_, ?_⟩
  · have := List.mem_of_mem_take hc
    obtain ⟨l, hl, hcl⟩ := List.mem_flatten.mp this
    rw [(List.mem_replicate.mp hl).2] at hcl
    exact h1 c hcl
  · rw [List.length_take, rep_len]
    have zl : ((dig0 ns).length : Int) = ((3 * ns.length : Nat) : Int) := by rw [z_len, h2]
    rw [zl, h2]
    have e : size.fdiv ((3 * ns.length : Nat) : Int) = ((size.toNat / (3 * ns.length) : Nat) : Int) := by
      have : size = ((size.toNat : Nat) : Int) := by omega
      rw [this, Int.fdiv_eq_ediv_of_nonneg _ (by omega)]
      simp
    rw [e]
    have e2 : (((size.toNat / (3 * ns.length) : Nat) : Int) + 1).toNat = size.toNat / (3 * ns.length) + 1 := Int.toNat_natCast_add_one
    rw [e2]
    have d := Nat.div_add_mod size.toNat (3 * ns.length)
    have m := Nat.mod_lt size.toNat (show 0 < 3 * ns.length by omega)
    have : size.toNat ≤ (size.toNat / (3 * ns.length) + 1) * (3 * ns.length) := by
      rw [Nat.add_mul, Nat.one_mul, Nat.mul_comm]
      omega
    exact Nat.min_eq_left this
/-- a text of digits that does not begin with 0 -/
structure Cn (z : Str) (n : Nat) : Prop where
  dig : NumText.AllDigits z.cps.toList
  len : z.cps.toList.length = n
  hd : ∃ c l, z.cps.toList = c :: l ∧ 49 ≤ c
theorem digF_ok {ns : List Int} {size : Int} (h : Dr ns) (hn : 1 ≤ ns.length) (hs : 1 ≤ size) : Cn (digF ns size) size.toNat := by
  obtain ⟨h1, h2⟩ := dig1_ok h hn hs
  unfold digF
  have ne : (dig1 ns size).cps.toList ≠ [] := fun e => by rw [e] at h2; simp at h2; omega
  obtain ⟨c, l, hc⟩ := List.exists_cons_of_ne_nil ne
  have e7 : ("7" : Str).cps.toList = [55] := by decide +kernel
  split
  · have e : (("7" : Str) ++ cutS (dig1 ns size) (some 1) none).cps.toList = 55 :: l := by
      show TL.tl _ = _
      rw [TL.tl_append]
      show ("7" : Str).cps.toList ++ (cutS (dig1 ns size) (some ((1 : Nat) : Int)) none).cps.toList = _
      rw [cut_tail, e7, hc]; rfl
    refine ⟨?_, ?_, 55, l, e, by decide⟩
    · rw [e]
      intro d hd
      rcases List.mem_cons.mp hd with q | q
      · rw [q]; omega
      · exact h1 d (by rw [hc]; exact List.mem_cons_of_mem _ q)
    · rw [e, ← h2, hc]; rfl
  · rename_i hh
    refine ⟨h1, h2, c, l, hc, ?_⟩
    have := h1 c (by rw [hc]; exact List.mem_cons_self)
    rw [hc] at hh
    have : c ≠ 48 := fun e => hh (by rw [e]; rfl)
    omega
def R_law_digits (ds : List PyData) (r : Res PyData) : Prop := ∃ (ns : List Int) (size : Int), ds = [.list (ns.map .int), .int size] ∧ Dr ns ∧ 1 ≤ ns.length ∧ ns.length ≤ 64 ∧ 1 ≤ size ∧ size ≤ 700 ∧ r = .ok (.str (digF ns size))
section
variable {P : Program} {w : World} {K : PySem.W.Frag} {mg : Str → Option Value} {base : Heap} {Z0 Z1 CB CM : Addr}

abbrev s__law_number : Stmt := topS 39
theorem sc__law_number : FnScope ["word", "parts"] ["word"] (defScope s__law_number) := ⟨rfl, rfl, rfl, by decide +kernel, rfl, by decide +kernel, by decide +kernel⟩
theorem len__law_number : ∀ ds r, R_law_number ds r → ds.length = (["word"] : List Str).length := by
  rintro _ _ ⟨_, rfl, _⟩; rfl
theorem ok__law_number (T : Tx K mg Z0 Z1) (D : DefAt K mg "_law_number" s__law_number [])  : CalX P w K mg base CX0 1 "_law_number" [] R_law_number := by
  refine okN D (bind0 (fun _ _ _ _ _ _ us hl => match us, hl with | [_], _ => rfl)) sc__law_number len__law_number fun f cdv A outer s H Ex hr => ⟨_, (pss_cons (ps_set (i := 1) sc__law_number.nd rfl (by first | exact Or.inl rfl | exact Or.inr rfl) (pe_bm PySem.F.plainAttrs_str PySem.F.slot_str_split PySem.F.type_str_split mt_split (pv 0) (pa_cons pe_str pa_nil)))
    (pss_cons (ps_if (pt_cmpR (op_eqU (hu64 hr)) (pe_callB call_len (by rfl) T.n_len (by decide +kernel) (pa_cons (pv 1) pa_nil)) pe_int (nomark _)) (pss_one (ps_ret (pe_tup (pa_cons (pe_callTy (call_intU T.nd) (by rfl) T.n_int (by decide +kernel) (pa_cons (pe_ix ix_seq (pv 1) pe_int (fun _ _ => rfl)) pa_nil)) (pa_cons (pe_callTy (call_intU T.nd) (by rfl) T.n_int (by decide +kernel) (pa_cons (pe_ix ix_seq (pv 1) pe_int (fun _ _ => rfl)) pa_nil)) pa_nil))))) pss_nil)
    (pss_one (ps_ret (pe_tup (pa_cons (pe_callTy (call_intU T.nd) (by rfl) T.n_int (by decide +kernel) (pa_cons (pv 0) pa_nil)) (pa_cons pe_int pa_nil))))))), ?_⟩

  rintro ds r ⟨z, rfl, hz, hw, rfl⟩
  have h47 : (("/" : Str).length == 0) = false := by decide +kernel
  have hs2 : z.length + 2 ≤ sizeLine := by rw [sizeLine_eq]; omega
  refine en_seq (rn_asgE (ev_split (by walk_at "ev") (by walk_at "ev") h47 hs2) rfl) ?_
  have hr : ratioW z = ratioL z (Txt.split z ("/" : Str)) := rfl
  have hn : numW z = (match Txt.split z ("/" : Str) with | [p, q] => (ival p, ival q) | _ => (ival z, 1)) := rfl
  rw [hn]
  rw [hr] at hw
  generalize hsp : Txt.split z ("/" : Str) = parts at *
  match parts, hw with
  | [x], hw =>
    have hw : wholeW z = true := hw
    obtain ⟨p1, p2⟩ := body_int (Bool.and_eq_true_iff.mp hw).1
    have c1 : RC K rIntU [.str z] (.int (ival z)) := rc_intT p1 (Nat.le_trans p2 (by decide)) (.inl (Nat.le_trans p2 (by decide)))
    exact en_seq (rn_ifF' (by walk_at "ev") (by rfl) rn_next) (en_rt (rn_ret (by walk_at "ev")) rfl)
  | [p, q], hw =>
    have hw : (wholeW p && (figs q && (decide (1 < ival q) && decide (((Nat.gcd (ival p).natAbs (ival q).natAbs : Nat) : Int) = 1)))) = true := hw
    obtain ⟨hp, hw⟩ := Bool.and_eq_true_iff.mp hw
    obtain ⟨hq, _⟩ := Bool.and_eq_true_iff.mp hw
    obtain ⟨q1, q2⟩ := figs_int hq
    obtain ⟨p1, p2⟩ := body_int (Bool.and_eq_true_iff.mp hp).1
    have c1 : RC K rIntU [.str p] (.int (ival p)) := rc_intT p1 (Nat.le_trans p2 (by decide)) (.inl (Nat.le_trans p2 (by decide)))
    have c2 : RC K rIntU [.str q] (.int (ival q)) := rc_intT q1 (Nat.le_trans q2 (by decide)) (.inl (Nat.le_trans q2 (by decide)))
    exact en_R (rn_ifT' (by walk_at "ev") (by rfl) (rn_ret (by walk_at "ev"))) rfl
abbrev s__law_digits : Stmt := topS 40
theorem sc__law_digits : FnScope ["draws", "size", "text", "draw"] ["draws", "size"] (defScope s__law_digits) := ⟨rfl, rfl, rfl, by decide +kernel, rfl, by decide +kernel, by decide +kernel⟩
theorem len__law_digits : ∀ ds r, R_law_digits ds r → ds.length = (["draws", "size"] : List Str).length := by
  rintro _ _ ⟨_, _, rfl, _⟩; rfl
theorem ok__law_digits (T : Tx K mg Z0 Z1) (D : DefAt K mg "_law_digits" s__law_digits [])  : CalX P w K mg base CX0 1 "_law_digits" [] R_law_digits := by
  refine okN D (bind0 (fun _ _ _ _ _ _ us hl => match us, hl with | [_, _], _ => rfl)) sc__law_digits len__law_digits fun f cdv A outer s H Ex hr => ⟨_, (pss_cons (ps_set (i := 2) sc__law_digits.nd rfl (by first | exact Or.inl rfl | exact Or.inr rfl) (pe_bm PySem.F.plainAttrs_str PySem.F.slot_str_join PySem.F.type_str_join mt_join pe_str (pa_cons (pe_lc (own := [("draw", 3)]) rfl sc__law_digits.nd (pi_list (pv 0)) (blkOk_by (by show blkC ["draws", "size", "text", "draw"] (defScope s__law_digits) _ [("draw", 3)] = true; decide +kernel)) (fun _ _ _ _ _ => (pg_name (i := 3) sc__law_digits.nd rfl (by first | exact Or.inl rfl | exact Or.inr rfl))) (fun _ _ _ _ _ => pts_nil) (fun _ _ _ _ _ => (pe_slice (sl_K (K := K) rfl) (pe_callTy (call_strB rfl T.nd) (by rfl) T.n_str (by decide +kernel) (pa_cons (pe_op (op_addK (K := K) rfl) pe_int (pv 3)) pa_nil)) (po_some pe_int) po_none))) pa_nil)))
    (pss_cons (ps_set (i := 2) sc__law_digits.nd rfl (by first | exact Or.inl rfl | exact Or.inr rfl) (pe_slice sl_U (pe_op op_mulU (pv 2) (pe_op op_addU (pe_op op_fdivX (pv 1) (pe_callB call_len (by rfl) T.n_len (by decide +kernel) (pa_cons (pv 2) pa_nil))) pe_int)) po_none (po_some (pv 1))))
    (pss_cons (ps_if (pt_cmpR (op_eqU (hu64 hr)) (pe_ix ix_seq (pv 2) pe_int (fun _ _ => rfl)) pe_str (nomark _)) (pss_one (ps_set (i := 2) sc__law_digits.nd rfl (by first | exact Or.inl rfl | exact Or.inr rfl) (pe_op op_addU pe_str (pe_slice sl_U (pv 2) (po_some pe_int) po_none)))) pss_nil)
    (pss_one (ps_ret (pv 2)))))), ?_⟩

  rintro ds r ⟨ns, size, rfl, hD, hn, hn2, hs1, hs2, rfl⟩
  obtain ⟨d1, d2⟩ := dig0_ok hD
  have len0 : (dig0 ns).length = 3 * ns.length := by rw [z_len, d2]
  have j := dig1_ok hD hn hs1
  have ne : (dig1 ns size).cps.toList ≠ [] := fun e => by have := j.2; rw [e] at this; simp at this; omega
  obtain ⟨c, l, hc⟩ := List.exists_cons_of_ne_nil ne
  have he : atI (dig1 ns size).cps.toList 0 = some c := by rw [hc]; exact atI_zero
  have hl1 : (dig1 ns size).length ≤ sizeLine := sl_ok (n := 700) (by rw [z_len, j.2]; omega)
  have hl0 : (dig0 ns).length ≤ sizeLine := sl_ok (n := 200) (by omega)
  have three : ∀ i ∈ ns, (dig3 i).length = 3 := fun i hi => by rw [z_len]; exact (dig3_ok (hD i hi)).2
  have sum3 : ∀ l : List Int, (∀ i ∈ l, (dig3 i).length = 3) → ((l.map dig3).map (·.length)).sum = 3 * l.length := by
    intro l
    induction l with
    | nil => intro _; rfl
    | cons a r ih =>
      intro h
      rw [List.map_cons, List.map_cons, List.sum_cons, h a List.mem_cons_self, ih fun i hi => h i (List.mem_cons_of_mem _ hi), List.length_cons]
      omega
  have e0 : ("" : Str).length = 0 := by decide +kernel
  refine en_seq (rn_asgE (d := .str (dig0 ns)) (ev_join (ys := ns.map dig3) (by walk_at "ev") (ev_is (ev_lcM (W' := fun _ _ _ _ => False) (js := [3]) (fun d => match d with | .int i => .str (dig3 i) | d => d) (src_list (W := fun _ _ _ _ => False) (by walk_at "ev")) (by intro j hj; exact hj) (by rw [List.length_map, sizeLine_eq]; omega) (fun i d hd => ?_)) ?_) ?_) rfl) ?_
  · rw [List.getElem?_map] at hd
    cases hx : ns[i]? with
    | none => rw [hx] at hd; cases hd
    | some x =>
      rw [hx] at hd
      cases hd
      have hx2 := hD x (List.mem_of_getElem? hx)
      have sm : (1000 + x).natAbs < 10 ^ 4300 := by
        have h1 : (1000 + x).natAbs < 10 ^ 4 := by omega
        exact Nat.lt_of_lt_of_le h1 (Nat.pow_le_pow_right (by decide) (by decide))
      have lf : long (1000 + x) = false := by
        have e : wall = ((10 ^ 600 : Nat) : Int) := (Int.natCast_pow 10 600).symm
        have h2 : (10 : Nat) ^ 4 ≤ 10 ^ 600 := Nat.pow_le_pow_right (by decide) (by decide)
        unfold long
        rw [e, Bool.or_eq_false_iff, decide_eq_false_iff_not, decide_eq_false_iff_not]
        generalize 10 ^ 600 = a at *
        omega
      have sl : (toString (1000 + x) : Str).length ≤ sizeLine := sl_ok (str_len lf)
      exact ⟨_, as_name, by walk_at "ev"⟩
  · rw [List.map_map, List.map_map]; rfl
  · rw [sum3 ns three, e0]; simp; omega
  have zne : ((dig0 ns).length : Int) ≠ 0 := by omega
  have zlog : ((dig0 ns).length : Int).natAbs.log2 < 9000 := by
    rw [Int.natAbs_natCast]
    exact Nat.lt_of_le_of_lt (Nat.log2_le_self _) (by omega)
  have fd0 : 0 ≤ size.fdiv ((dig0 ns).length : Int) := Int.fdiv_nonneg (by omega) (by omega)
  have fd1 : size.fdiv ((dig0 ns).length : Int) ≤ 700 := by
    rw [Int.fdiv_eq_ediv_of_nonneg _ (by omega)]
    exact Int.le_trans (Int.ediv_le_self _ (by omega)) hs2
  have fit : (dig0 ns).length * (size.fdiv ((dig0 ns).length : Int) + 1).toNat ≤ 16777216 := by
    refine Nat.le_trans (Nat.mul_le_mul (show (dig0 ns).length ≤ 192 by omega) (show (size.fdiv ((dig0 ns).length : Int) + 1).toNat ≤ 701 by omega)) (by decide)
  have mul : RD K rMulU (.str (dig0 ns)) (.int (size.fdiv ((dig0 ns).length : Int) + 1)) (.str (rep (dig0 ns) (size.fdiv ((dig0 ns).length : Int) + 1))) := rd_mulS (by omega) (by omega) fit
  have repl : (rep (dig0 ns) (size.fdiv ((dig0 ns).length : Int) + 1)).length ≤ sizeLine := by
    rw [z_len, rep_list, rep_len, ← z_len, sizeLine_eq, Nat.mul_comm]
    exact fit
  refine en_seq (rn_asgE (d := .str (dig1 ns size)) (by walk_at "ev") rfl) ?_
  have tl1 : ("7" : Str).length + (cutS (dig1 ns size) (some 1) none).length ≤ sizeLine := by
    have e7 : ("7" : Str).length ≤ 10 := by decide +kernel
    have := cutS_length (dig1 ns size) (some 1) none
    have h7 : (dig1 ns size).length ≤ 700 := by rw [z_len, j.2]; omega
    exact add_fits e7 (Nat.le_trans this h7)
  by_cases h48 : c = 48
  · have e : digF ns size = ("7" : Str) ++ cutS (dig1 ns size) (some 1) none := if_pos (by rw [hc, h48]; rfl)
    rw [e]
    exact en_seq (rn_ifT' (by walk_at "ev") (by exact decide_eq_true ((one_eq c).mpr h48)) (rn_asgE (by walk_at "ev") rfl)) (en_rt (rn_ret (by walk_at "ev")) rfl)
  · have e : digF ns size = dig1 ns size := if_neg (by rw [hc]; simpa using h48)
    rw [e]
    exact en_seq (rn_ifF' (by walk_at "ev") (by exact decide_eq_false fun q => h48 ((one_eq c).mp q)) rn_next) (en_rt (rn_ret (by walk_at "ev")) rfl)
end
end K85
set_option Elab.async false
set_option linter.all false
set_option maxRecDepth 100000
set_option maxHeartbeats 4000000
set_option exponentiation.threshold 10000
/-! K85I: drawn numbers and near texts. -/
namespace K85
open PySem PySem.Spec PyProof.Rows L2 DL
theorem at_mod {ms : List Int} {n : Nat} {i : Int} (hl : ms.length = n) (h : 0 < n) : atI (ms.map PyData.int) (i.fmod (n : Int)) = some (.int (ms.getD (i.fmod (n : Int)).toNat 0)) := by
  have h1 := Int.fmod_nonneg_of_pos i (show (0 : Int) < n by omega)
  have h2 := Int.fmod_lt_of_pos i (show (0 : Int) < n by omega)
  have e : i.fmod (n : Int) = (((i.fmod (n : Int)).toNat : Nat) : Int) := by omega
  have q := at_int (ns := ms) (i := (i.fmod (n : Int)).toNat) (by omega)
  rw [← e] at q
  exact q
theorem at_modS {ms : List Str} {n : Nat} {i : Int} (hl : ms.length = n) (h : 0 < n) : atI (ms.map PyData.str) (i.fmod (n : Int)) = some (.str (ms.getD (i.fmod (n : Int)).toNat ⟨#[]⟩)) := by
  have h1 := Int.fmod_nonneg_of_pos i (show (0 : Int) < n by omega)
  have h2 := Int.fmod_lt_of_pos i (show (0 : Int) < n by omega)
  have hk : (i.fmod (n : Int)).toNat < ms.length := by omega
  unfold atI ixN
  rw [if_pos h1, if_pos (by rw [List.length_map]; omega)]
  show (ms.map PyData.str)[(i.fmod (n : Int)).toNat]? = _
  rw [List.getElem?_map, List.getElem?_eq_getElem hk, getD_at hk]; rfl
def szF (i : Int) : Int := ([1, 1, 2, 3, 5, 20, 60, 300] : List Int).getD (i.fmod 8).toNat 0
def sgF (i : Int) : Int := ([1, -1] : List Int).getD (i.fmod 2).toNat 0
theorem szF_ok (i : Int) : 1 ≤ szF i ∧ szF i ≤ 300 := by
  have h1 := Int.fmod_nonneg_of_pos i (show (0 : Int) < 8 by decide)
  have h2 := Int.fmod_lt_of_pos i (show (0 : Int) < 8 by decide)
  have key : ∀ k : Nat, k < 8 → 1 ≤ ([1, 1, 2, 3, 5, 20, 60, 300] : List Int).getD k 0 ∧ ([1, 1, 2, 3, 5, 20, 60, 300] : List Int).getD k 0 ≤ 300 := by decide
  exact key _ (by omega)
theorem sgF_ok (i : Int) : Sz 1 (sgF i) := by
  have h1 := Int.fmod_nonneg_of_pos i (show (0 : Int) < 2 by decide)
  have h2 := Int.fmod_lt_of_pos i (show (0 : Int) < 2 by decide)
  have key : ∀ k : Nat, k < 2 → (([1, -1] : List Int).getD k 0).natAbs < 2 ^ 1 := by decide
  exact key _ (by omega)
theorem Cn.val {z : Str} {n : Nat} (h : Cn z n) (hn : n ≤ 4300) : intText? z = some (ival z) ∧ ival z = ((NumText.digitsVal z.cps.toList : Nat) : Int) := by
  obtain ⟨c, l, hc, _⟩ := h.hd
  have e := intText_digits h.dig (by rw [hc]; simp) (by rw [z_len, h.len]; exact hn)
  exact ⟨ival_of e, by unfold ival; rw [e]; rfl⟩
theorem fold_ge : ∀ (l : List Nat) (a : Nat), a ≤ l.foldl (fun acc c => acc * 10 + (c - 48)) a
  | [], _ => Nat.le_refl _
  | c :: r, a => by
    rw [List.foldl_cons]
    exact Nat.le_trans (by omega) (fold_ge r _)
theorem Cn.pos {z : Str} {n : Nat} (h : Cn z n) (hn : n ≤ 4300) : 1 ≤ ival z := by
  obtain ⟨c, l, hc, h49⟩ := h.hd
  rw [(h.val hn).2, hc]
  have := fold_ge l (0 * 10 + (c - 48))
  have e : NumText.digitsVal (c :: l) = l.foldl (fun acc c => acc * 10 + (c - 48)) (0 * 10 + (c - 48)) := rfl
  rw [e]
  omega
theorem Cn.sz {z : Str} {n : Nat} (h : Cn z n) (hn : n ≤ 4300) : Sz (4 * n) (ival z) := by
  rw [(h.val hn).2]
  unfold Sz
  rw [Int.natAbs_natCast]
  have := digits_lt _ h.dig
  rw [h.len] at this
  exact Nat.lt_of_lt_of_le this (ten_two n)
def tpF (ns : List Int) : Int := if (ns.getD 2 0).fmod 8 = 0 then 0 else ival (digF (ns.drop 4) (szF (ns.getD 0 0)))
def btF (ns : List Int) : Int := ival (digF (ns.drop 9) (szF (ns.getD 1 0)))
def drawnF (ns : List Int) : Int × Int := nrm (sgF (ns.getD 3 0) * tpF ns) (btF ns)
theorem Dr.drop {ns : List Int} (h : Dr ns) (k : Nat) : Dr (ns.drop k) := fun x hx => h x (List.mem_of_mem_drop hx)
theorem dig_4 {ns : List Int} (h : Dr ns) (hl : ns.length = 16) : Cn (digF (ns.drop 4) (szF (ns.getD 0 0))) (szF (ns.getD 0 0)).toNat := digF_ok (h.drop 4) (by rw [List.length_drop]; omega) (szF_ok _).1
theorem dig_9 {ns : List Int} (h : Dr ns) (hl : ns.length = 16) : Cn (digF (ns.drop 9) (szF (ns.getD 1 0))) (szF (ns.getD 1 0)).toNat := digF_ok (h.drop 9) (by rw [List.length_drop]; omega) (szF_ok _).1
theorem sz300 (i : Int) : (szF i).toNat ≤ 300 := by have := szF_ok i; omega
theorem tpF_sz {ns : List Int} (h : Dr ns) (hl : ns.length = 16) : Sz 1200 (tpF ns) := by
  unfold tpF
  split
  · show (0 : Int).natAbs < 2 ^ 1200
    exact Nat.pow_pos (by decide)
  · have := sz300 (ns.getD 0 0)
    exact ((dig_4 h hl).sz (by omega)).mono (by omega)
theorem btF_ok {ns : List Int} (h : Dr ns) (hl : ns.length = 16) : Sz 1200 (btF ns) ∧ 1 ≤ btF ns := by
  have := sz300 (ns.getD 1 0)
  exact ⟨((dig_9 h hl).sz (by omega)).mono (by omega), (dig_9 h hl).pos (by omega)⟩
theorem drawnF_ok {ns : List Int} (h : Dr ns) (hl : ns.length = 16) : Qz 1300 (drawnF ns) ∧ Nf (drawnF ns) := by
  obtain ⟨b1, b2⟩ := btF_ok h hl
  have hb : btF ns ≠ 0 := by omega
  exact ⟨nrm_qz ((Sz.mul (sgF_ok _) (tpF_sz h hl)).mono (by decide)) (b1.mono (by decide)) hb, (nrm_spec hb).1⟩
def R_law_drawn (ds : List PyData) (r : Res PyData) : Prop := ∃ ns : List Int, ds = [.list (ns.map .int)] ∧ Dr ns ∧ ns.length = 16 ∧ r = .ok (rat (drawnF ns))
/-! ### near texts -/
def signF (i : Int) : Str := ⟨#[("0123456789-+/ ._xe\n," : Str).cps.toList.getD (i.fmod 20).toNat 0]⟩
def tailF (i : Int) : Str := ([("/1" : Str), ("/2" : Str), ("-" : Str), ("0" : Str), ("\n" : Str)] : List Str).getD (i.fmod 5).toNat ⟨#[]⟩
def headF (i : Int) : Str := ([("0" : Str), ("-" : Str), ("+" : Str), (" " : Str), ("00" : Str)] : List Str).getD (i.fmod 5).toNat ⟨#[]⟩
def nearF (z : Str) (ns : List Int) : Str :=
  let a := (ns.getD 1 0).fmod ((z.length : Int) + 1)
  let k := (ns.getD 0 0).fmod 5
  if k = 0 then cutS z none (some a) ++ signF (ns.getD 2 0) ++ cutS z (some a) none
  else if k = 1 then cutS z none (some a) ++ cutS z (some (a + 1)) none
  else if k = 2 then cutS z none (some a) ++ signF (ns.getD 2 0) ++ cutS z (some (a + 1)) none
  else if k = 3 then z ++ tailF (ns.getD 2 0)
  else headF (ns.getD 2 0) ++ z
theorem cut_two (z : Str) {a b : Int} (h0 : 0 ≤ a) (h : a ≤ b) : (cutS z none (some a)).length + (cutS z (some b) none).length ≤ z.length := by
  have ea : a = ((a.toNat : Nat) : Int) := by omega
  have eb : b = ((b.toNat : Nat) : Int) := by omega
  have k1 := cut_head z a.toNat
  have k2 := cut_tail z b.toNat
  rw [← ea] at k1
  rw [← eb] at k2
  rw [z_len, z_len, z_len z, k1, k2, List.length_take, List.length_drop]
  omega
theorem tailF_len (i : Int) : (tailF i).length ≤ 2 := by
  have h1 := Int.fmod_nonneg_of_pos i (show (0 : Int) < 5 by decide)
  have h2 := Int.fmod_lt_of_pos i (show (0 : Int) < 5 by decide)
  have key : ∀ k : Nat, k < 5 → (([("/1" : Str), ("/2" : Str), ("-" : Str), ("0" : Str), ("\n" : Str)] : List Str).getD k ⟨#[]⟩).length ≤ 2 := by decide +kernel
  exact key _ (by omega)
theorem headF_len (i : Int) : (headF i).length ≤ 2 := by
  have h1 := Int.fmod_nonneg_of_pos i (show (0 : Int) < 5 by decide)
  have h2 := Int.fmod_lt_of_pos i (show (0 : Int) < 5 by decide)
  have key : ∀ k : Nat, k < 5 → (([("0" : Str), ("-" : Str), ("+" : Str), (" " : Str), ("00" : Str)] : List Str).getD k ⟨#[]⟩).length ≤ 2 := by decide +kernel
  exact key _ (by omega)
theorem near_len (z : Str) (ns : List Int) : (nearF z ns).length ≤ z.length + 2 := by
  have h1 := Int.fmod_nonneg_of_pos (ns.getD 1 0) (show (0 : Int) < (z.length : Int) + 1 by omega)
  have sg : (signF (ns.getD 2 0)).length = 1 := rfl
  have t := tailF_len (ns.getD 2 0)
  have hd := headF_len (ns.getD 2 0)
  have c1 := cut_two z h1 (Int.le_refl _)
  have c2 := cut_two z h1 (b := (ns.getD 1 0).fmod ((z.length : Int) + 1) + 1) (by omega)
  unfold nearF
  generalize tailF (ns.getD 2 0) = T at *
  generalize headF (ns.getD 2 0) = Hd at *
  generalize signF (ns.getD 2 0) = S at *
  show (if _ then _ else _ : Str).length ≤ _
  split
  · rw [app_len, app_len]; omega
  · split
    · rw [app_len]; omega
    · split
      · rw [app_len, app_len]; omega
      · split
        · rw [app_len]; omega
        · rw [app_len]; omega
def R_law_near (ds : List PyData) (r : Res PyData) : Prop := ∃ (z : Str) (ns : List Int), ds = [.str z, .list (ns.map .int)] ∧ z.length ≤ 4500 ∧ 3 ≤ ns.length ∧ r = .ok (.str (nearF z ns))
section
variable {P : Program} {w : World} {K : PySem.W.Frag} {mg : Str → Option Value} {base : Heap} {Z0 Z1 CB CM : Addr}

abbrev s__law_drawn : Stmt := topS 41
theorem sc__law_drawn : FnScope ["draws", "sizes", "top", "bottom"] ["draws"] (defScope s__law_drawn) := ⟨rfl, rfl, rfl, by decide +kernel, rfl, by decide +kernel, by decide +kernel⟩
theorem len__law_drawn : ∀ ds r, R_law_drawn ds r → ds.length = (["draws"] : List Str).length := by
  rintro _ _ ⟨_, rfl, _⟩; rfl
theorem ok__law_drawn (T : Tx K mg Z0 Z1) (D : DefAt K mg "_law_drawn" s__law_drawn []) (c__law_ratio : CalX P w K mg base CX0 2 "_law_ratio" [] R_law_ratio) (c__law_digits : CalX P w K mg base CX0 1 "_law_digits" [] R_law_digits) : CalX P w K mg base CX0 3 "_law_drawn" [] R_law_drawn := by
  refine okN D (bind0 (fun _ _ _ _ _ _ us hl => match us, hl with | [_], _ => rfl)) sc__law_drawn len__law_drawn fun f cdv A outer s H Ex hr => ⟨_, (pss_cons (ps_set (i := 1) sc__law_drawn.nd rfl (by first | exact Or.inl rfl | exact Or.inr rfl) (pe_lst (pa_cons pe_int (pa_cons pe_int (pa_cons pe_int (pa_cons pe_int (pa_cons pe_int (pa_cons pe_int (pa_cons pe_int (pa_cons pe_int pa_nil))))))))))
    (pss_cons (ps_set (i := 2) sc__law_drawn.nd rfl (by first | exact Or.inl rfl | exact Or.inr rfl) (pe_callTy (call_intU T.nd) (by rfl) T.n_int (by decide +kernel) (pa_cons (pe_cal c__law_digits hr (by decide) (fun σ => p0At σ) (pa_cons (pe_slice sl_U (pv 0) (po_some pe_int) po_none) (pa_cons (pe_ix ix_seq (pv 1) (pe_op op_modN (pe_ix ix_seq (pv 0) pe_int (fun _ _ => rfl)) pe_int) (fun _ _ => rfl)) pa_nil))) pa_nil)))
    (pss_cons (ps_set (i := 3) sc__law_drawn.nd rfl (by first | exact Or.inl rfl | exact Or.inr rfl) (pe_callTy (call_intU T.nd) (by rfl) T.n_int (by decide +kernel) (pa_cons (pe_cal c__law_digits hr (by decide) (fun σ => p0At σ) (pa_cons (pe_slice sl_U (pv 0) (po_some pe_int) po_none) (pa_cons (pe_ix ix_seq (pv 1) (pe_op op_modN (pe_ix ix_seq (pv 0) pe_int (fun _ _ => rfl)) pe_int) (fun _ _ => rfl)) pa_nil))) pa_nil)))
    (pss_cons (ps_if (pt_cmpR (op_eqU (hu64 hr)) (pe_op op_modN (pe_ix ix_seq (pv 0) pe_int (fun _ _ => rfl)) pe_int) pe_int (nomark _)) (pss_one (ps_set (i := 2) sc__law_drawn.nd rfl (by first | exact Or.inl rfl | exact Or.inr rfl) pe_int)) pss_nil)
    (pss_one (ps_ret (pe_cal c__law_ratio hr (by decide) (fun σ => p0At σ) (pa_cons (pe_op op_mulU (pe_ix ix_seq (pe_lst (pa_cons pe_int (pa_cons (pe_un un_neg pe_int) pa_nil))) (pe_op op_modN (pe_ix ix_seq (pv 0) pe_int (fun _ _ => rfl)) pe_int) (fun _ _ => rfl)) (pv 2)) (pa_cons (pv 3) pa_nil))))))))), ?_⟩

  rintro ds r ⟨ns, rfl, hD, hl, rfl⟩
  have g0 := at_int (ns := ns) (i := 0) (by omega)
  have g1 := at_int (ns := ns) (i := 1) (by omega)
  have g2 := at_int (ns := ns) (i := 2) (by omega)
  have g3 := at_int (ns := ns) (i := 3) (by omega)
  have i0 : RD K (rIx K) (.list (ns.map .int)) (.int 0) (.int (ns.getD 0 0)) := rd_ix_L g0
  have i1 : RD K (rIx K) (.list (ns.map .int)) (.int 1) (.int (ns.getD 1 0)) := rd_ix_L g1
  have i2 : RD K (rIx K) (.list (ns.map .int)) (.int 2) (.int (ns.getD 2 0)) := rd_ix_L g2
  have i3 : RD K (rIx K) (.list (ns.map .int)) (.int 3) (.int (ns.getD 3 0)) := rd_ix_L g3
  have s8 : ∀ i : Int, RD K (rIx K) (.list [.int 1, .int 1, .int 2, .int 3, .int 5, .int 20, .int 60, .int 300]) (.int (i.fmod 8)) (.int (szF i)) := fun i => rd_ix_L (at_mod (ms := [1, 1, 2, 3, 5, 20, 60, 300]) (n := 8) rfl (by decide))
  have s2 : ∀ i : Int, RD K (rIx K) (.list [.int 1, .int (-1)]) (.int (i.fmod 2)) (.int (sgF i)) := fun i => rd_ix_L (at_mod (ms := [1, -1]) (n := 2) rfl (by decide))
  have c4 : cutD (ns.map PyData.int) (some 4) none = (ns.drop 4).map .int := by
    rw [show (4 : Int) = ((4 : Nat) : Int) from rfl, cut_from, List.map_drop]
  have c9 : cutD (ns.map PyData.int) (some 9) none = (ns.drop 9).map .int := by
    rw [show (9 : Int) = ((9 : Nat) : Int) from rfl, cut_from, List.map_drop]
  have d4 := dig_4 hD hl
  have d9 := dig_9 hD hl
  have z0 := sz300 (ns.getD 0 0)
  have z1 := sz300 (ns.getD 1 0)
  have k0 := szF_ok (ns.getD 0 0)
  have k1 := szF_ok (ns.getD 1 0)
  have L4 : R_law_digits [.list ((ns.drop 4).map .int), .int (szF (ns.getD 0 0))] (.ok (.str (digF (ns.drop 4) (szF (ns.getD 0 0))))) := ⟨_, _, rfl, hD.drop 4, by rw [List.length_drop]; omega, by rw [List.length_drop]; omega, k0.1, by omega, rfl⟩
  have L9 : R_law_digits [.list ((ns.drop 9).map .int), .int (szF (ns.getD 1 0))] (.ok (.str (digF (ns.drop 9) (szF (ns.getD 1 0))))) := ⟨_, _, rfl, hD.drop 9, by rw [List.length_drop]; omega, by rw [List.length_drop]; omega, k1.1, by omega, rfl⟩
  have c1 : RC K rIntU [.str (digF (ns.drop 4) (szF (ns.getD 0 0)))] (.int (ival (digF (ns.drop 4) (szF (ns.getD 0 0))))) := rc_intT (d4.val (by omega)).1 (by rw [z_len, d4.len]; omega) (.inl (by rw [z_len, d4.len]; omega))
  have c2 : RC K rIntU [.str (digF (ns.drop 9) (szF (ns.getD 1 0)))] (.int (btF ns)) := rc_intT (d9.val (by omega)).1 (by rw [z_len, d9.len]; omega) (.inl (by rw [z_len, d9.len]; omega))
  refine en_seq (rn_asgE (by walk_at "ev") rfl) ?_
  refine en_seq (rn_asgE (ev_cb (ea_cons (ev_call0 (ea_cons (ev_is (by walk_at "ev") (by rw [c4])) (ea_cons (ev_op (by walk_at "ev") (ev_op (ev_op (by walk_at "ev") (by walk_at "ev") i0) (by walk_at "ev") (by walk_at "rd")) (s8 _)) ea_nil)) L4) ea_nil) c1) rfl) ?_
  refine en_seq (rn_asgE (ev_cb (ea_cons (ev_call0 (ea_cons (ev_is (by walk_at "ev") (by rw [c9])) (ea_cons (ev_op (by walk_at "ev") (ev_op (ev_op (by walk_at "ev") (by walk_at "ev") i1) (by walk_at "ev") (by walk_at "rd")) (s8 _)) ea_nil)) L9) ea_nil) c2) rfl) ?_
  refine en_seq (δ1 := [.val (.list (ns.map .int)), .val (.list [.int 1, .int 1, .int 2, .int 3, .int 5, .int 20, .int 60, .int 300]), .val (.int (tpF ns)), .val (.int (btF ns))]) ?_ ?_
  · by_cases h : (ns.getD 2 0).fmod 8 = 0
    · have e : tpF ns = 0 := if_pos h
      rw [e]
      exact rn_ifT' (et_test (ev_op (ev_op (ev_op (by walk_at "ev") (by walk_at "ev") i2) (by walk_at "ev") (by walk_at "rd")) (by walk_at "ev") (by walk_at "rd"))) (by exact decide_eq_true h) (rn_asgE (by walk_at "ev") rfl)
    · have e : tpF ns = ival (digF (ns.drop 4) (szF (ns.getD 0 0))) := if_neg h
      rw [e]
      exact rn_ifF' (et_test (ev_op (ev_op (ev_op (by walk_at "ev") (by walk_at "ev") i2) (by walk_at "ev") (by walk_at "rd")) (by walk_at "ev") (by walk_at "rd"))) (by exact decide_eq_false h) rn_next
  have q1 := sgF_ok (ns.getD 3 0)
  have q2 := tpF_sz hD hl
  obtain ⟨q3, q4⟩ := btF_ok hD hl
  refine en_rt (rn_ret (ev_call0 (ea_cons (ev_op (ev_op (by walk_at "ev") (ev_op (ev_op (by walk_at "ev") (by walk_at "ev") i3) (by walk_at "ev") (by walk_at "rd")) (s2 _)) (by walk_at "ev") (by walk_at "rd")) (ea_cons (by walk_at "ev") ea_nil)) ⟨_, _, rfl, (Sz.mul q1 q2).mono (by decide), q3.mono (by decide), by omega, rfl⟩)) rfl
abbrev s__law_near : Stmt := topS 49
theorem sc__law_near : FnScope ["text", "draws", "at", "sign", "kind"] ["text", "draws"] (defScope s__law_near) := ⟨rfl, rfl, rfl, by decide +kernel, rfl, by decide +kernel, by decide +kernel⟩
theorem len__law_near : ∀ ds r, R_law_near ds r → ds.length = (["text", "draws"] : List Str).length := by
  rintro _ _ ⟨_, _, rfl, _⟩; rfl
theorem ok__law_near (T : Tx K mg Z0 Z1) (D : DefAt K mg "_law_near" s__law_near [])  : CalX P w K mg base CX0 1 "_law_near" [] R_law_near := by
  refine okN D (bind0 (fun _ _ _ _ _ _ us hl => match us, hl with | [_, _], _ => rfl)) sc__law_near len__law_near fun f cdv A outer s H Ex hr => ⟨_, (pss_cons (ps_set (i := 2) sc__law_near.nd rfl (by first | exact Or.inl rfl | exact Or.inr rfl) (pe_op op_modN (pe_ix ix_seq (pv 1) pe_int (fun _ _ => rfl)) (pe_op op_addU (pe_callB call_len (by rfl) T.n_len (by decide +kernel) (pa_cons (pv 0) pa_nil)) pe_int)))
    (pss_cons (ps_set (i := 3) sc__law_near.nd rfl (by first | exact Or.inl rfl | exact Or.inr rfl) (pe_ix ix_seq pe_str (pe_op op_modN (pe_ix ix_seq (pv 1) pe_int (fun _ _ => rfl)) pe_int) (fun _ _ => rfl)))
    (pss_cons (ps_set (i := 4) sc__law_near.nd rfl (by first | exact Or.inl rfl | exact Or.inr rfl) (pe_op op_modN (pe_ix ix_seq (pv 1) pe_int (fun _ _ => rfl)) pe_int))
    (pss_cons (ps_if (pt_cmpR (op_eqU (hu64 hr)) (pv 4) pe_int (nomark _)) (pss_one (ps_ret (pe_op op_addU (pe_op op_addU (pe_slice sl_U (pv 0) po_none (po_some (pv 2))) (pv 3)) (pe_slice sl_U (pv 0) (po_some (pv 2)) po_none)))) pss_nil)
    (pss_cons (ps_if (pt_cmpR (op_eqU (hu64 hr)) (pv 4) pe_int (nomark _)) (pss_one (ps_ret (pe_op op_addU (pe_slice sl_U (pv 0) po_none (po_some (pv 2))) (pe_slice sl_U (pv 0) (po_some (pe_op op_addU (pv 2) pe_int)) po_none)))) pss_nil)
    (pss_cons (ps_if (pt_cmpR (op_eqU (hu64 hr)) (pv 4) pe_int (nomark _)) (pss_one (ps_ret (pe_op op_addU (pe_op op_addU (pe_slice sl_U (pv 0) po_none (po_some (pv 2))) (pv 3)) (pe_slice sl_U (pv 0) (po_some (pe_op op_addU (pv 2) pe_int)) po_none)))) pss_nil)
    (pss_cons (ps_if (pt_cmpR (op_eqU (hu64 hr)) (pv 4) pe_int (nomark _)) (pss_one (ps_ret (pe_op op_addU (pv 0) (pe_ix ix_seq (pe_lst (pa_cons pe_str (pa_cons pe_str (pa_cons pe_str (pa_cons pe_str (pa_cons pe_str pa_nil)))))) (pe_op op_modN (pe_ix ix_seq (pv 1) pe_int (fun _ _ => rfl)) pe_int) (fun _ _ => rfl))))) pss_nil)
    (pss_one (ps_ret (pe_op op_addU (pe_ix ix_seq (pe_lst (pa_cons pe_str (pa_cons pe_str (pa_cons pe_str (pa_cons pe_str (pa_cons pe_str pa_nil)))))) (pe_op op_modN (pe_ix ix_seq (pv 1) pe_int (fun _ _ => rfl)) pe_int) (fun _ _ => rfl)) (pv 0))))))))))), ?_⟩

  rintro ds r ⟨z, ns, rfl, hz, hl, rfl⟩
  have hs := sl_ok hz
  have g0 := at_int (ns := ns) (i := 0) (by omega)
  have g1 := at_int (ns := ns) (i := 1) (by omega)
  have g2 := at_int (ns := ns) (i := 2) (by omega)
  have i0 : RD K (rIx K) (.list (ns.map .int)) (.int 0) (.int (ns.getD 0 0)) := rd_ix_L g0
  have i1 : RD K (rIx K) (.list (ns.map .int)) (.int 1) (.int (ns.getD 1 0)) := rd_ix_L g1
  have i2 : RD K (rIx K) (.list (ns.map .int)) (.int 2) (.int (ns.getD 2 0)) := rd_ix_L g2
  have nz : ((z.length : Int) + 1) ≠ 0 := by omega
  have l20 : ("0123456789-+/ ._xe\n," : Str).cps.toList.length = 20 := by decide +kernel
  have sgI : ∀ i : Int, RD K (rIx K) (.str "0123456789-+/ ._xe\n,") (.int (i.fmod 20)) (.str (signF i)) := by
    intro i
    have h1 := Int.fmod_nonneg_of_pos i (show (0 : Int) < 20 by decide)
    have h2 := Int.fmod_lt_of_pos i (show (0 : Int) < 20 by decide)
    refine rd_ix_S (sl_ok (n := 20) (by rw [z_len, l20]; exact Nat.le_refl _)) ?_
    unfold atI ixN
    rw [if_pos h1, if_pos (by rw [l20]; omega)]
    show ("0123456789-+/ ._xe\n," : Str).cps.toList[(i.fmod 20).toNat]? = _
    rw [List.getElem?_eq_getElem (by rw [l20]; omega), getD_at (by rw [l20]; omega)]
  have tlI : ∀ i : Int, RD K (rIx K) (.list [.str "/1", .str "/2", .str "-", .str "0", .str "\n"]) (.int (i.fmod 5)) (.str (tailF i)) := fun i => rd_ix_L (at_modS (ms := ["/1", "/2", "-", "0", "\n"]) (n := 5) rfl (by decide))
  have hdI : ∀ i : Int, RD K (rIx K) (.list [.str "0", .str "-", .str "+", .str " ", .str "00"]) (.int (i.fmod 5)) (.str (headF i)) := fun i => rd_ix_L (at_modS (ms := ["0", "-", "+", " ", "00"]) (n := 5) rfl (by decide))
  have a0 := Int.fmod_nonneg_of_pos (ns.getD 1 0) (show (0 : Int) < (z.length : Int) + 1 by omega)
  have c1 := cut_two z a0 (Int.le_refl _)
  have c2 := cut_two z a0 (b := (ns.getD 1 0).fmod ((z.length : Int) + 1) + 1) (by omega)
  have sg : (signF (ns.getD 2 0)).length = 1 := rfl
  have fit : ∀ a b : Nat, a ≤ 5000 → b ≤ 5000 → a + b ≤ sizeLine := fun a b h1 h2 => add_fits h1 h2
  have tlen := tailF_len (ns.getD 2 0)
  have hlen := headF_len (ns.getD 2 0)
  refine en_seq (rn_asgE (ev_op (ev_op (by walk_at "ev") (by walk_at "ev") i1) (by walk_at "ev") (rd_mod nz)) rfl) ?_
  refine en_seq (rn_asgE (ev_op (by walk_at "ev") (ev_op (ev_op (by walk_at "ev") (by walk_at "ev") i2) (by walk_at "ev") (by walk_at "rd")) (sgI _)) rfl) ?_
  refine en_seq (rn_asgE (ev_op (ev_op (by walk_at "ev") (by walk_at "ev") i0) (by walk_at "ev") (by walk_at "rd")) rfl) ?_
  have nr : nearF z ns = (if (ns.getD 0 0).fmod 5 = 0 then cutS z none (some ((ns.getD 1 0).fmod ((z.length : Int) + 1))) ++ signF (ns.getD 2 0) ++ cutS z (some ((ns.getD 1 0).fmod ((z.length : Int) + 1))) none
    else if (ns.getD 0 0).fmod 5 = 1 then cutS z none (some ((ns.getD 1 0).fmod ((z.length : Int) + 1))) ++ cutS z (some ((ns.getD 1 0).fmod ((z.length : Int) + 1) + 1)) none
    else if (ns.getD 0 0).fmod 5 = 2 then cutS z none (some ((ns.getD 1 0).fmod ((z.length : Int) + 1))) ++ signF (ns.getD 2 0) ++ cutS z (some ((ns.getD 1 0).fmod ((z.length : Int) + 1) + 1)) none
    else if (ns.getD 0 0).fmod 5 = 3 then z ++ tailF (ns.getD 2 0) else headF (ns.getD 2 0) ++ z) := rfl
  have s1 : (cutS z none (some ((ns.getD 1 0).fmod ((z.length : Int) + 1)))).length + (signF (ns.getD 2 0)).length ≤ sizeLine := fit _ _ (by omega) (by omega)
  have s2 : (cutS z none (some ((ns.getD 1 0).fmod ((z.length : Int) + 1))) ++ signF (ns.getD 2 0)).length + (cutS z (some ((ns.getD 1 0).fmod ((z.length : Int) + 1))) none).length ≤ sizeLine := by
    rw [app_len]; exact fit _ _ (by omega) (by omega)
  have s3 : (cutS z none (some ((ns.getD 1 0).fmod ((z.length : Int) + 1)))).length + (cutS z (some ((ns.getD 1 0).fmod ((z.length : Int) + 1) + 1)) none).length ≤ sizeLine := fit _ _ (by omega) (by omega)
  have s4 : (cutS z none (some ((ns.getD 1 0).fmod ((z.length : Int) + 1))) ++ signF (ns.getD 2 0)).length + (cutS z (some ((ns.getD 1 0).fmod ((z.length : Int) + 1) + 1)) none).length ≤ sizeLine := by
    rw [app_len]; exact fit _ _ (by omega) (by omega)
  have s5 : z.length + (tailF (ns.getD 2 0)).length ≤ sizeLine := fit _ _ (by omega) (by omega)
  have s6 : (headF (ns.getD 2 0)).length + z.length ≤ sizeLine := fit _ _ (by omega) (by omega)
  by_cases k0 : (ns.getD 0 0).fmod 5 = 0
  · rw [nr, if_pos k0]
    exact en_R (rn_ifT' (by walk_at "ev") (by exact decide_eq_true k0) (rn_ret (by walk_at "ev"))) rfl
  refine en_seq (rn_ifF' (by walk_at "ev") (by exact decide_eq_false k0) rn_next) ?_
  by_cases k1 : (ns.getD 0 0).fmod 5 = 1
  · rw [nr, if_neg k0, if_pos k1]
    exact en_R (rn_ifT' (by walk_at "ev") (by exact decide_eq_true k1) (rn_ret (by walk_at "ev"))) rfl
  refine en_seq (rn_ifF' (by walk_at "ev") (by exact decide_eq_false k1) rn_next) ?_
  by_cases k2 : (ns.getD 0 0).fmod 5 = 2
  · rw [nr, if_neg k0, if_neg k1, if_pos k2]
    exact en_R (rn_ifT' (by walk_at "ev") (by exact decide_eq_true k2) (rn_ret (by walk_at "ev"))) rfl
  refine en_seq (rn_ifF' (by walk_at "ev") (by exact decide_eq_false k2) rn_next) ?_
  by_cases k3 : (ns.getD 0 0).fmod 5 = 3
  · rw [nr, if_neg k0, if_neg k1, if_neg k2, if_pos k3]
    exact en_R (rn_ifT' (by walk_at "ev") (by exact decide_eq_true k3) (rn_ret (ev_op (by walk_at "ev") (ev_op (by walk_at "ev") (ev_op (ev_op (by walk_at "ev") (by walk_at "ev") i2) (by walk_at "ev") (by walk_at "rd")) (tlI _)) (by walk_at "rd")))) rfl
  refine en_seq (rn_ifF' (by walk_at "ev") (by exact decide_eq_false k3) rn_next) ?_
  rw [nr, if_neg k0, if_neg k1, if_neg k2, if_neg k3]
  exact en_rt (rn_ret (ev_op (ev_op (by walk_at "ev") (ev_op (ev_op (by walk_at "ev") (by walk_at "ev") i2) (by walk_at "ev") (by walk_at "rd")) (hdI _)) (by walk_at "ev") (by walk_at "rd"))) rfl
end
end K85
set_option Elab.async false
set_option linter.all false
set_option maxRecDepth 100000
set_option maxHeartbeats 4000000
set_option exponentiation.threshold 10000
/-! K85J: sums, quotients, what a door tells. -/
namespace K85
open PySem PySem.Spec PyProof.Rows L2 DL
theorem m_rat (n : Nat) (p : Int × Int) : mOk (n + 1) (rat p) := ⟨by show 2 ≤ 1000; decide, fun y hy => by
  rcases List.mem_cons.mp hy with h | h
  · rw [h]; cases n <;> trivial
  · rw [List.mem_singleton.mp h]; cases n <;> trivial⟩
theorem rm_mk {n : Nat} {d : PyData} (h : mOk n d) : RM (n + 1) [d, d] (.ok (.bool true)) := ⟨d, rfl, h, rfl⟩
theorem rm_eq {n : Nat} {d e : PyData} (h : mOk n d) (q : d = e) : RM (n + 1) [d, e] (.ok (.bool true)) := by subst q; exact rm_mk h
theorem sub_add (a b : Int × Int) : qsub a b = qadd a (-b.1, b.2) := by
  unfold qsub qadd
  rw [Int.sub_eq_add_neg, Int.neg_mul]
theorem cmp_ord (a b : Int × Int) : qcmp a b = (if decide (b.1 * a.2 < a.1 * b.2) then 1 else 0) - (if decide (a.1 * b.2 < b.1 * a.2) then 1 else 0) := by
  unfold qcmp
  by_cases h1 : a.1 * b.2 - b.1 * a.2 < 0
  · rw [if_pos h1, decide_eq_true (show a.1 * b.2 < b.1 * a.2 by omega), decide_eq_false (show ¬ b.1 * a.2 < a.1 * b.2 by omega)]; rfl
  · by_cases h2 : a.1 * b.2 - b.1 * a.2 > 0
    · rw [if_neg h1, if_pos h2, decide_eq_false (show ¬ a.1 * b.2 < b.1 * a.2 by omega), decide_eq_true (show b.1 * a.2 < a.1 * b.2 by omega)]; rfl
    · rw [if_neg h1, if_neg h2, decide_eq_false (show ¬ a.1 * b.2 < b.1 * a.2 by omega), decide_eq_false (show ¬ b.1 * a.2 < a.1 * b.2 by omega)]; rfl
theorem cmp_self (a : Int × Int) : qcmp a a = 0 := by
  unfold qcmp
  rw [if_neg (by omega), if_neg (by omega)]
def R_law_sum_right (ds : List PyData) (r : Res PyData) : Prop := ∃ a b : Int × Int, ds = [rat a, rat b] ∧ Qz 1300 a ∧ Qz 1300 b ∧ r = .ok (.bool true)
def R_law_ratio_right (ds : List PyData) (r : Res PyData) : Prop := ∃ t b : Int, ds = [.int t, .int b] ∧ Sz 1400 t ∧ Sz 1400 b ∧ r = .ok (.bool true)
section
variable {P : Program} {w : World} {K : PySem.W.Frag} {mg : Str → Option Value} {base : Heap} {Z0 Z1 CB CM : Addr}

abbrev s__law_ratio_right : Stmt := topS 43
theorem sc__law_ratio_right : FnScope ["top", "bottom", "found", "e"] ["top", "bottom"] (defScope s__law_ratio_right) := ⟨rfl, rfl, rfl, by decide +kernel, rfl, by decide +kernel, by decide +kernel⟩
theorem len__law_ratio_right : ∀ ds r, R_law_ratio_right ds r → ds.length = (["top", "bottom"] : List Str).length := by
  rintro _ _ ⟨_, _, rfl, _⟩; rfl
theorem ok__law_ratio_right (T : Tx K mg Z0 Z1) (D : DefAt K mg "_law_ratio_right" s__law_ratio_right []) (c_ratio : CalX P w K mg base (L2N.CX P w) 2 "ratio" [] (R_ratio CB)) (c__law_match : CalX P w K mg base CX0 6 "_law_match" [] (RM 4)) (c__law_ratio : CalX P w K mg base CX0 2 "_law_ratio" [] R_law_ratio) (h__law_match : CalH P w K mg base 6 "_law_match" (RM 4)) (mBB : PySem.W.exmOne K (.ref CB) (.ref CB) = some true) (e_BadNumber : Err1 P w K mg base "BadNumber" CB "value") : CalX P w K mg base CX0 7 "_law_ratio_right" [] R_law_ratio_right := by
  refine okN D (bind0 (fun _ _ _ _ _ _ us hl => match us, hl with | [_, _], _ => rfl)) sc__law_ratio_right len__law_ratio_right fun f cdv A outer s H Ex hr => ⟨_, (pss_cons (ps_try rfl rfl sc__law_ratio_right.nd takesN0 (fun W pn xe tk hp => (pss_one (ps_set (i := 2) sc__law_ratio_right.nd rfl (by first | exact Or.inl rfl | exact Or.inr rfl) (pe_calK (K := K) rfl c_ratio hr (by decide) (fun σ => passN tk σ) (pa_cons (pv 0) (pa_cons (pv 1) pa_nil)))))) (Clauses.cons (i := 3) ⟨by rfl, by decide, .inl e_BadNumber.gl⟩ rfl rfl (fun z o kc d pn hz hf => have hrH := L2H.roomH_mark hr (some (.ref z)); (pss_one (ps_ret (pe_and (pe_cmpR (op_eqK (K := K) (hu64H hrH) rfl) (pv 1) pe_int (nomark _)) (pe_one (pe_calHK (K := K) rfl h__law_match hrH (by decide) (hot_suite hz hf) (pa_cons (pe_xf e_BadNumber.xf e_BadNumber.nf hz.zc hf (pv 3)) (pa_cons pe_int pa_nil)))))))) Clauses.nil))
    (pss_one (ps_ret (pe_and (pe_cmpR (op_neU (hu64 hr)) (pv 1) pe_int (nomark _)) (pe_one (pe_cal c__law_match hr (by decide) (fun σ => p0At σ) (pa_cons (pv 2) (pa_cons (pe_cal c__law_ratio hr (by decide) (fun σ => p0At σ) (pa_cons (pv 0) (pa_cons (pv 1) pa_nil))) pa_nil)))))))), ?_⟩

  rintro ds r ⟨t, b, rfl, h1, h2, rfl⟩
  by_cases hb : b = 0
  · have cr : R_ratio CB [.int t, .int b] (.error (eB CB (.int b))) := ⟨t, b, rfl, h1.mono (by decide), h2.mono (by decide), by rw [if_pos hb]⟩
    refine en_R (rn_tryX (fun W1 => rn_asgX (ev_callXE (by walk_at "ev") cr rfl)) ⟨true, mBB, fun _ => ⟨.rt (.bool true), fun z dd W1 => ?_, fun _ _ h => (by cases h), rfl⟩, fun h => (by cases h)⟩) rfl
    subst hb
    have m0 : RM 4 [.int 0, .int 0] (.ok (.bool true)) := rm_mk (by trivial)
    dsimp only [eB]
    exact rn_ret (ev_is (by walk_at "ev") (by rfl))
  · have cr : R_ratio CB [.int t, .int b] (.ok (rat (nrm t b))) := ⟨t, b, rfl, h1.mono (by decide), h2.mono (by decide), by rw [if_neg hb]⟩
    have lr : R_law_ratio [.int t, .int b] (.ok (rat (nrm t b))) := ⟨t, b, rfl, h1.mono (by decide), h2.mono (by decide), hb, rfl⟩
    have m1 : RM 4 [rat (nrm t b), rat (nrm t b)] (.ok (.bool true)) := rm_mk (m_rat _ _)
    refine en_seq (rn_try (fun W1 => rn_asgE (ev_callWE (by walk_at "ev") cr rfl) rfl) (fun _ _ h => by cases h)) ?_
    refine en_rt (rn_ret (ev_andV (by walk_at "ev") fun _ => ev_call0 (ea_cons (by walk_at "ev") (ea_cons (ev_call0 (by walk_at "ev") lr) ea_nil)) m1)) (okB ?_)
    simpa using hb
abbrev s__law_sum_right : Stmt := topS 42
theorem sc__law_sum_right : FnScope ["a", "b", "less", "order", "found", "e"] ["a", "b"] (defScope s__law_sum_right) := ⟨rfl, rfl, rfl, by decide +kernel, rfl, by decide +kernel, by decide +kernel⟩
theorem len__law_sum_right : ∀ ds r, R_law_sum_right ds r → ds.length = (["a", "b"] : List Str).length := by
  rintro _ _ ⟨_, _, rfl, _⟩; rfl
theorem ok__law_sum_right (T : Tx K mg Z0 Z1) (D : DefAt K mg "_law_sum_right" s__law_sum_right []) (c__law_match : CalX P w K mg base CX0 6 "_law_match" [] (RM 4)) (c_over : CalX P w K mg base (L2N.CX P w) 3 "over" [] (R_over CB)) (c_times : CalX P w K mg base CX0 3 "times" [] (RQ 3000 fun a b => rat (qmul a b))) (c__law_mul : CalX P w K mg base CX0 3 "_law_mul" [] (RQ 2100 fun a b => rat (qmul a b))) (c__law_below : CalX P w K mg base CX0 1 "_law_below" [] (RQ 2100 fun a b => .bool (decide (a.1 * b.2 < b.1 * a.2)))) (c__law_ratio : CalX P w K mg base CX0 2 "_law_ratio" [] R_law_ratio) (c_plus : CalX P w K mg base CX0 3 "plus" [] (RQ 3000 fun a b => rat (qadd a b))) (c__law_add : CalX P w K mg base CX0 3 "_law_add" [] (RQ 2100 fun a b => rat (qadd a b))) (c_minus : CalX P w K mg base CX0 3 "minus" [] (RQ 3000 fun a b => rat (qsub a b))) (c_compare : CalX P w K mg base CX0 1 "compare" [] (RQ 3000 fun a b => .int (qcmp a b))) (h__law_match : CalH P w K mg base 6 "_law_match" (RM 4)) (mBB : PySem.W.exmOne K (.ref CB) (.ref CB) = some true) (e_BadNumber : Err1 P w K mg base "BadNumber" CB "value") : CalX P w K mg base CX0 7 "_law_sum_right" [] R_law_sum_right := by
  refine okN D (bind0 (fun _ _ _ _ _ _ us hl => match us, hl with | [_, _], _ => rfl)) sc__law_sum_right len__law_sum_right fun f cdv A outer s H Ex hr => ⟨_, (pss_cons (ps_set (i := 2) sc__law_sum_right.nd rfl (by first | exact Or.inl rfl | exact Or.inr rfl) (pe_tup (pa_cons (pe_un un_neg (pe_ix ix_seq (pv 1) pe_int (fun _ _ => rfl))) (pa_cons (pe_ix ix_seq (pv 1) pe_int (fun _ _ => rfl)) pa_nil))))
    (pss_cons (ps_if (PW.pt (pw_or (pt_not (pt_val (pe_cal c__law_match hr (by decide) (fun σ => p0At σ) (pa_cons (pe_cal c_plus hr (by decide) (fun σ => p0At σ) (pa_cons (pv 0) (pa_cons (pv 1) pa_nil))) (pa_cons (pe_cal c__law_add hr (by decide) (fun σ => p0At σ) (pa_cons (pv 0) (pa_cons (pv 1) pa_nil))) pa_nil))))) (pw_or1 (pt_not (pt_val (pe_cal c__law_match hr (by decide) (fun σ => p0At σ) (pa_cons (pe_cal c_minus hr (by decide) (fun σ => p0At σ) (pa_cons (pv 0) (pa_cons (pv 1) pa_nil))) (pa_cons (pe_cal c__law_add hr (by decide) (fun σ => p0At σ) (pa_cons (pv 0) (pa_cons (pv 2) pa_nil))) pa_nil)))))))) (pss_one (ps_ret pe_bl)) pss_nil)
    (pss_cons (ps_if (pt_not (pt_val (pe_cal c__law_match hr (by decide) (fun σ => p0At σ) (pa_cons (pe_cal c_times hr (by decide) (fun σ => p0At σ) (pa_cons (pv 0) (pa_cons (pv 1) pa_nil))) (pa_cons (pe_cal c__law_mul hr (by decide) (fun σ => p0At σ) (pa_cons (pv 0) (pa_cons (pv 1) pa_nil))) pa_nil))))) (pss_one (ps_ret pe_bl)) pss_nil)
    (pss_cons (ps_set (i := 3) sc__law_sum_right.nd rfl (by first | exact Or.inl rfl | exact Or.inr rfl) (pe_op op_sub (pe_callTy (call_intU T.nd) (by rfl) T.n_int (by decide +kernel) (pa_cons (pe_cal c__law_below hr (by decide) (fun σ => p0At σ) (pa_cons (pv 1) (pa_cons (pv 0) pa_nil))) pa_nil)) (pe_callTy (call_intU T.nd) (by rfl) T.n_int (by decide +kernel) (pa_cons (pe_cal c__law_below hr (by decide) (fun σ => p0At σ) (pa_cons (pv 0) (pa_cons (pv 1) pa_nil))) pa_nil))))
    (pss_cons (ps_if (PW.pt (pw_or (pt_not (pt_val (pe_cal c__law_match hr (by decide) (fun σ => p0At σ) (pa_cons (pe_cal c_compare hr (by decide) (fun σ => p0At σ) (pa_cons (pv 0) (pa_cons (pv 1) pa_nil))) (pa_cons (pv 3) pa_nil))))) (pw_or1 (pt_not (pt_val (pe_cal c__law_match hr (by decide) (fun σ => p0At σ) (pa_cons (pe_cal c_compare hr (by decide) (fun σ => p0At σ) (pa_cons (pv 0) (pa_cons (pv 0) pa_nil))) (pa_cons pe_int pa_nil)))))))) (pss_one (ps_ret pe_bl)) pss_nil)
    (pss_cons (ps_try rfl rfl sc__law_sum_right.nd takesN0 (fun W pn xe tk hp => (pss_one (ps_set (i := 4) sc__law_sum_right.nd rfl (by first | exact Or.inl rfl | exact Or.inr rfl) (pe_calK (K := K) rfl c_over hr (by decide) (fun σ => passN tk σ) (pa_cons (pv 0) (pa_cons (pv 1) pa_nil)))))) (Clauses.cons (i := 5) ⟨by rfl, by decide, .inl e_BadNumber.gl⟩ rfl rfl (fun z o kc d pn hz hf => have hrH := L2H.roomH_mark hr (some (.ref z)); (pss_one (ps_ret (pe_and (pe_cmpR (op_eqK (K := K) (hu64H hrH) rfl) (pe_ix (ix_K (K := K) rfl) (pv 1) pe_int (fun _ _ => rfl)) pe_int (nomark _)) (pe_one (pe_calHK (K := K) rfl h__law_match hrH (by decide) (hot_suite hz hf) (pa_cons (pe_xf e_BadNumber.xf e_BadNumber.nf hz.zc hf (pv 5)) (pa_cons (pv 1) pa_nil)))))))) Clauses.nil))
    (pss_one (ps_ret (pe_and (pe_cmpR (op_neU (hu64 hr)) (pe_ix ix_seq (pv 1) pe_int (fun _ _ => rfl)) pe_int (nomark _)) (pe_one (pe_cal c__law_match hr (by decide) (fun σ => p0At σ) (pa_cons (pv 4) (pa_cons (pe_cal c__law_ratio hr (by decide) (fun σ => p0At σ) (pa_cons (pe_op op_mulU (pe_ix ix_seq (pv 0) pe_int (fun _ _ => rfl)) (pe_ix ix_seq (pv 1) pe_int (fun _ _ => rfl))) (pa_cons (pe_op op_mulU (pe_ix ix_seq (pv 0) pe_int (fun _ _ => rfl)) (pe_ix ix_seq (pv 1) pe_int (fun _ _ => rfl))) pa_nil))) pa_nil))))))))))))), ?_⟩

  rintro ds r ⟨a, b, rfl, ha, hb, rfl⟩
  have hl : Qz 1300 (-b.1, b.2) := ⟨hb.t.neg, hb.b, hb.z⟩
  have p1 : RQ 3000 (fun a b => rat (qadd a b)) [rat a, rat b] (.ok (rat (qadd a b))) := rq_mk (f := fun a b => rat (qadd a b)) (ha.mono (by decide)) (hb.mono (by decide))
  have p2 : RQ 2100 (fun a b => rat (qadd a b)) [rat a, rat b] (.ok (rat (qadd a b))) := rq_mk (f := fun a b => rat (qadd a b)) (ha.mono (by decide)) (hb.mono (by decide))
  have p3 : RQ 3000 (fun a b => rat (qsub a b)) [rat a, rat b] (.ok (rat (qsub a b))) := rq_mk (f := fun a b => rat (qsub a b)) (ha.mono (by decide)) (hb.mono (by decide))
  have p4 : RQ 2100 (fun a b => rat (qadd a b)) [rat a, rat (-b.1, b.2)] (.ok (rat (qadd a (-b.1, b.2)))) := rq_mk (f := fun a b => rat (qadd a b)) (ha.mono (by decide)) (hl.mono (by decide))
  have p5 : RQ 3000 (fun a b => rat (qmul a b)) [rat a, rat b] (.ok (rat (qmul a b))) := rq_mk (f := fun a b => rat (qmul a b)) (ha.mono (by decide)) (hb.mono (by decide))
  have p6 : RQ 2100 (fun a b => rat (qmul a b)) [rat a, rat b] (.ok (rat (qmul a b))) := rq_mk (f := fun a b => rat (qmul a b)) (ha.mono (by decide)) (hb.mono (by decide))
  have p7 : RQ 2100 (fun a b => .bool (decide (a.1 * b.2 < b.1 * a.2))) [rat b, rat a] (.ok (.bool (decide (b.1 * a.2 < a.1 * b.2)))) := rq_mk (f := fun a b => .bool (decide (a.1 * b.2 < b.1 * a.2))) (hb.mono (by decide)) (ha.mono (by decide))
  have p8 : RQ 2100 (fun a b => .bool (decide (a.1 * b.2 < b.1 * a.2))) [rat a, rat b] (.ok (.bool (decide (a.1 * b.2 < b.1 * a.2)))) := rq_mk (f := fun a b => .bool (decide (a.1 * b.2 < b.1 * a.2))) (ha.mono (by decide)) (hb.mono (by decide))
  have p9 : RQ 3000 (fun a b => .int (qcmp a b)) [rat a, rat b] (.ok (.int (qcmp a b))) := rq_mk (f := fun a b => .int (qcmp a b)) (ha.mono (by decide)) (hb.mono (by decide))
  have p10 : RQ 3000 (fun a b => .int (qcmp a b)) [rat a, rat a] (.ok (.int (qcmp a a))) := rq_mk (f := fun a b => .int (qcmp a b)) (ha.mono (by decide)) (ha.mono (by decide))
  have m1 : RM 4 [rat (qadd a b), rat (qadd a b)] (.ok (.bool true)) := rm_mk (m_rat _ _)
  have m2 : RM 4 [rat (qsub a b), rat (qadd a (-b.1, b.2))] (.ok (.bool true)) := rm_eq (m_rat _ _) (by rw [sub_add])
  have m3 : RM 4 [rat (qmul a b), rat (qmul a b)] (.ok (.bool true)) := rm_mk (m_rat _ _)
  have m4 : RM 4 [.int (qcmp a b), .int ((if decide (b.1 * a.2 < a.1 * b.2) then 1 else 0) - (if decide (a.1 * b.2 < b.1 * a.2) then 1 else 0))] (.ok (.bool true)) := rm_eq (by trivial) (by rw [cmp_ord])
  have m5 : RM 4 [.int (qcmp a a), .int 0] (.ok (.bool true)) := rm_eq (by trivial) (by rw [cmp_self])
  refine en_seq (rn_asgE (d := rat (-b.1, b.2)) (by walk_at "ev") rfl) ?_
  refine en_seq (rn_ifF' (by walk_at "ev") (by rfl) rn_next) ?_
  refine en_seq (rn_ifF' (by walk_at "ev") (by rfl) rn_next) ?_
  refine en_seq (rn_asgE (by walk_at "ev") rfl) ?_
  refine en_seq (rn_ifF' (by walk_at "ev") (by rfl) rn_next) ?_
  by_cases h0 : b.1 = 0
  · have cr : R_over CB [rat a, rat b] (.error (eB CB (rat b))) := ⟨a, b, rfl, ha.mono (by decide), hb.mono (by decide), by rw [if_pos h0]⟩
    refine en_R (rn_tryX (fun W1 => rn_asgX (ev_callXE (by walk_at "ev") cr rfl)) ⟨true, mBB, fun _ => ⟨.rt (.bool true), fun z dd W1 => ?_, fun _ _ h => (by cases h), rfl⟩, fun h => (by cases h)⟩) rfl
    have m0 : RM 4 [rat b, rat b] (.ok (.bool true)) := rm_mk (m_rat _ _)
    dsimp only [eB]
    exact rn_ret (ev_is (by walk_at "ev") (by rw [decide_eq_true h0]; rfl))
  · have cr : R_over CB [rat a, rat b] (.ok (rat (qdiv a b))) := ⟨a, b, rfl, ha.mono (by decide), hb.mono (by decide), by rw [if_neg h0]⟩
    have a1 := ha.t; have a2 := ha.b; have b1 := hb.t; have b2 := hb.b
    have lr : R_law_ratio [.int (a.1 * b.2), .int (a.2 * b.1)] (.ok (rat (qdiv a b))) := ⟨_, _, rfl, (Sz.mul a1 b2).mono (by decide), (Sz.mul a2 b1).mono (by decide), Int.mul_ne_zero ha.z h0, rfl⟩
    have m6 : RM 4 [rat (qdiv a b), rat (qdiv a b)] (.ok (.bool true)) := rm_mk (m_rat _ _)
    refine en_seq (rn_try (fun W1 => rn_asgE (ev_callWE (by walk_at "ev") cr rfl) rfl) (fun _ _ h => by cases h)) ?_
    refine en_rt (rn_ret (ev_andV (by walk_at "ev") fun _ => ev_call0 (ea_cons (by walk_at "ev") (ea_cons (ev_call0 (by walk_at "ev") lr) ea_nil)) m6)) (okB ?_)
    simpa using h0
end
end K85
set_option Elab.async false
set_option linter.all false
set_option maxRecDepth 100000
set_option maxHeartbeats 4000000
set_option exponentiation.threshold 10000
/-! K85K: what a door tells, what is read. -/
namespace K85
open PySem PySem.Spec PyProof.Rows L2 DL
abbrev dTold (d : PyData) : PyData := .tuple [.str "told", d]
abbrev dBad (d : PyData) : PyData := .tuple [.str "bad", d]
abbrev dMany : PyData := .tuple [.str "many", .str "figures", .int 600]
def tW (z : Str) : PyData := if wholeW z then dTold (.int (ival z)) else dBad (.str z)
def tR (z : Str) : PyData := if ratioW z then dTold (rat (numW z)) else dBad (.str z)
def tI (i : Int) : PyData := if long i then dMany else dTold (.str (toString i))
def tQ (p : Int × Int) : PyData := if p.2 = 1 then tI p.1 else if long p.1 || long p.2 then dMany else dTold (.str ((toString p.1 : Str) ++ ("/" : Str) ++ (toString p.2 : Str)))
def R_law_told (ds : List PyData) (r : Res PyData) : Prop :=
  (∃ z : Str, ds = [.int 0, .str z] ∧ z.length ≤ 5000 ∧ r = .ok (tW z)) ∨ (∃ z : Str, ds = [.int 1, .str z] ∧ z.length ≤ 5000 ∧ r = .ok (tR z)) ∨
  (∃ i : Int, ds = [.int 2, .int i] ∧ r = .ok (tI i)) ∨ (∃ p : Int × Int, ds = [.int 3, rat p] ∧ r = .ok (tQ p))
theorem m_two {n : Nat} {s : Str} {d : PyData} (h : mOk n d) : mOk (n + 1) (.tuple [.str s, d]) := ⟨by show 2 ≤ 1000; decide, fun y hy => by
  rcases List.mem_cons.mp hy with h1 | h1
  · rw [h1]; cases n <;> trivial
  · rw [List.mem_singleton.mp h1]; exact h⟩
theorem m_tW (z : Str) : mOk 3 (tW z) := by
  unfold tW
  split
  · exact m_two trivial
  · exact m_two trivial
theorem m_tR (z : Str) : mOk 3 (tR z) := by
  unfold tR
  split
  · exact m_two (m_rat _ _)
  · exact m_two trivial
section
variable {P : Program} {w : World} {K : PySem.W.Frag} {mg : Str → Option Value} {base : Heap} {Z0 Z1 CB CM : Addr}

abbrev s__law_told : Stmt := topS 46
theorem sc__law_told : FnScope ["door", "value", "e", "found"] ["door", "value"] (defScope s__law_told) := ⟨rfl, rfl, rfl, by decide +kernel, rfl, by decide +kernel, by decide +kernel⟩
theorem len__law_told : ∀ ds r, R_law_told ds r → ds.length = (["door", "value"] : List Str).length := by
  rintro _ _ (⟨_, rfl, _⟩ | ⟨_, rfl, _⟩ | ⟨_, rfl, _⟩ | ⟨_, rfl, _⟩) <;> rfl
theorem ok__law_told (T : Tx K mg Z0 Z1) (D : DefAt K mg "_law_told" s__law_told []) (c_read_whole : CalX P w K mg base (L2N.CX P w) 2 "read_whole" [] (R_read_whole CB)) (c_read_ratio : CalX P w K mg base (L2N.CX P w) 3 "read_ratio" [] (R_read_ratio CB)) (c_write_whole : CalX P w K mg base (L2N.CX P w) 2 "write_whole" [] (R_write_whole CM)) (c_write_ratio : CalX P w K mg base (L2N.CX P w) 3 "write_ratio" [] (R_write_ratio CM)) (mBB : PySem.W.exmOne K (.ref CB) (.ref CB) = some true) (mMB : PySem.W.exmOne K (.ref CM) (.ref CB) = some false) (mMM : PySem.W.exmOne K (.ref CM) (.ref CM) = some true) (e_BadNumber : Err1 P w K mg base "BadNumber" CB "value") (e_TooMany : Err2 P w K mg base "TooMany" CM "word" "limit") : CalX P w K mg base CX0 4 "_law_told" [] R_law_told := by
  refine okN D (bind0 (fun _ _ _ _ _ _ us hl => match us, hl with | [_, _], _ => rfl)) sc__law_told len__law_told fun f cdv A outer s H Ex hr => ⟨_, (pss_cons (ps_try rfl rfl sc__law_told.nd takesN0 (fun W pn xe tk hp => (pss_one (ps_if (pt_cmpR (op_eqK (K := K) (hu64 hr) rfl) (pv 0) pe_int (nomark _)) (pss_one (ps_set (i := 3) sc__law_told.nd rfl (by first | exact Or.inl rfl | exact Or.inr rfl) (pe_calK (K := K) rfl c_read_whole hr (by decide) (fun σ => passN tk σ) (pa_cons (pv 1) pa_nil)))) (pss_one (ps_if (pt_cmpR (op_eqK (K := K) (hu64 hr) rfl) (pv 0) pe_int (nomark _)) (pss_one (ps_set (i := 3) sc__law_told.nd rfl (by first | exact Or.inl rfl | exact Or.inr rfl) (pe_calK (K := K) rfl c_read_ratio hr (by decide) (fun σ => passN tk σ) (pa_cons (pv 1) pa_nil)))) (pss_one (ps_if (pt_cmpR (op_eqK (K := K) (hu64 hr) rfl) (pv 0) pe_int (nomark _)) (pss_one (ps_set (i := 3) sc__law_told.nd rfl (by first | exact Or.inl rfl | exact Or.inr rfl) (pe_calK (K := K) rfl c_write_whole hr (by decide) (fun σ => passN tk σ) (pa_cons (pv 1) pa_nil)))) (pss_one (ps_set (i := 3) sc__law_told.nd rfl (by first | exact Or.inl rfl | exact Or.inr rfl) (pe_calK (K := K) rfl c_write_ratio hr (by decide) (fun σ => passN tk σ) (pa_cons (pv 1) pa_nil))))))))))) (Clauses.cons (i := 2) ⟨by rfl, by decide, .inl e_BadNumber.gl⟩ rfl rfl (fun z o kc d pn hz hf => have hrH := L2H.roomH_mark hr (some (.ref z)); (pss_one (ps_ret (pe_tup (pa_cons pe_str (pa_cons (pe_xf e_BadNumber.xf e_BadNumber.nf hz.zc hf (pv 2)) pa_nil)))))) (Clauses.cons (i := 2) ⟨by rfl, by decide, .inl e_TooMany.gl⟩ rfl rfl (fun z o kc d pn hz hf => have hrH := L2H.roomH_mark hr (some (.ref z)); (pss_one (ps_ret (pe_tup (pa_cons pe_str (pa_cons (pe_xf e_TooMany.xf e_TooMany.nf hz.zc hf (pv 2)) (pa_cons (pe_xf e_TooMany.xf e_TooMany.ng hz.zc hf (pv 2)) pa_nil))))))) Clauses.nil)))
    (pss_one (ps_ret (pe_tup (pa_cons pe_str (pa_cons (pv 3) pa_nil)))))), ?_⟩

  rintro ds r (⟨z, rfl, hz, rfl⟩ | ⟨z, rfl, hz, rfl⟩ | ⟨i, rfl, rfl⟩ | ⟨p, rfl, rfl⟩)
  · cases h : wholeW z with
    | true =>
      have c : R_read_whole CB [.str z] (.ok (.int (ival z))) := ⟨z, rfl, hz, by rw [h]; rfl⟩
      have e : tW z = dTold (.int (ival z)) := by unfold tW; rw [h]; rfl
      rw [e]
      exact en_seq (rn_try (fun W1 => rn_ifT' (by walk_at "ev") (by rfl) (rn_asgE (ev_callWE (by walk_at "ev") c rfl) rfl)) (fun _ _ h => by cases h)) (en_rt (rn_ret (by walk_at "ev")) rfl)
    | false =>
      have c : R_read_whole CB [.str z] (.error (eB CB (.str z))) := ⟨z, rfl, hz, by rw [h]; rfl⟩
      have e : tW z = dBad (.str z) := by unfold tW; rw [h]; rfl
      rw [e]
      refine en_R (rn_tryX (fun W1 => rn_ifT' (by walk_at "ev") (by rfl) (rn_asgX (ev_callXE (by walk_at "ev") c rfl))) ⟨true, mBB, fun _ => ⟨.rt (dBad (.str z)), fun y dd W1 => ?_, fun _ _ h => (by cases h), rfl⟩, fun h => (by cases h)⟩) rfl
      dsimp only [eB]
      exact rn_ret (ev_is (by walk_at "ev") rfl)
  · cases h : ratioW z with
    | true =>
      have c : R_read_ratio CB [.str z] (.ok (rat (numW z))) := ⟨z, rfl, hz, by rw [h]; rfl⟩
      have e : tR z = dTold (rat (numW z)) := by unfold tR; rw [h]; rfl
      rw [e]
      exact en_seq (rn_try (fun W1 => rn_ifF' (by walk_at "ev") (by rfl) (rn_ifT' (by walk_at "ev") (by rfl) (rn_asgE (ev_callWE (by walk_at "ev") c rfl) rfl))) (fun _ _ h => by cases h)) (en_rt (rn_ret (by walk_at "ev")) rfl)
    | false =>
      have c : R_read_ratio CB [.str z] (.error (eB CB (.str z))) := ⟨z, rfl, hz, by rw [h]; rfl⟩
      have e : tR z = dBad (.str z) := by unfold tR; rw [h]; rfl
      rw [e]
      refine en_R (rn_tryX (fun W1 => rn_ifF' (by walk_at "ev") (by rfl) (rn_ifT' (by walk_at "ev") (by rfl) (rn_asgX (ev_callXE (by walk_at "ev") c rfl)))) ⟨true, mBB, fun _ => ⟨.rt (dBad (.str z)), fun y dd W1 => ?_, fun _ _ h => (by cases h), rfl⟩, fun h => (by cases h)⟩) rfl
      dsimp only [eB]
      exact rn_ret (ev_is (by walk_at "ev") rfl)
  · cases h : long i with
    | false =>
      have c : R_write_whole CM [.int i] (.ok (.str (toString i))) := ⟨i, rfl, by rw [h]; rfl⟩
      have e : tI i = dTold (.str (toString i)) := by unfold tI; rw [h]; rfl
      rw [e]
      exact en_seq (rn_try (fun W1 => rn_ifF' (by walk_at "ev") (by rfl) (rn_ifF' (by walk_at "ev") (by rfl) (rn_ifT' (by walk_at "ev") (by rfl) (rn_asgE (ev_callWE (by walk_at "ev") c rfl) rfl)))) (fun _ _ h => by cases h)) (en_rt (rn_ret (by walk_at "ev")) rfl)
    | true =>
      have c : R_write_whole CM [.int i] (.error (eM CM)) := ⟨i, rfl, by rw [h]; rfl⟩
      have e : tI i = dMany := by unfold tI; rw [h]; rfl
      rw [e]
      refine en_R (rn_tryX (fun W1 => rn_ifF' (by walk_at "ev") (by rfl) (rn_ifF' (by walk_at "ev") (by rfl) (rn_ifT' (by walk_at "ev") (by rfl) (rn_asgX (ev_callXE (by walk_at "ev") c rfl))))) ⟨false, mMB, fun h => (by cases h), fun _ => ⟨true, mMM, fun _ => ⟨.rt dMany, fun y dd W1 => ?_, fun _ _ h => (by cases h), rfl⟩, fun h => (by cases h)⟩⟩) rfl
      dsimp only [eM]
      exact rn_ret (ev_is (by walk_at "ev") rfl)
  · have fin : ∀ q : Res PyData, R_write_ratio CM [rat p] q → (q = .error (eM CM) ∧ tQ p = dMany) ∨ (∃ s, q = .ok (.str s) ∧ tQ p = dTold (.str s)) := by
      rintro q ⟨p', hp, rfl⟩
      have e : p' = p := by
        injection hp with h1
        injection h1 with h2
        injection h2 with h3 h4
        injection h4 with h5 h6
        injection h3 with h7
        injection h5 with h8
        exact Prod.ext h7.symm h8.symm
      subst e
      unfold tQ tI
      by_cases h1 : p'.2 = 1
      · rw [if_pos h1, if_pos h1]
        cases long p'.1 with
        | true => exact .inl ⟨rfl, rfl⟩
        | false => exact .inr ⟨_, rfl, rfl⟩
      · rw [if_neg h1, if_neg h1]
        cases (long p'.1 || long p'.2) with
        | true => exact .inl ⟨rfl, rfl⟩
        | false => exact .inr ⟨_, rfl, rfl⟩
    obtain ⟨q, c⟩ : ∃ q, R_write_ratio CM [rat p] q := ⟨_, p, rfl, rfl⟩
    rcases fin q c with ⟨rfl, e⟩ | ⟨s, rfl, e⟩
    · rw [e]
      refine en_R (rn_tryX (fun W1 => rn_ifF' (by walk_at "ev") (by rfl) (rn_ifF' (by walk_at "ev") (by rfl) (rn_ifF' (by walk_at "ev") (by rfl) (rn_asgX (ev_callXE (by walk_at "ev") c rfl))))) ⟨false, mMB, fun h => (by cases h), fun _ => ⟨true, mMM, fun _ => ⟨.rt dMany, fun y dd W1 => ?_, fun _ _ h => (by cases h), rfl⟩, fun h => (by cases h)⟩⟩) rfl
      dsimp only [eM]
      exact rn_ret (ev_is (by walk_at "ev") rfl)
    · rw [e]
      exact en_seq (rn_try (fun W1 => rn_ifF' (by walk_at "ev") (by rfl) (rn_ifF' (by walk_at "ev") (by rfl) (rn_ifF' (by walk_at "ev") (by rfl) (rn_asgE (ev_callWE (by walk_at "ev") c rfl) rfl)))) (fun _ _ h => by cases h)) (en_rt (rn_ret (by walk_at "ev")) rfl)
abbrev s__law_read_right : Stmt := topS 47
theorem sc__law_read_right : FnScope ["text", "whole", "parted"] ["text"] (defScope s__law_read_right) := ⟨rfl, rfl, rfl, by decide +kernel, rfl, by decide +kernel, by decide +kernel⟩
theorem len__law_read_right : ∀ ds r, (RT 5000 fun _ => .bool true) ds r → ds.length = (["text"] : List Str).length := by
  rintro _ _ ⟨_, rfl, _⟩; rfl
theorem ok__law_read_right (T : Tx K mg Z0 Z1) (D : DefAt K mg "_law_read_right" s__law_read_right []) (c__law_whole_word : CalX P w K mg base CX0 2 "_law_whole_word" [] (RT 5000 fun z => .bool (wholeW z))) (c__law_ratio_word : CalX P w K mg base CX0 3 "_law_ratio_word" [] (RT 5000 fun z => .bool (ratioW z))) (c__law_match : CalX P w K mg base CX0 6 "_law_match" [] (RM 4)) (c__law_number : CalX P w K mg base CX0 1 "_law_number" [] R_law_number) (c__law_told : CalX P w K mg base CX0 4 "_law_told" [] R_law_told) : CalX P w K mg base CX0 7 "_law_read_right" [] (RT 5000 fun _ => .bool true) := by
  refine okN D (bind0 (fun _ _ _ _ _ _ us hl => match us, hl with | [_], _ => rfl)) sc__law_read_right len__law_read_right fun f cdv A outer s H Ex hr => ⟨_, (pss_cons (ps_set (i := 1) sc__law_read_right.nd rfl (by first | exact Or.inl rfl | exact Or.inr rfl) (pe_tup (pa_cons pe_str (pa_cons (pv 0) pa_nil))))
    (pss_cons (ps_set (i := 2) sc__law_read_right.nd rfl (by first | exact Or.inl rfl | exact Or.inr rfl) (pe_tup (pa_cons pe_str (pa_cons (pv 0) pa_nil))))
    (pss_cons (ps_if (pt_val (pe_cal c__law_whole_word hr (by decide) (fun σ => p0At σ) (pa_cons (pv 0) pa_nil))) (pss_one (ps_set (i := 1) sc__law_read_right.nd rfl (by first | exact Or.inl rfl | exact Or.inr rfl) (pe_tup (pa_cons pe_str (pa_cons (pe_callTy (call_intU T.nd) (by rfl) T.n_int (by decide +kernel) (pa_cons (pv 0) pa_nil)) pa_nil))))) pss_nil)
    (pss_cons (ps_if (pt_val (pe_cal c__law_ratio_word hr (by decide) (fun σ => p0At σ) (pa_cons (pv 0) pa_nil))) (pss_one (ps_set (i := 2) sc__law_read_right.nd rfl (by first | exact Or.inl rfl | exact Or.inr rfl) (pe_tup (pa_cons pe_str (pa_cons (pe_cal c__law_number hr (by decide) (fun σ => p0At σ) (pa_cons (pv 0) pa_nil)) pa_nil))))) pss_nil)
    (pss_one (ps_ret (pe_and (pe_cal c__law_match hr (by decide) (fun σ => p0At σ) (pa_cons (pe_cal c__law_told hr (by decide) (fun σ => p0At σ) (pa_cons pe_int (pa_cons (pv 0) pa_nil))) (pa_cons (pv 1) pa_nil))) (pe_one (pe_cal c__law_match hr (by decide) (fun σ => p0At σ) (pa_cons (pe_cal c__law_told hr (by decide) (fun σ => p0At σ) (pa_cons pe_int (pa_cons (pv 0) pa_nil))) (pa_cons (pv 2) pa_nil))))))))))), ?_⟩

  rintro ds r ⟨z, rfl, hz, rfl⟩
  have t0 : R_law_told [.int 0, .str z] (.ok (tW z)) := .inl ⟨z, rfl, hz, rfl⟩
  have t1 : R_law_told [.int 1, .str z] (.ok (tR z)) := .inr (.inl ⟨z, rfl, hz, rfl⟩)
  have m0 : RM 4 [tW z, tW z] (.ok (.bool true)) := rm_mk (m_tW z)
  have m1 : RM 4 [tR z, tR z] (.ok (.bool true)) := rm_mk (m_tR z)
  refine en_seq (rn_asgE (by walk_at "ev") rfl) ?_
  refine en_seq (rn_asgE (by walk_at "ev") rfl) ?_
  refine en_seq (δ1 := [.val (.str z), .val (tW z), .val (dBad (.str z))]) ?_ ?_
  · cases h : wholeW z with
    | true =>
      have e : tW z = dTold (.int (ival z)) := by unfold tW; rw [h]; rfl
      obtain ⟨p1, p2⟩ := body_int (Bool.and_eq_true_iff.mp h).1
      have c1 : RC K rIntU [.str z] (.int (ival z)) := rc_intT p1 (Nat.le_trans p2 (by decide)) (.inl (Nat.le_trans p2 (by decide)))
      rw [e]
      exact rn_ifT' (by walk_at "ev") (by exact h) (rn_asgE (by walk_at "ev") rfl)
    | false =>
      have e : tW z = dBad (.str z) := by unfold tW; rw [h]; rfl
      rw [e]
      exact rn_ifF' (by walk_at "ev") (by exact h) rn_next
  refine en_seq (δ1 := [.val (.str z), .val (tW z), .val (tR z)]) ?_ ?_
  · cases h : ratioW z with
    | true =>
      have e : tR z = dTold (rat (numW z)) := by unfold tR; rw [h]; rfl
      have c1 : R_law_number [.str z] (.ok (rat (numW z))) := ⟨z, rfl, hz, h, rfl⟩
      rw [e]
      exact rn_ifT' (by walk_at "ev") (by exact h) (rn_asgE (ev_tupH (ea_cons (by walk_at "ev") (ea_cons (ev_call0 (by walk_at "ev") c1) ea_nil)) (by walk_at "side")) rfl)
    | false =>
      have e : tR z = dBad (.str z) := by unfold tR; rw [h]; rfl
      rw [e]
      exact rn_ifF' (by walk_at "ev") (by exact h) rn_next
  exact en_rt (rn_ret (ev_andV (ev_call0 (ea_cons (ev_call0 (by walk_at "ev") t0) (by walk_at "ev")) m0) fun _ => ev_call0 (ea_cons (ev_call0 (by walk_at "ev") t1) (by walk_at "ev")) m1)) (okB (by rfl))
end
end K85
set_option Elab.async false
set_option linter.all false
set_option maxRecDepth 100000
set_option maxHeartbeats 4000000
set_option exponentiation.threshold 10000
/-! K85L: sums of products. -/
namespace K85
open PySem PySem.Spec PyProof.Rows L2 DL
def termF (x a b c : Int) : Int × Int := nrm (x.fmod a - b) (1 + (x.fdiv a).fmod c)
def seqF (ns : List Int) (off : Nat) (a b c : Int) (n : Nat) : List (Int × Int) := (List.range n).map fun k => termF (ns.getD (off + k) 0) a b c
theorem term_ok {x a b c : Int} (ha : 0 < a) (ha2 : a ≤ 1000) (hb : 0 ≤ b) (hb2 : b ≤ 1000) (hc : 0 < c) (hc2 : c ≤ 1000) : Sz 12 (x.fmod a - b) ∧ Sz 12 (1 + (x.fdiv a).fmod c) ∧ (1 + (x.fdiv a).fmod c) ≠ 0 ∧ Qz 20 (termF x a b c) := by
  have h1 := Int.fmod_nonneg_of_pos x ha
  have h2 := Int.fmod_lt_of_pos x ha
  have h3 := Int.fmod_nonneg_of_pos (x.fdiv a) hc
  have h4 := Int.fmod_lt_of_pos (x.fdiv a) hc
  have e : (2 : Nat) ^ 12 = 4096 := rfl
  have s1 : Sz 12 (x.fmod a - b) := by unfold Sz; rw [e]; omega
  have s2 : Sz 12 (1 + (x.fdiv a).fmod c) := by unfold Sz; rw [e]; omega
  have s3 : (1 + (x.fdiv a).fmod c) ≠ 0 := by omega
  exact ⟨s1, s2, s3, (nrm_qz s1 s2 s3).mono (by decide)⟩
theorem seq_len {ns : List Int} {off : Nat} {a b c : Int} {n : Nat} : (seqF ns off a b c n).length = n := by simp [seqF]
theorem seq_ql {ns : List Int} {off : Nat} {a b c : Int} {n : Nat} (ha : 0 < a) (ha2 : a ≤ 1000) (hb : 0 ≤ b) (hb2 : b ≤ 1000) (hc : 0 < c) (hc2 : c ≤ 1000) : QL 20 (seqF ns off a b c n) := fun x hx => by
  obtain ⟨k, _, rfl⟩ := List.mem_map.mp hx
  exact (term_ok ha ha2 hb hb2 hc hc2).2.2.2
theorem tot_comm (xs ys : List (Int × Int)) : ∀ i, totN xs ys i = totN ys xs i
  | 0 => rfl
  | i + 1 => by
    show qadd (totN xs ys i) (qmul _ _) = qadd (totN ys xs i) (qmul _ _)
    rw [tot_comm xs ys i]
    congr 1
    unfold qmul
    rw [Int.mul_comm, Int.mul_comm (xs.getD i (0, 1)).2]
def elF (ns : List Int) (off : Nat) (a b c : Int) : PyData → PyData
  | .int k => rat (termF (ns.getD (off + k.toNat) 0) a b c)
  | d => d
theorem el_map (ns : List Int) (off : Nat) (a b c : Int) (n : Nat) : (iota 0 n).map (elF ns off a b c) = (seqF ns off a b c n).map rat := by
  unfold iota seqF
  rw [List.map_map, List.map_map]
  refine List.map_congr_left fun k _ => ?_
  show rat (termF (ns.getD (off + ((0 : Int) + (k : Nat)).toNat) 0) a b c) = _
  rw [show ((0 : Int) + (k : Nat)).toNat = k by omega]
  rfl
def R_law_dot_right (ds : List PyData) (r : Res PyData) : Prop := ∃ ns : List Int, ds = [.list (ns.map .int)] ∧ ns.length = 29 ∧ r = .ok (.bool true)
theorem lay_rats : ∀ xs : List (Int × Int), PyData.canLayAll0 (xs.map rat) = true
  | [] => rfl
  | x :: r => by
    show (PyData.canLay0 (rat x) && PyData.canLayAll0 (r.map rat)) = true
    rw [lay_rats r]; rfl
theorem dep_rats : ∀ xs : List (Int × Int), PyData.depthAll (xs.map rat) ≤ 3
  | [] => by show (0 : Nat) ≤ 3; decide
  | x :: r => by
    have h := dep_rats r
    have e : PyData.depth (rat x) ≤ 3 := by simp [PyData.depth, PyData.depthAll]
    exact Nat.max_le.mpr ⟨e, h⟩
theorem shaped_two (xs ys : List (Int × Int)) : SeqAt.shaped (.list [.list (xs.map rat), .list (ys.map rat)]) = true := by
  unfold SeqAt.shaped
  have h1 : PyData.canLay0 (.list [.list (xs.map rat), .list (ys.map rat)]) = (PyData.canLayAll0 (xs.map rat) && (PyData.canLayAll0 (ys.map rat) && true)) := rfl
  have hx := dep_rats xs
  have hy := dep_rats ys
  have h2 : PyData.depth (.list [.list (xs.map rat), .list (ys.map rat)]) ≤ 64 := by
    simp only [PyData.depth, PyData.depthAll]
    omega
  rw [h1, lay_rats, lay_rats, decide_eq_true h2]
  rfl
section
variable {P : Program} {w : World} {K : PySem.W.Frag} {mg : Str → Option Value} {base : Heap} {Z0 Z1 CB CM : Addr}

abbrev s__law_dot_right : Stmt := topS 44
theorem sc__law_dot_right : FnScope ["draws", "many", "xs", "ys", "total", "k", "passed"] ["draws"] (defScope s__law_dot_right) := ⟨rfl, rfl, rfl, by decide +kernel, rfl, by decide +kernel, by decide +kernel⟩
theorem len__law_dot_right : ∀ ds r, R_law_dot_right ds r → ds.length = (["draws"] : List Str).length := by
  rintro _ _ ⟨_, rfl, _⟩; rfl
theorem ok__law_dot_right (T : Tx K mg Z0 Z1) (D : DefAt K mg "_law_dot_right" s__law_dot_right []) (c__law_match : CalX P w K mg base CX0 6 "_law_match" [] (RM 4)) (c__law_ratio : CalX P w K mg base CX0 2 "_law_ratio" [] R_law_ratio) (c__law_add : CalX P w K mg base CX0 3 "_law_add" [] (RQ 2100 fun a b => rat (qadd a b))) (c_dot : CalX P w K mg base CX0 4 "dot" [] R_dot) (c__law_mul : CalX P w K mg base CX0 3 "_law_mul" [] (RQ 2100 fun a b => rat (qmul a b))) : CalX P w K mg base CX0 7 "_law_dot_right" [] R_law_dot_right := by
  refine okN D (bind0 (fun _ _ _ _ _ _ us hl => match us, hl with | [_], _ => rfl)) sc__law_dot_right len__law_dot_right fun f cdv A outer s H Ex hr => ⟨_, (pss_cons (ps_set (i := 1) sc__law_dot_right.nd rfl (by first | exact Or.inl rfl | exact Or.inr rfl) (pe_op op_modN (pe_ix ix_seq (pv 0) pe_int (fun _ _ => rfl)) pe_int))
    (pss_cons (ps_setLc (i := 2) (own := [("k", 5)]) rfl sc__law_dot_right.nd rfl rfl (sw_true rfl rfl rfl (by decide +kernel)) (pi_range1 rfl T.n_range (pa_cons (pv 1) pa_nil)) (blkOk_by (by show blkC ["draws", "many", "xs", "ys", "total", "k", "passed"] (defScope s__law_dot_right) _ [("k", 5)] = true; decide +kernel)) (fun _ _ _ _ _ => (pg_name (i := 5) sc__law_dot_right.nd rfl (by first | exact Or.inl rfl | exact Or.inr rfl))) (fun _ _ _ _ _ => pts_nil) (fun _ _ _ _ _ => (pe_calK (K := K) rfl c__law_ratio hr (by decide) (fun σ => p0At σ) (pa_cons (pe_op op_sub (pe_op op_modN (pe_ix (ix_K (K := K) rfl) (pv 0) (pe_op (op_addK (K := K) rfl) pe_int (pv 5)) (fun _ _ => rfl)) pe_int) pe_int) (pa_cons (pe_op (op_addK (K := K) rfl) pe_int (pe_op op_modN (pe_op op_fdivX (pe_ix (ix_K (K := K) rfl) (pv 0) (pe_op (op_addK (K := K) rfl) pe_int (pv 5)) (fun _ _ => rfl)) pe_int) pe_int)) pa_nil)))))
    (pss_cons (ps_setLc (i := 3) (own := [("k", 5)]) rfl sc__law_dot_right.nd rfl rfl (sw_true rfl rfl rfl (by decide +kernel)) (pi_range1 rfl T.n_range (pa_cons (pv 1) pa_nil)) (blkOk_by (by show blkC ["draws", "many", "xs", "ys", "total", "k", "passed"] (defScope s__law_dot_right) _ [("k", 5)] = true; decide +kernel)) (fun _ _ _ _ _ => (pg_name (i := 5) sc__law_dot_right.nd rfl (by first | exact Or.inl rfl | exact Or.inr rfl))) (fun _ _ _ _ _ => pts_nil) (fun _ _ _ _ _ => (pe_calK (K := K) rfl c__law_ratio hr (by decide) (fun σ => p0At σ) (pa_cons (pe_op op_sub (pe_op op_modN (pe_ix (ix_K (K := K) rfl) (pv 0) (pe_op (op_addK (K := K) rfl) pe_int (pv 5)) (fun _ _ => rfl)) pe_int) pe_int) (pa_cons (pe_op (op_addK (K := K) rfl) pe_int (pe_op op_modN (pe_op op_fdivX (pe_ix (ix_K (K := K) rfl) (pv 0) (pe_op (op_addK (K := K) rfl) pe_int (pv 5)) (fun _ _ => rfl)) pe_int) pe_int)) pa_nil)))))
    (pss_cons (ps_set (i := 4) sc__law_dot_right.nd rfl (by first | exact Or.inl rfl | exact Or.inr rfl) (pe_tup (pa_cons pe_int (pa_cons pe_int pa_nil))))
    (pss_cons (ps_for PassesOwn.never rfl (pi_range1 rfl T.n_range (pa_cons (pv 1) pa_nil)) (pg_name (i := 5) sc__law_dot_right.nd rfl (by first | exact Or.inl rfl | exact Or.inr rfl)) (pss_one (ps_set (i := 4) sc__law_dot_right.nd rfl (by first | exact Or.inl rfl | exact Or.inr rfl) (pe_cal c__law_add hr (by decide) (fun σ => p0At σ) (pa_cons (pv 4) (pa_cons (pe_cal c__law_mul hr (by decide) (fun σ => p0At σ) (pa_cons (pe_ix ix_seq (pv 2) (pv 5) (fun _ _ => rfl)) (pa_cons (pe_ix ix_seq (pv 3) (pv 5) (fun _ _ => rfl)) pa_nil))) pa_nil))))))
    (pss_cons (ps_set (i := 6) sc__law_dot_right.nd rfl (by first | exact Or.inl rfl | exact Or.inr rfl) (pe_lst (pa_cons (pe_callTy call_list_of (by rfl) T.n_list (by decide +kernel) (pa_cons (pv 2) pa_nil)) (pa_cons (pe_callTy call_list_of (by rfl) T.n_list (by decide +kernel) (pa_cons (pv 3) pa_nil)) pa_nil))))
    (pss_cons (ps_if (PW.pt (pw_or (pt_not (pt_val (pe_cal c__law_match hr (by decide) (fun σ => p0At σ) (pa_cons (pe_cal c_dot hr (by decide) (fun σ => p0At σ) (pa_cons (pe_ix ix_seq (pv 6) pe_int (fun _ _ => rfl)) (pa_cons (pe_ix ix_seq (pv 6) pe_int (fun _ _ => rfl)) pa_nil))) (pa_cons (pv 4) pa_nil))))) (pw_or1 (pt_cmpR (op_neU (hu64 hr)) (pv 6) (pe_lst (pa_cons (pv 2) (pa_cons (pv 3) pa_nil))) (nomark _))))) (pss_one (ps_ret pe_bl)) pss_nil)
    (pss_one (ps_ret (pe_cal c__law_match hr (by decide) (fun σ => p0At σ) (pa_cons (pe_cal c_dot hr (by decide) (fun σ => p0At σ) (pa_cons (pe_callTy call_tuple_of (by rfl) T.n_tuple (by decide +kernel) (pa_cons (pv 3) pa_nil)) (pa_cons (pe_callTy call_tuple_of (by rfl) T.n_tuple (by decide +kernel) (pa_cons (pv 2) pa_nil)) pa_nil))) (pa_cons (pv 4) pa_nil)))))))))))), ?_⟩

  rintro ds r ⟨ns, rfl, hl, rfl⟩
  have g0 := at_int (ns := ns) (i := 0) (by omega)
  have i0 : RD K (rIx K) (.list (ns.map .int)) (.int 0) (.int (ns.getD 0 0)) := rd_ix_L g0
  generalize hm : (ns.getD 0 0).fmod 13 = many at *
  have m0 : 0 ≤ many := by rw [← hm]; exact Int.fmod_nonneg_of_pos _ (by decide)
  have m1 : many < 13 := by rw [← hm]; exact Int.fmod_lt_of_pos _ (by decide)
  have ixk : ∀ (o i : Nat), o + i < 29 → RD K (rIx K) (.list (ns.map .int)) (.int ((o : Int) + (i : Nat))) (.int (ns.getD (o + i) 0)) := fun o i h => rd_ix_L (at_int (i := o + i) (by omega))
  have qx := seq_ql (ns := ns) (off := 1) (a := 19) (b := 9) (c := 6) (n := many.toNat) (by decide) (by decide) (by decide) (by decide) (by decide) (by decide)
  have qy := seq_ql (ns := ns) (off := 14) (a := 23) (b := 11) (c := 5) (n := many.toNat) (by decide) (by decide) (by decide) (by decide) (by decide) (by decide)
  have lx := seq_len (ns := ns) (off := 1) (a := 19) (b := 9) (c := 6) (n := many.toNat)
  have ly := seq_len (ns := ns) (off := 14) (a := 23) (b := 11) (c := 5) (n := many.toNat)
  refine en_seq (rn_asgE (d := .int many) (ev_is (ev_op (ev_op (by walk_at "ev") (by walk_at "ev") i0) (by walk_at "ev") (by walk_at "rd")) (by rw [hm])) rfl) ?_
  have mk : (iota 0 many.toNat).length ≤ sizeLine := by rw [iota_len, sizeLine_eq]; omega
  have lr : ∀ x a b c : Int, 0 < a → a ≤ 1000 → 0 ≤ b → b ≤ 1000 → 0 < c → c ≤ 1000 → R_law_ratio [.int (x.fmod a - b), .int (1 + (x.fdiv a).fmod c)] (.ok (rat (termF x a b c))) := fun x a b c h1 h2 h3 h4 h5 h6 => by
    obtain ⟨s1, s2, s3, _⟩ := term_ok (x := x) h1 h2 h3 h4 h5 h6
    exact ⟨_, _, rfl, s1.mono (by decide), s2.mono (by decide), s3, rfl⟩
  refine en_seq (rn_asgE (d := .list ((seqF ns 1 19 9 6 many.toNat).map rat)) (ev_is (ev_lcM (W' := fun _ _ _ _ => False) (js := [5]) (elF ns 1 19 9 6) (src_rng1 (W := fun _ _ _ _ => False) (j := many) (by walk_at "ev") (by omega) (by omega)) (by intro j hj; exact hj) mk (fun i d hd => ?_)) (by rw [el_map])) rfl) ?_
  · have hi : i < many.toNat := by
      have := (List.getElem?_eq_some_iff.mp hd).1
      rwa [iota_len] at this
    rw [iota_get hi] at hd
    cases hd
    have e0 : (0 : Int) + (i : Nat) = (i : Int) := by omega
    rw [e0]
    have ik : RD K (rIx K) (.list (ns.map .int)) (.int (1 + (i : Int))) (.int (ns.getD (1 + i) 0)) := ixk 1 i (by omega)
    have cl := lr (ns.getD (1 + i) 0) 19 9 6 (by decide) (by decide) (by decide) (by decide) (by decide) (by decide)
    have tn : elF ns 1 19 9 6 (.int (i : Int)) = rat (termF (ns.getD (1 + i) 0) 19 9 6) := rfl
    rw [tn]
    exact ⟨_, as_name, ev_callWE (by walk_at "ev") cl rfl⟩
  refine en_seq (rn_asgE (d := .list ((seqF ns 14 23 11 5 many.toNat).map rat)) (ev_is (ev_lcM (W' := fun _ _ _ _ => False) (js := [5]) (elF ns 14 23 11 5) (src_rng1 (W := fun _ _ _ _ => False) (j := many) (by walk_at "ev") (by omega) (by omega)) (by intro j hj; exact hj) mk (fun i d hd => ?_)) (by rw [el_map])) rfl) ?_
  · have hi : i < many.toNat := by
      have := (List.getElem?_eq_some_iff.mp hd).1
      rwa [iota_len] at this
    rw [iota_get hi] at hd
    cases hd
    have e0 : (0 : Int) + (i : Nat) = (i : Int) := by omega
    rw [e0]
    have ik : RD K (rIx K) (.list (ns.map .int)) (.int (14 + (i : Int))) (.int (ns.getD (14 + i) 0)) := ixk 14 i (by omega)
    have cl := lr (ns.getD (14 + i) 0) 23 11 5 (by decide) (by decide) (by decide) (by decide) (by decide) (by decide)
    have tn : elF ns 14 23 11 5 (.int (i : Int)) = rat (termF (ns.getD (14 + i) 0) 23 11 5) := rfl
    rw [tn]
    exact ⟨_, as_name, ev_callWE (by walk_at "ev") cl rfl⟩
  generalize hX : seqF ns 1 19 9 6 many.toNat = X at *
  generalize hY : seqF ns 14 23 11 5 many.toNat = Y at *
  refine en_seq (rn_asgE (d := rat (0, 1)) (by walk_at "ev") rfl) ?_
  have tq : ∀ i, i ≤ X.length → Qz (1 + 41 * i) (totN X Y i) ∧ Nf (totN X Y i) := tot_ok qx qy (by rw [lx, ly])
  refine en_seq (δ1 := [.val (.list (ns.map .int)), .val (.int many), .val (.list (X.map rat)), .val (.list (Y.map rat)), .val (rat (totN X Y many.toNat)), .no, .no]) ?_ ?_
  · refine rn_at (δ := [.val (.list (ns.map .int)), .val (.int many), .val (.list (X.map rat)), .val (.list (Y.map rat)), .val (rat (0, 1)), .no, .no]) rfl ?_
    have src := (src_rng1 (K := K) (δ := [.val (.list (ns.map .int)), .val (.int many), .val (.list (X.map rat)), .val (.list (Y.map rat)), .val (rat (0, 1)), .no, .no]) (W := fun _ _ _ _ => False) (j := many) (ta := tCons (tVar 1) tNil) (by walk_at "ev") (by omega) (by omega))
    refine rn_for (js := [5]) (fun i => [.val (.list (ns.map .int)), .val (.int many), .val (.list (X.map rat)), .val (.list (Y.map rat)), .val (rat (totN X Y i)), .no, .no]) many.toNat ?_ src (fun i d hi hd => ?_) (.inl ⟨?_, rfl⟩)
    · rw [iota_len]; exact Nat.le_refl _
    rotate_left
    · rw [iota_len]
    rw [iota_get hi] at hd
    cases hd
    have e0 : (0 : Int) + (i : Nat) = (i : Int) := by omega
    rw [e0]
    have ix : RD K (rIx K) (.list (X.map rat)) (.int (i : Int)) (rat (X.getD i (0, 1))) := rd_ix_L (at_rat (by omega))
    have iy : RD K (rIx K) (.list (Y.map rat)) (.int (i : Int)) (rat (Y.getD i (0, 1))) := rd_ix_L (at_rat (by omega))
    have z1 := qx.get (i := i) (by omega)
    have z2 := qy.get (i := i) (by omega)
    have c1 : RQ 2100 (fun a b => rat (qmul a b)) [rat (X.getD i (0, 1)), rat (Y.getD i (0, 1))] (.ok (rat (qmul (X.getD i (0, 1)) (Y.getD i (0, 1))))) := rq_mk (f := fun a b => rat (qmul a b)) (z1.mono (by decide)) (z2.mono (by decide))
    have c2 : RQ 2100 (fun a b => rat (qadd a b)) [rat (totN X Y i), rat (qmul (X.getD i (0, 1)) (Y.getD i (0, 1)))] (.ok (rat (totN X Y (i + 1)))) := rq_mk (f := fun a b => rat (qadd a b)) ((tq i (by omega)).1.mono (by omega)) ((qmul_qz z1 z2).mono (by decide))
    exact ⟨_, .nx _, as_name, rfl, rn_weak (by walk_at "less") (rn_asgE (ev_callWE (ea_cons (by walk_at "ev") (ea_cons (ev_callWE (ea_cons (ev_op (by walk_at "ev") (by walk_at "ev") ix) (ea_cons (ev_op (by walk_at "ev") (by walk_at "ev") iy) ea_nil)) c1 rfl) ea_nil)) c2 rfl) rfl)⟩
  have dxy : R_dot [.list (X.map rat), .list (Y.map rat)] (.ok (rat (totN X Y many.toNat))) := ⟨.list, X, Y, .inl rfl, rfl, by rw [lx, ly], by omega, qx, qy, by rw [lx]⟩
  have dyx : R_dot [.tuple (Y.map rat), .tuple (X.map rat)] (.ok (rat (totN X Y many.toNat))) := ⟨.tuple, Y, X, .inr rfl, rfl, by rw [lx, ly], by omega, qy, qx, by rw [ly, tot_comm]⟩
  have mm : RM 4 [rat (totN X Y many.toNat), rat (totN X Y many.toNat)] (.ok (.bool true)) := rm_mk (m_rat _ _)
  have sh := shaped_two X Y
  have ne : RD K (rNeU K) (.list [.list (X.map rat), .list (Y.map rat)]) (.list [.list (X.map rat), .list (Y.map rat)]) (.bool (!PyData.eqv (.list [.list (X.map rat), .list (Y.map rat)]) (.list [.list (X.map rat), .list (Y.map rat)]))) := rd_neX sh sh
  have eq : PyData.eqv (.list [.list (X.map rat), .list (Y.map rat)]) (.list [.list (X.map rat), .list (Y.map rat)]) = true := PySem.SeqAt.eqv_refl _ (SeqAt.canLay_of_shaped sh)
  rw [eq] at ne
  refine en_seq (rn_asgE (by walk_at "ev") rfl) ?_
  refine en_seq (rn_ifF' (by walk_at "ev") (by rfl) rn_next) ?_
  exact en_rt (rn_ret (by walk_at "ev")) (okB (by rfl))
end
end K85
set_option Elab.async false
set_option linter.all false
set_option maxRecDepth 100000
set_option maxHeartbeats 4000000
set_option exponentiation.threshold 10000
/-! K85M: kinds of values. -/
namespace K85
open PySem PySem.Spec PyProof.Rows L2 DL
def lastI : PyData → Option Int
  | .tuple [.int _, .int b] => some b
  | _ => none
def kindA (p : Int × Int) (m : Int) : List PyData := [rat p, .tuple [.int (m * p.1), .int (m * p.2)], .tuple [.int (-p.1), .int (-p.2)], .list [.int p.1, .int p.2], .tuple ([.int p.1, .int p.2] ++ [.int 1]), .tuple (cutD [.int p.1, .int p.2] none (some 1)), .int p.1, .tuple [rat p], .tuple [.int p.1, .int 0], .tuple [.str (toString (p.1.fmod 9)), .int 1]]
def kindB : List PyData := [.tuple [.bool true, .int 1], .tuple [.int 1, .bool true], .tuple [.int 0, .int 1], .tuple [.int 0, .int 2], .tuple [.int 1, .int 0], .tuple [.int 0, .int 0], .tuple [.int 2, .int 4], .none, .bool true, .str "1/2", .tuple [.int 1, .none], .tuple [.tuple [.int 1, .int 1], .int 1], .tuple []]
theorem cut_one (a b : PyData) : cutD [a, b] none (some 1) = [a] := by
  rw [show (1 : Int) = ((1 : Nat) : Int) from rfl, cut_to]; rfl
theorem kindA_ok {p : Int × Int} {m : Int} (h : Qz 1300 p) (hm : Sz 5 m) : ∀ d ∈ kindA p m, ∀ b, lastI d = some b → Sz 4400 b := by
  intro d hd b hb
  have h2 := h.b.mono (show 1300 ≤ 4400 by decide)
  have h3 : Sz 4400 (m * p.2) := (Sz.mul hm h.b).mono (by decide)
  have h4 : Sz 4400 (-p.2) := h2.neg
  have h5 : Sz 4400 0 := Sz.self.mono (by decide)
  have h6 : Sz 4400 1 := Sz.self.mono (by decide)
  unfold kindA at hd
  rw [cut_one] at hd
  simp only [List.mem_cons, List.not_mem_nil, or_false] at hd
  rcases hd with rfl | rfl | rfl | rfl | rfl | rfl | rfl | rfl | rfl | rfl <;> cases hb <;> assumption
theorem kindB_ok : ∀ d ∈ kindB, ∀ b, lastI d = some b → Sz 4400 b := by
  intro d hd b hb
  unfold kindB at hd
  simp only [List.mem_cons, List.not_mem_nil, or_false] at hd
  rcases hd with rfl | rfl | rfl | rfl | rfl | rfl | rfl | rfl | rfl | rfl | rfl | rfl | rfl <;> cases hb <;> exact Sz.self.mono (by decide)
def R_law_kinds_right (ds : List PyData) (r : Res PyData) : Prop := ∃ (p : Int × Int) (ns : List Int), ds = [rat p, .list (ns.map .int)] ∧ Qz 1300 p ∧ 1 ≤ ns.length ∧ r = .ok (.bool true)
section
variable {P : Program} {w : World} {K : PySem.W.Frag} {mg : Str → Option Value} {base : Heap} {Z0 Z1 CB CM : Addr}

abbrev s__law_kinds_right : Stmt := topS 45
theorem sc__law_kinds_right : FnScope ["a", "draws", "many", "values", "value"] ["a", "draws"] (defScope s__law_kinds_right) := ⟨rfl, rfl, rfl, by decide +kernel, rfl, by decide +kernel, by decide +kernel⟩
theorem len__law_kinds_right : ∀ ds r, R_law_kinds_right ds r → ds.length = (["a", "draws"] : List Str).length := by
  rintro _ _ ⟨_, _, rfl, _⟩; rfl
theorem ok__law_kinds_right (T : Tx K mg Z0 Z1) (D : DefAt K mg "_law_kinds_right" s__law_kinds_right []) (c__law_match : CalX P w K mg base CX0 6 "_law_match" [] (RM 4)) (c_is_ratio : CalX P w K mg base CX0 2 "is_ratio" [] (R1 fun d => .bool (isRt d))) (c__law_is_ratio : CalX P w K mg base CX0 2 "_law_is_ratio" [] R_law_is_ratio) : CalX P w K mg base CX0 7 "_law_kinds_right" [] R_law_kinds_right := by
  refine okN D (bind0 (fun _ _ _ _ _ _ us hl => match us, hl with | [_, _], _ => rfl)) sc__law_kinds_right len__law_kinds_right fun f cdv A outer s H Ex hr => ⟨_, (pss_cons (ps_set (i := 2) sc__law_kinds_right.nd rfl (by first | exact Or.inl rfl | exact Or.inr rfl) (pe_op op_addU pe_int (pe_op op_modN (pe_ix ix_seq (pv 1) pe_int (fun _ _ => rfl)) pe_int)))
    (pss_cons (ps_set (i := 3) sc__law_kinds_right.nd rfl (by first | exact Or.inl rfl | exact Or.inr rfl) (pe_lst (pa_cons (pv 0) (pa_cons (pe_tup (pa_cons (pe_op op_mulU (pv 2) (pe_ix ix_seq (pv 0) pe_int (fun _ _ => rfl))) (pa_cons (pe_op op_mulU (pv 2) (pe_ix ix_seq (pv 0) pe_int (fun _ _ => rfl))) pa_nil))) (pa_cons (pe_tup (pa_cons (pe_un un_neg (pe_ix ix_seq (pv 0) pe_int (fun _ _ => rfl))) (pa_cons (pe_un un_neg (pe_ix ix_seq (pv 0) pe_int (fun _ _ => rfl))) pa_nil))) (pa_cons (pe_callTy call_list_of (by rfl) T.n_list (by decide +kernel) (pa_cons (pv 0) pa_nil)) (pa_cons (pe_op op_addU (pv 0) (pe_tup (pa_cons pe_int pa_nil))) (pa_cons (pe_slice sl_U (pv 0) po_none (po_some pe_int)) (pa_cons (pe_ix ix_seq (pv 0) pe_int (fun _ _ => rfl)) (pa_cons (pe_tup (pa_cons (pv 0) pa_nil)) (pa_cons (pe_tup (pa_cons (pe_ix ix_seq (pv 0) pe_int (fun _ _ => rfl)) (pa_cons pe_int pa_nil))) (pa_cons (pe_tup (pa_cons (pe_callTy (call_strB rfl T.nd) (by rfl) T.n_str (by decide +kernel) (pa_cons (pe_op op_modN (pe_ix ix_seq (pv 0) pe_int (fun _ _ => rfl)) pe_int) pa_nil)) (pa_cons pe_int pa_nil))) pa_nil))))))))))))
    (pss_cons (ps_set (i := 3) sc__law_kinds_right.nd rfl (by first | exact Or.inl rfl | exact Or.inr rfl) (pe_op op_addU (pv 3) (pe_lst (pa_cons (pe_tup (pa_cons pe_bl (pa_cons pe_int pa_nil))) (pa_cons (pe_tup (pa_cons pe_int (pa_cons pe_bl pa_nil))) (pa_cons (pe_tup (pa_cons pe_int (pa_cons pe_int pa_nil))) (pa_cons (pe_tup (pa_cons pe_int (pa_cons pe_int pa_nil))) (pa_cons (pe_tup (pa_cons pe_int (pa_cons pe_int pa_nil))) (pa_cons (pe_tup (pa_cons pe_int (pa_cons pe_int pa_nil))) (pa_cons (pe_tup (pa_cons pe_int (pa_cons pe_int pa_nil))) (pa_cons pe_non (pa_cons pe_bl (pa_cons pe_str (pa_cons (pe_tup (pa_cons pe_int (pa_cons pe_non pa_nil))) (pa_cons (pe_tup (pa_cons (pe_tup (pa_cons pe_int (pa_cons pe_int pa_nil))) (pa_cons pe_int pa_nil))) (pa_cons (pe_tup pa_nil) pa_nil))))))))))))))))
    (pss_cons (ps_for PassesOwn.never rfl (pi_list (pv 3)) (pg_name (i := 4) sc__law_kinds_right.nd rfl (by first | exact Or.inl rfl | exact Or.inr rfl)) (pss_one (ps_if (pt_not (pt_val (pe_cal c__law_match hr (by decide) (fun σ => p0At σ) (pa_cons (pe_cal c_is_ratio hr (by decide) (fun σ => p0At σ) (pa_cons (pv 4) pa_nil)) (pa_cons (pe_cal c__law_is_ratio hr (by decide) (fun σ => p0At σ) (pa_cons (pv 4) pa_nil)) pa_nil))))) (pss_one (ps_ret pe_bl)) pss_nil)))
    (pss_one (ps_ret pe_bl)))))), ?_⟩

  rintro ds r ⟨p, ns, rfl, hp, hl, rfl⟩
  have a1 := hp.t; have a2 := hp.b
  have g0 := at_int (ns := ns) (i := 0) (by omega)
  have i0 : RD K (rIx K) (.list (ns.map .int)) (.int 0) (.int (ns.getD 0 0)) := rd_ix_L g0
  have f1 := Int.fmod_nonneg_of_pos (ns.getD 0 0) (show (0 : Int) < 9 by decide)
  have f2 := Int.fmod_lt_of_pos (ns.getD 0 0) (show (0 : Int) < 9 by decide)
  have f3 := Int.fmod_nonneg_of_pos p.1 (show (0 : Int) < 9 by decide)
  have f4 := Int.fmod_lt_of_pos p.1 (show (0 : Int) < 9 by decide)
  have sm : Sz 5 (2 + (ns.getD 0 0).fmod 9) := by
    have e : (2 : Nat) ^ 5 = 32 := rfl
    unfold Sz; rw [e]; omega
  have ss : (p.1.fmod 9).natAbs < 10 ^ 4300 := by
    have h1 : (p.1.fmod 9).natAbs < 10 ^ 1 := by omega
    exact Nat.lt_of_lt_of_le h1 (Nat.pow_le_pow_right (by decide) (by decide))
  refine en_seq (rn_asgE (d := .int (2 + (ns.getD 0 0).fmod 9)) (ev_op (by walk_at "ev") (ev_op (ev_op (by walk_at "ev") (by walk_at "ev") i0) (by walk_at "ev") (by walk_at "rd")) (by walk_at "rd")) rfl) ?_
  generalize 2 + (ns.getD 0 0).fmod 9 = m at *
  refine en_seq (δ1 := [.val (rat p), .val (.list (ns.map .int)), .val (.int m), .own (kindA p m), .no]) (rn_nxE (rn_asgO (ds := kindA p m) (by unfold kindA; walk_at "ev") (by show 10 ≤ sizeLine; decide)) rfl) ?_
  refine en_seq (δ1 := [.val (rat p), .val (.list (ns.map .int)), .val (.int m), .val (.list (kindA p m ++ kindB)), .no]) (rn_asgE (ev_catO (i := 3) (ds := kindB) rfl (by unfold kindB; walk_at "ev") (by show 10 + 13 ≤ sizeLine; decide)) rfl) ?_
  refine en_seq (rn_none (js := [4]) (src_list (W := fun _ _ _ _ => False) (ev_var (i := 3) rfl)) (fun i d hd => ?_)) (en_rt (rn_ret (by walk_at "ev")) rfl)
  have hc : ∀ b, lastI d = some b → Sz 4400 b := by
    have hm := List.mem_of_getElem? hd
    rcases List.mem_append.mp hm with h | h
    · exact kindA_ok hp sm d h
    · exact kindB_ok d h
  have lr : R_law_is_ratio [d] (.ok (.bool (isRt d))) := ⟨d, rfl, fun a b e => hc b (by rw [e]; rfl), rfl⟩
  have mm : RM 4 [.bool (isRt d), .bool (isRt d)] (.ok (.bool true)) := rm_mk (by trivial)
  exact ⟨_, _, as_name, rn_ifF' (et_not (et_B (ev_callWE (ea_cons (by walk_at "ev") (ea_cons (ev_callWE (by walk_at "ev") lr rfl) ea_nil)) mm rfl))) (by rfl) rn_next, by walk_at "less"⟩
end
end K85
set_option Elab.async false
set_option linter.all false
set_option maxRecDepth 100000
set_option maxHeartbeats 4000000
set_option exponentiation.threshold 10000
/-! K85N: what is written. -/
namespace K85
open PySem PySem.Spec PyProof.Rows L2 DL
def lens (z : Str) : List Int := (Txt.split z ("/" : Str)).map fun q => ((Txt.stripChars q ("-" : Str)).length : Int)
def dueF (z : Str) (m : Int) : PyData := if m > 600 then dMany else dTold (.str z)
structure WR (z : Str) (p : Int × Int) (m : Int) : Prop where
  sh : z.length ≤ 4000
  fit : ∀ q ∈ Txt.split z ("/" : Str), (Txt.stripChars q ("-" : Str)).length ≤ 4000
  mem : m ∈ lens z
  top : ∀ y ∈ lens z, y ≤ m
  one : p.2 = 1 → tI p.1 = dueF z m
  two : tQ p = dueF z m
theorem split_count (z : Str) : (Txt.split z ("/" : Str)).length ≤ z.length + 1 := by
  have e : TL.tl ("/" : Str) = [47] := by decide +kernel
  have k := TL.split_spl z ("/" : Str) (by rw [e]; simp) (TL.kind_ok (by decide +kernel))
  rw [e] at k
  have key : ∀ (l acc : List Nat) (k : Nat), (TL.spl [47] k acc l).length ≤ l.length + 1 := by
    intro l
    induction l with
    | nil => intro acc k; unfold TL.spl; simp
    | cons c r ih =>
      intro acc k
      cases k with
      | zero =>
        unfold TL.spl
        split
        · have := ih [] ([47].length - 1)
          simp at this ⊢; omega
        · have := ih (acc ++ [c]) 0
          simp at this ⊢; omega
      | succ k =>
        unfold TL.spl
        have := ih acc k
        simp at this ⊢; omega
  have h := congrArg List.length k
  rw [List.length_map] at h
  rw [h, TL.len_tl z]
  exact key _ _ _
def stripF : PyData → PyData
  | .str q => .int ((Txt.stripChars q ("-" : Str)).length : Int)
  | d => d
theorem m_due (z : Str) (m : Int) : mOk 3 (dueF z m) := by
  unfold dueF
  split
  · exact ⟨by show 3 ≤ 1000; decide, fun y hy => by
      simp only [List.mem_cons, List.not_mem_nil, or_false] at hy
      rcases hy with rfl | rfl | rfl <;> trivial⟩
  · exact m_two trivial
def R_law_written_right (ds : List PyData) (r : Res PyData) : Prop := ∃ (z : Str) (p : Int × Int) (m : Int), ds = [.str z, rat p] ∧ WR z p m ∧ r = .ok (.bool true)
section
variable {P : Program} {w : World} {K : PySem.W.Frag} {mg : Str → Option Value} {base : Heap} {Z0 Z1 CB CM : Addr}

abbrev s__law_written_right : Stmt := topS 48
theorem sc__law_written_right : FnScope ["text", "number", "long", "due", "part"] ["text", "number"] (defScope s__law_written_right) := ⟨rfl, rfl, rfl, by decide +kernel, rfl, by decide +kernel, by decide +kernel⟩
theorem len__law_written_right : ∀ ds r, R_law_written_right ds r → ds.length = (["text", "number"] : List Str).length := by
  rintro _ _ ⟨_, _, _, rfl, _⟩; rfl
theorem ok__law_written_right (T : Tx K mg Z0 Z1) (D : DefAt K mg "_law_written_right" s__law_written_right []) (c__law_match : CalX P w K mg base CX0 6 "_law_match" [] (RM 4)) (c__law_read_right : CalX P w K mg base CX0 7 "_law_read_right" [] (RT 5000 fun _ => .bool true)) (c__law_told : CalX P w K mg base CX0 4 "_law_told" [] R_law_told) : CalX P w K mg base CX0 8 "_law_written_right" [] R_law_written_right := by
  refine okN D (bind0 (fun _ _ _ _ _ _ us hl => match us, hl with | [_, _], _ => rfl)) sc__law_written_right len__law_written_right fun f cdv A outer s H Ex hr => ⟨_, (pss_cons (ps_set (i := 2) sc__law_written_right.nd rfl (by first | exact Or.inl rfl | exact Or.inr rfl) (pe_cmpR op_gt (pe_callB (cr_max rfl) (by rfl) T.n_max (by decide +kernel) (pa_cons (pe_lc (own := [("part", 4)]) rfl sc__law_written_right.nd (pi_list (pe_bm PySem.F.plainAttrs_str PySem.F.slot_str_split PySem.F.type_str_split mt_split (pv 0) (pa_cons pe_str pa_nil))) (blkOk_by (by show blkC ["text", "number", "long", "due", "part"] (defScope s__law_written_right) _ [("part", 4)] = true; decide +kernel)) (fun _ _ _ _ _ => (pg_name (i := 4) sc__law_written_right.nd rfl (by first | exact Or.inl rfl | exact Or.inr rfl))) (fun _ _ _ _ _ => pts_nil) (fun _ _ _ _ _ => (pe_callB (call_lenK (K := K) rfl) (by rfl) T.n_len (by decide +kernel) (pa_cons (pe_bmK (K := K) rfl PySem.F.plainAttrs_str PySem.F.slot_str_strip PySem.F.type_str_strip mt_stripChars (pv 4) (pa_cons pe_str pa_nil)) pa_nil)))) pa_nil)) pe_int (nomark _)))
    (pss_cons (ps_set (i := 3) sc__law_written_right.nd rfl (by first | exact Or.inl rfl | exact Or.inr rfl) (pe_tup (pa_cons pe_str (pa_cons (pv 0) pa_nil))))
    (pss_cons (ps_if (pt_val (pv 2)) (pss_one (ps_set (i := 3) sc__law_written_right.nd rfl (by first | exact Or.inl rfl | exact Or.inr rfl) (pe_tup (pa_cons pe_str (pa_cons pe_str (pa_cons pe_int pa_nil)))))) pss_nil)
    (pss_cons (ps_if (PW.pt (pw_and (pt_cmpR (op_eqU (hu64 hr)) (pe_ix ix_seq (pv 1) pe_int (fun _ _ => rfl)) pe_int (nomark _)) (pw_and1 (pt_not (pt_val (pe_cal c__law_match hr (by decide) (fun σ => p0At σ) (pa_cons (pe_cal c__law_told hr (by decide) (fun σ => p0At σ) (pa_cons pe_int (pa_cons (pe_ix ix_seq (pv 1) pe_int (fun _ _ => rfl)) pa_nil))) (pa_cons (pv 3) pa_nil)))))))) (pss_one (ps_ret pe_bl)) pss_nil)
    (pss_one (ps_ret (pe_and (pe_cal c__law_match hr (by decide) (fun σ => p0At σ) (pa_cons (pe_cal c__law_told hr (by decide) (fun σ => p0At σ) (pa_cons pe_int (pa_cons (pv 1) pa_nil))) (pa_cons (pv 3) pa_nil))) (pe_one (pe_cal c__law_read_right hr (by decide) (fun σ => p0At σ) (pa_cons (pv 0) pa_nil)))))))))), ?_⟩

  rintro ds r ⟨z, p, m, rfl, hw, rfl⟩
  have hz := hw.sh
  have h47 : (("/" : Str).length == 0) = false := by decide +kernel
  have hs2 : z.length + 2 ≤ sizeLine := by rw [sizeLine_eq]; omega
  have few : ((Txt.split z ("/" : Str)).map PyData.str).length ≤ sizeLine := by
    have := split_count z
    rw [List.length_map, sizeLine_eq]; omega
  have mx : RC K (rMax K) [.list ((lens z).map .int)] (.int m) := rc_max (List.length_pos_of_mem hw.mem) hw.mem hw.top
  have lm : ((Txt.split z ("/" : Str)).map PyData.str).map stripF = (lens z).map .int := by
    unfold lens
    rw [List.map_map, List.map_map]; rfl
  refine en_seq (rn_asgE (d := .bool (decide (m > 600))) (ev_op (ev_cb (ea_cons (ev_is (ev_lcM (W' := fun _ _ _ _ => False) (js := [4]) stripF (src_list (W := fun _ _ _ _ => False) (ev_split (by walk_at "ev") (by walk_at "ev") h47 hs2)) (by intro j hj; exact hj) few (fun i d hd => ?_)) (by rw [lm])) ea_nil) mx) (by walk_at "ev") rd_I0b) rfl) ?_
  · rw [List.getElem?_map] at hd
    cases hx : (Txt.split z ("/" : Str))[i]? with
    | none => rw [hx] at hd; cases hd
    | some q =>
      rw [hx] at hd
      cases hd
      have hq := List.mem_of_getElem? hx
      have l1 : q.length ≤ sizeLine := sl_ok (Nat.le_trans (split_len z q hq) hz)
      have l2 : (Txt.stripChars q ("-" : Str)).length ≤ sizeLine := sl_ok (hw.fit q hq)
      exact ⟨_, as_name, ev_cb (ea_cons (ev_strip (by walk_at "ev") (by walk_at "ev") l1) ea_nil) (rc_len_s l2)⟩
  refine en_seq (rn_asgE (by walk_at "ev") rfl) ?_
  refine en_seq (δ1 := [.val (.str z), .val (rat p), .val (.bool (decide (m > 600))), .val (dueF z m), .no]) ?_ ?_
  · unfold dueF
    by_cases h : m > 600
    · rw [if_pos h]
      exact rn_ifT' (by walk_at "ev") (by exact decide_eq_true h) (rn_asgE (by walk_at "ev") rfl)
    · rw [if_neg h]
      exact rn_ifF' (by walk_at "ev") (by exact decide_eq_false h) rn_next
  have t2 : R_law_told [.int 2, .int p.1] (.ok (tI p.1)) := .inr (.inr (.inl ⟨_, rfl, rfl⟩))
  have t3 : R_law_told [.int 3, rat p] (.ok (tQ p)) := .inr (.inr (.inr ⟨_, rfl, rfl⟩))
  have m3 : RM 4 [tQ p, dueF z m] (.ok (.bool true)) := rm_eq (by rw [hw.two]; exact m_due z m) hw.two
  have rr : RT 5000 (fun _ => .bool true) [.str z] (.ok (.bool true)) := ⟨z, rfl, by omega, rfl⟩
  refine en_seq (u := _) (δ1 := [.val (.str z), .val (rat p), .val (.bool (decide (m > 600))), .val (dueF z m), .no]) ?_ (en_rt (rn_ret (ev_andV (ev_callWE (ea_cons (ev_callWE (by walk_at "ev") t3 rfl) (ea_cons (by walk_at "ev") ea_nil)) m3 rfl) fun _ => ev_callWE (by walk_at "ev") rr rfl)) (okB (by rfl)))
  by_cases h1 : p.2 = 1
  · have m2 : RM 4 [tI p.1, dueF z m] (.ok (.bool true)) := rm_eq (by rw [hw.one h1]; exact m_due z m) (hw.one h1)
    exact rn_ifF' (et_and (by walk_at "ev") fun _ => et_not (et_B (ev_callWE (ea_cons (ev_callWE (by walk_at "ev") t2 rfl) (ea_cons (by walk_at "ev") ea_nil)) m2 rfl))) (by simp) rn_next
  · exact rn_ifF (et_andF (by walk_at "ev") (by exact decide_eq_false h1)) rn_next
end
end K85
set_option Elab.async false
set_option linter.all false
set_option maxRecDepth 100000
set_option maxHeartbeats 4000000
set_option exponentiation.threshold 10000
/-! K85P: texts of numbers, plain. -/
namespace K85
open PySem PySem.Spec PyProof.Rows L2 DL PySem.Builtin PySem.Builtin.Str PySem.StrLaws
theorem tw_none {p : Nat → Bool} : ∀ l : List Nat, (∀ c, l.head? = some c → p c = false) → l.takeWhile p = []
  | [], _ => rfl
  | c :: r, h => by rw [List.takeWhile_cons, h c rfl]; rfl
/-- the length of a text without its leading sign -/
theorem strip_len {z : Str} {l : List Nat} (hl : NumText.AllDigits l) (hne : l ≠ []) (h : z.cps.toList = l ∨ z.cps.toList = 45 :: l) : (Txt.stripChars z ("-" : Str)).length = l.length := by
  have g : ∀ c : Nat, ("-" : Str).cps.contains c = decide (c = 45) := by
    intro c
    have e : ("-" : Str).cps = #[45] := by decide +kernel
    rw [e]
    simp [eq_comm]
  have dn : ∀ c ∈ l, ("-" : Str).cps.contains c = false := fun c hc => by
    rw [g]
    have := hl c hc
    exact decide_eq_false (by omega)
  have hd0 : l.takeWhile ("-" : Str).cps.contains = [] := tw_none l fun c hc => dn c (List.mem_of_head? hc)
  have rv0 : l.reverse.takeWhile ("-" : Str).cps.contains = [] := tw_none l.reverse fun c hc => dn c (List.mem_reverse.mp (List.mem_of_head? hc))
  rcases h with h | h
  · have lo : stripLo ("-" : Str).cps.contains true z = 0 := by
      unfold stripLo
      rw [if_pos rfl, h, hd0]; rfl
    have hi : stripHi ("-" : Str).cps.contains true z 0 = z.length := by
      unfold stripHi
      rw [if_pos rfl, h, List.drop_zero, rv0]; rfl
    have e : Txt.stripChars z ("-" : Str) = z := by
      unfold Txt.stripChars Txt.stripBy stripSame
      rw [lo, hi]
      exact if_pos (by simp)
    rw [e, z_len, h]
  · have hm : ("-" : Str).cps.contains 45 = true := by rw [g]; rfl
    have lo : stripLo ("-" : Str).cps.contains true z = 1 := by
      unfold stripLo
      rw [if_pos rfl, h, List.takeWhile_cons, hm]
      simp [hd0]
    have hi : stripHi ("-" : Str).cps.contains true z 1 = z.length := by
      unfold stripHi
      rw [if_pos rfl, h]
      show z.length - (l.reverse.takeWhile _).length = _
      rw [rv0]; rfl
    have e : Txt.stripChars z ("-" : Str) = strSub z 1 z.length := by
      unfold Txt.stripChars Txt.stripBy stripSame stripped
      rw [lo, hi]
      exact if_neg (by simp)
    rw [e, TL.len_tl, TL.tl_strSub]
    have : TL.tl z = 45 :: l := h
    rw [this, z_len, h]
    simp
theorem split_one {z : Str} (h : 47 ∉ z.cps.toList) : Txt.split z ("/" : Str) = [z] := by
  have e : TL.tl ("/" : Str) = 47 :: [] := by decide +kernel
  have k := TL.split_join (y := ("/" : Str)) (parts := [z]) e (by decide +kernel) (by simp) (fun p hp => by
    rw [List.mem_singleton.mp hp]; exact h)
  have j : Txt.join ("/" : Str) [z] = z := by rw [TL.join_eq]; rfl
  rw [j] at k
  exact k
theorem split_two {p q : Str} (hp : 47 ∉ p.cps.toList) (hq : 47 ∉ q.cps.toList) : Txt.split (p ++ ("/" : Str) ++ q) ("/" : Str) = [p, q] := by
  have e : TL.tl ("/" : Str) = 47 :: [] := by decide +kernel
  have k := TL.split_join (y := ("/" : Str)) (parts := [p, q]) e (by decide +kernel) (by simp) (fun x hx => by
    rcases List.mem_cons.mp hx with r | r
    · rw [r]; exact hp
    · rw [List.mem_singleton.mp r]; exact hq)
  have j : Txt.join ("/" : Str) [p, q] = p ++ ("/" : Str) ++ q := by rw [TL.join_eq]; rfl
  rw [j] at k
  exact k
theorem fold_low : ∀ (l : List Nat) (a : Nat), a * 10 ^ l.length ≤ l.foldl (fun acc c => acc * 10 + (c - 48)) a
  | [], a => by simp
  | c :: r, a => by
    rw [List.foldl_cons, List.length_cons, Nat.pow_succ]
    refine Nat.le_trans ?_ (fold_low r _)
    rw [Nat.mul_comm (10 ^ r.length) 10, ← Nat.mul_assoc]
    exact Nat.mul_le_mul_right _ (by omega)
theorem Cn.low {z : Str} {n : Nat} (h : Cn z n) : 10 ^ (n - 1) ≤ NumText.digitsVal z.cps.toList := by
  obtain ⟨c, l, hc, h49⟩ := h.hd
  have hn : n - 1 = l.length := by rw [← h.len, hc]; simp
  rw [hc, hn]
  have e : NumText.digitsVal (c :: l) = l.foldl (fun acc c => acc * 10 + (c - 48)) (0 * 10 + (c - 48)) := rfl
  rw [e]
  refine Nat.le_trans ?_ (fold_low l _)
  exact Nat.le_mul_of_pos_left _ (by omega)
theorem num_back {z : Str} {n : Nat} (h : Cn z n) : TL.numL (NumText.digitsVal z.cps.toList) = z.cps.toList := by
  obtain ⟨c, l, hc, h49⟩ := h.hd
  have k := NumText.toDigits_digitsVal l.length z.cps.toList (by rw [hc]; rfl) h.dig (.inr ⟨c, l, hc, h49⟩)
  show (Nat.toDigits 10 _).map Char.toNat = _
  rw [k, List.map_map]
  have key : ∀ m : List Nat, NumText.AllDigits m → m.map (Char.toNat ∘ Char.ofNat) = m := by
    intro m
    induction m with
    | nil => intro _; rfl
    | cons d r ih =>
      intro hm
      rw [List.map_cons, ih hm.tail]
      have hd := hm.head
      have : (Char.toNat ∘ Char.ofNat) d = d := by
        have all : ∀ d : Nat, d < 58 → (Char.ofNat d).toNat = d := by decide
        exact all d (by omega)
      rw [this]
  exact key _ h.dig
theorem text_back {z : Str} {n : Nat} (h : Cn z n) (hn : n ≤ 4300) : (toString (ival z) : Str) = z := by
  apply TL.ext_tl
  rw [(h.val hn).2, TL.tl_num, num_back h]
  first | done | rfl
theorem long_pos {z : Str} {n : Nat} (h : Cn z n) (hn : n ≤ 4300) : long (ival z) = decide (600 < n) := by
  have e : wall = ((10 ^ 600 : Nat) : Int) := (Int.natCast_pow 10 600).symm
  have lo := h.low
  have hi := digits_lt _ h.dig
  rw [h.len] at hi
  rw [(h.val hn).2]
  unfold long
  rw [e]
  by_cases g : 600 < n
  · have : 10 ^ 600 ≤ 10 ^ (n - 1) := Nat.pow_le_pow_right (by decide) (by omega)
    rw [decide_eq_true g]
    have c : ((10 ^ 600 : Nat) : Int) ≤ ((NumText.digitsVal z.cps.toList : Nat) : Int) := Int.ofNat_le.mpr (Nat.le_trans this lo)
    rw [decide_eq_true c]; rfl
  · have : 10 ^ n ≤ 10 ^ 600 := Nat.pow_le_pow_right (by decide) (by omega)
    rw [decide_eq_false g]
    have c : NumText.digitsVal z.cps.toList < 10 ^ 600 := Nat.lt_of_lt_of_le hi this
    have p : 0 < 10 ^ 600 := Nat.pow_pos (by decide)
    generalize 10 ^ 600 = w at *
    rw [Bool.or_eq_false_iff, decide_eq_false_iff_not, decide_eq_false_iff_not]
    omega
theorem long_neg (i : Int) : long (-i) = long i := by
  unfold long
  rw [Bool.or_comm]
  have a : decide (-i ≤ -wall) = decide (wall ≤ i) := decide_eq_decide.mpr (by omega)
  have b : decide (wall ≤ -i) = decide (i ≤ -wall) := decide_eq_decide.mpr (by omega)
  rw [a, b]
/-- .. with a sign ahead -/
theorem neg_val {z : Str} {n : Nat} (h : Cn z n) (hn : n ≤ 4299) : intText? (("-" : Str) ++ z) = some (-ival z) ∧ ival (("-" : Str) ++ z) = -ival z ∧ (("-" : Str) ++ z).cps.toList = 45 :: z.cps.toList := by
  have e : (("-" : Str) ++ z).cps.toList = 45 :: z.cps.toList := by
    show TL.tl _ = _
    rw [TL.tl_append]
    have : TL.tl ("-" : Str) = [45] := by decide +kernel
    rw [this]; rfl
  obtain ⟨c, l, hc, _⟩ := h.hd
  have k := intText_neg e h.dig (by rw [hc]; simp) (by rw [z_len, e, List.length_cons, h.len]; omega)
  rw [← (h.val (by omega)).2] at k
  exact ⟨k, by unfold ival at k ⊢; rw [k]; rfl, e⟩
theorem neg_back {z : Str} {n : Nat} (h : Cn z n) (hn : n ≤ 4299) : (toString (-ival z) : Str) = ("-" : Str) ++ z := by
  have p := h.pos (by omega)
  obtain ⟨m, hm⟩ : ∃ m : Nat, ival z = ((m + 1 : Nat) : Int) := ⟨(ival z).toNat - 1, by omega⟩
  have e : -ival z = Int.negSucc m := by rw [hm]; rfl
  have t := text_back h (by omega)
  rw [e, neg_text, ← hm, t]
theorem seen_ok {x : Str} (h : ∀ c ∈ x.cps.toList, c = 45 ∨ (48 ≤ c ∧ c ≤ 57)) : x.length ≤ 640 ∨ 640 < (numSeenOf x).length := by
  by_cases g : x.length ≤ 640
  · exact .inl g
  · right
    rw [(numText_signs h).2, ← z_len]
    omega
/-- int(text) of sign and figures -/
theorem rc_signed {K : PySem.W.Frag} {z : Str} {n : Nat} (h : Cn z n) (hn : n ≤ 4299) : RC K rIntU [.str z] (.int (ival z)) ∧ RC K rIntU [.str (("-" : Str) ++ z)] (.int (-ival z)) := by
  obtain ⟨k1, k2, k3⟩ := neg_val h hn
  refine ⟨rc_intT (h.val (by omega)).1 (by rw [z_len, h.len]; omega) (seen_ok fun c hc => .inr (h.dig c hc)), rc_intT k1 (by rw [z_len, k3, List.length_cons, h.len]; omega) (seen_ok fun c hc => ?_)⟩
  rw [k3] at hc
  rcases List.mem_cons.mp hc with r | r
  · exact .inl r
  · exact .inr (h.dig c r)
end K85
set_option Elab.async false
set_option linter.all false
set_option maxRecDepth 100000
set_option maxHeartbeats 4000000
set_option exponentiation.threshold 10000
/-! K85Q: the pairs of text and number. -/
namespace K85
open PySem PySem.Spec PyProof.Rows L2 DL
/-- sign and figures: the text z, its value i, n figures -/
structure Sg (z : Str) (i : Int) (n : Nat) : Prop where
  len : z.length ≤ n + 1
  no47 : 47 ∉ z.cps.toList
  str : (Txt.stripChars z ("-" : Str)).length = n
  back : (toString i : Str) = z
  long : K85.long i = decide (600 < n)
theorem dig_no {l : List Nat} (h : NumText.AllDigits l) : 47 ∉ l := fun hm => by
  have := h 47 hm
  omega
theorem sg_pos {f : Str} {n : Nat} (h : Cn f n) (hn : n ≤ 4299) : Sg f (ival f) n := by
  obtain ⟨c, l, hc, _⟩ := h.hd
  exact ⟨by rw [z_len, h.len]; omega, dig_no h.dig, by rw [strip_len h.dig (by rw [hc]; simp) (.inl rfl), h.len], text_back h (by omega), long_pos h (by omega)⟩
theorem sg_neg {f : Str} {n : Nat} (h : Cn f n) (hn : n ≤ 4299) : Sg (("-" : Str) ++ f) (-ival f) n := by
  obtain ⟨c, l, hc, _⟩ := h.hd
  obtain ⟨k1, k2, k3⟩ := neg_val h hn
  refine ⟨by rw [z_len, k3, List.length_cons, h.len]; omega, fun hm => ?_, by rw [strip_len h.dig (by rw [hc]; simp) (.inr k3), h.len], neg_back h hn, by rw [long_neg, long_pos h (by omega)]⟩
  rw [k3] at hm
  rcases List.mem_cons.mp hm with r | r
  · exact absurd r (by decide)
  · exact dig_no h.dig r
theorem due_of {z : Str} {n : Nat} {b : Bool} (h : b = decide (600 < n)) : (if b then dMany else dTold (.str z)) = dueF z (n : Int) := by
  unfold dueF
  subst h
  by_cases g : 600 < n
  · rw [decide_eq_true g, if_pos rfl, if_pos (show (n : Int) > 600 by omega)]
  · rw [decide_eq_false g, if_neg (by decide), if_neg (show ¬ (n : Int) > 600 by omega)]
/-- z, i / 1 -/
theorem wr_whole {z : Str} {i : Int} {n : Nat} (h : Sg z i n) (hn : n ≤ 3000) : WR z (i, 1) (n : Int) := by
  have sp := split_one h.no47
  have ti : tI i = dueF z (n : Int) := by
    unfold tI
    rw [h.back]
    exact due_of h.long
  refine ⟨by have := h.len; omega, fun q hq => ?_, ?_, fun y hy => ?_, fun _ => ti, ?_⟩
  · rw [sp, List.mem_singleton] at hq
    rw [hq, h.str]; omega
  · unfold lens
    rw [sp]
    show (n : Int) ∈ [((Txt.stripChars z ("-" : Str)).length : Int)]
    rw [h.str]; simp
  · unfold lens at hy
    rw [sp] at hy
    have : y = ((Txt.stripChars z ("-" : Str)).length : Int) := by simpa using hy
    rw [this, h.str]
    exact Int.le_refl _
  · show tQ (i, 1) = _
    unfold tQ
    rw [if_pos rfl]
    exact ti
/-- z/y, i / j -/
theorem wr_two {z y : Str} {i j : Int} {n k : Nat} (h : Sg z i n) (g : Sg y j k) (hn : n ≤ 1500) (hk : k ≤ 1500) (hj : j ≠ 1) : WR (z ++ ("/" : Str) ++ y) (i, j) (max (n : Int) (k : Int)) := by
  have sp := split_two h.no47 g.no47
  have l1 : ("/" : Str).length = 1 := by decide +kernel
  refine ⟨by rw [app_len, app_len, l1]; have := h.len; have := g.len; omega, fun q hq => ?_, ?_, fun t ht => ?_, fun e => absurd e hj, ?_⟩
  · rw [sp] at hq
    rcases List.mem_cons.mp hq with r | r
    · rw [r, h.str]; omega
    · rw [List.mem_singleton.mp r, g.str]; omega
  · unfold lens
    rw [sp]
    show _ ∈ [((Txt.stripChars z ("-" : Str)).length : Int), ((Txt.stripChars y ("-" : Str)).length : Int)]
    rw [h.str, g.str]
    rcases Int.le_total (n : Int) (k : Int) with q | q
    · rw [Int.max_eq_right q]; simp
    · rw [Int.max_eq_left q]; simp
  · unfold lens at ht
    rw [sp] at ht
    have : t = ((Txt.stripChars z ("-" : Str)).length : Int) ∨ t = ((Txt.stripChars y ("-" : Str)).length : Int) := by simpa using ht
    rw [h.str, g.str] at this
    omega
  · show tQ (i, j) = _
    unfold tQ
    rw [if_neg hj]
    have e : (max (n : Int) (k : Int)) = ((max n k : Nat) : Int) := by omega
    rw [e]
    show (if (K85.long i || K85.long j) = true then dMany else dTold (.str ((toString i : Str) ++ ("/" : Str) ++ (toString j : Str)))) = _
    rw [h.back, g.back]
    refine due_of ?_
    rw [h.long, g.long]
    by_cases a : 600 < n
    · rw [decide_eq_true a, decide_eq_true (show 600 < max n k by omega)]; rfl
    · rw [decide_eq_false a, Bool.false_or]
      exact decide_eq_decide.mpr (by omega)
end K85
set_option Elab.async false
set_option linter.all false
set_option maxRecDepth 100000
set_option maxHeartbeats 4000000
set_option exponentiation.threshold 10000
/-! K85R: the law. -/
namespace K85
open PySem PySem.Spec PyProof.Rows L2 DL
theorem draws_ok (c : Int) (n : Nat) : (drawsF c n).length = n ∧ Dr (drawsF c n) := drF_ok _ n
def sizF (u v : Int) : List Int := [599, 600, 601, 600, 601, 602, 700, 1 + u.fmod 700, 1, 2, 3, 1 + v.fmod 64]
theorem siz_ok (u v : Int) : ∀ x ∈ sizF u v, 1 ≤ x ∧ x ≤ 700 := by
  have h1 := Int.fmod_nonneg_of_pos u (show (0 : Int) < 700 by decide)
  have h2 := Int.fmod_lt_of_pos u (show (0 : Int) < 700 by decide)
  have h3 := Int.fmod_nonneg_of_pos v (show (0 : Int) < 64 by decide)
  have h4 := Int.fmod_lt_of_pos v (show (0 : Int) < 64 by decide)
  intro x hx
  unfold sizF at hx
  simp only [List.mem_cons, List.not_mem_nil, or_false] at hx
  omega
def sizA (u v i : Int) : Int := (sizF u v).getD (i.fmod 12).toNat 0
theorem sizA_ok (u v i : Int) : 1 ≤ sizA u v i ∧ sizA u v i ≤ 700 := by
  have h1 := Int.fmod_nonneg_of_pos i (show (0 : Int) < 12 by decide)
  have h2 := Int.fmod_lt_of_pos i (show (0 : Int) < 12 by decide)
  have hk : (i.fmod 12).toNat < (sizF u v).length := by show _ < 12; omega
  unfold sizA
  rw [getD_at hk]
  exact siz_ok u v _ (List.getElem_mem hk)
def oddC (i : Int) : Nat := ("13579" : Str).cps.toList.getD (i.fmod 5).toNat 0
def oddF (f : Str) (i : Int) : Str := cutS f none (some (-1)) ++ ⟨#[oddC i]⟩
theorem cut_last (z : Str) : (cutS z none (some (-1))).cps.toList = z.cps.toList.take (z.cps.toList.length - 1) := by
  unfold cutS
  rw [HT.sIx_none, z_len]
  have e : HT.sIx z.cps.toList.length z.cps.toList.length (some (-1)) = z.cps.toList.length - 1 := by
    unfold HT.sIx
    show (if (-1 : Int) < 0 then _ else _) = _
    rw [if_pos (by decide)]
    omega
  rw [e]
  simp
theorem odd_ok {f : Str} {n : Nat} (h : Cn f n) (i : Int) : Cn (oddF f i) n := by
  have h1 := Int.fmod_nonneg_of_pos i (show (0 : Int) < 5 by decide)
  have h2 := Int.fmod_lt_of_pos i (show (0 : Int) < 5 by decide)
  have e5 : ("13579" : Str).cps.toList = [49, 51, 53, 55, 57] := by decide +kernel
  have oc : 49 ≤ oddC i ∧ oddC i ≤ 57 := by
    unfold oddC
    rw [e5]
    have key : ∀ k : Nat, k < 5 → 49 ≤ ([49, 51, 53, 55, 57] : List Nat).getD k 0 ∧ ([49, 51, 53, 55, 57] : List Nat).getD k 0 ≤ 57 := by decide
    exact key _ (by omega)
  have el : (oddF f i).cps.toList = f.cps.toList.take (f.cps.toList.length - 1) ++ [oddC i] := by
    show TL.tl _ = _
    unfold oddF
    rw [TL.tl_append]
    show (cutS f none (some (-1))).cps.toList ++ _ = _
    rw [cut_last]
    first | done | rfl
  obtain ⟨c, l, hc, h49⟩ := h.hd
  refine ⟨?_, ?_, ?_⟩
  · rw [el]
    intro d hd
    rcases List.mem_append.mp hd with q | q
    · exact h.dig d (List.mem_of_mem_take q)
    · rw [List.mem_singleton.mp q]; omega
  · rw [el, List.length_append, List.length_take, ← h.len, hc]
    simp
  · rw [el, hc]
    cases l with
    | nil => exact ⟨oddC i, [], rfl, oc.1⟩
    | cons d m => exact ⟨c, (d :: m).take m.length ++ [oddC i], by simp [List.take], h49⟩
section
variable {P : Program} {w : World} {K : PySem.W.Frag} {mg : Str → Option Value} {base : Heap} {Z0 Z1 CB CM : Addr}


end
end K85
set_option Elab.async false
set_option linter.all false
set_option maxRecDepth 100000
set_option maxHeartbeats 4000000
set_option exponentiation.threshold 10000
/-! K85S: the law. -/
namespace K85
open PySem PySem.Spec PyProof.Rows L2 DL
theorem cut_mid {l : List PyData} {i j : Nat} (h1 : i ≤ l.length) (h2 : j ≤ l.length) : DL.cutD l (some (i : Int)) (some (j : Int)) = (l.drop i).take (j - i) := by
  unfold DL.cutD
  rw [HT.sIx_nat, HT.sIx_nat, Nat.min_eq_left h1, Nat.min_eq_left h2]
theorem app_emp (f : Str) : (("" : Str) ++ f) = f := by
  apply TL.ext_tl
  rw [TL.tl_append]
  have : TL.tl ("" : Str) = [] := by decide +kernel
  rw [this]; rfl
theorem app_as (a b c : Str) : a ++ b ++ c = a ++ (b ++ c) := by
  apply TL.ext_tl
  rw [TL.tl_append, TL.tl_append, TL.tl_append, TL.tl_append, List.append_assoc]
theorem cn_one : Cn ("1" : Str) 1 := by
  have e : ("1" : Str).cps.toList = [49] := by decide +kernel
  exact ⟨by rw [e]; intro c hc; rw [List.mem_singleton.mp hc]; omega, by rw [e]; rfl, 49, [], e, by decide⟩
theorem cn_two : Cn ("2" : Str) 1 := by
  have e : ("2" : Str).cps.toList = [50] := by decide +kernel
  exact ⟨by rw [e]; intro c hc; rw [List.mem_singleton.mp hc]; omega, by rw [e]; rfl, 50, [], e, by decide⟩
theorem sign_ok (K : PySem.W.Frag) (x : Int) : ∃ sg : Str, atI [PyData.str "", PyData.str "-"] (x.fmod 2) = some (.str sg) ∧ sg.length ≤ 1 ∧ ∀ (f : Str) (n : Nat), Cn f n → n ≤ 4299 → ∃ i : Int, RC K rIntU [.str (sg ++ f)] (.int i) ∧ Sg (sg ++ f) i n := by
  have h1 := Int.fmod_nonneg_of_pos x (show (0 : Int) < 2 by decide)
  have h2 := Int.fmod_lt_of_pos x (show (0 : Int) < 2 by decide)
  have h : x.fmod 2 = 0 ∨ x.fmod 2 = 1 := by omega
  rcases h with h | h
  · refine ⟨"", by rw [h]; rfl, by decide +kernel, fun f n hf hn => ⟨ival f, ?_, ?_⟩⟩
    · rw [app_emp]; exact (rc_signed hf hn).1
    · rw [app_emp]; exact sg_pos hf hn
  · exact ⟨"-", by rw [h]; rfl, by decide +kernel, fun f n hf hn => ⟨-ival f, (rc_signed hf hn).2, sg_neg hf hn⟩⟩
theorem sz_at (u v x : Int) : atI ((sizF u v).map PyData.int) (x.fmod 12) = some (.int (sizA u v x)) := by
  have h1 := Int.fmod_nonneg_of_pos x (show (0 : Int) < 12 by decide)
  have h2 := Int.fmod_lt_of_pos x (show (0 : Int) < 12 by decide)
  have hk : (x.fmod 12).toNat < (sizF u v).length := by show _ < 12; omega
  have := at_int hk
  rw [show ((x.fmod 12).toNat : Int) = x.fmod 12 by omega] at this
  exact this
theorem odd_at (x : Int) : atI ("13579" : Str).cps.toList (x.fmod 5) = some (oddC x) := by
  have h1 := Int.fmod_nonneg_of_pos x (show (0 : Int) < 5 by decide)
  have h2 := Int.fmod_lt_of_pos x (show (0 : Int) < 5 by decide)
  have e5 : ("13579" : Str).cps.toList = [49, 51, 53, 55, 57] := by decide +kernel
  have e : x.fmod 5 = (((x.fmod 5).toNat : Nat) : Int) := by omega
  unfold oddC
  rw [e5, e, at_nat]
  have key : ∀ k : Nat, k < 5 → ([49, 51, 53, 55, 57] : List Nat)[k]? = some (([49, 51, 53, 55, 57] : List Nat).getD k 0) := by decide
  rw [show ((((x.fmod 5).toNat : Nat) : Int).toNat) = (x.fmod 5).toNat by omega]
  exact key _ (by omega)
theorem int_two : ival ("2" : Str) = 2 := by decide +kernel
theorem int_one : ival ("1" : Str) = 1 := by decide +kernel
def pairD (x : Str × (Int × Int)) : PyData := .list [.str x.1, rat x.2]
theorem ival_one {f : Str} {n : Nat} (h : Cn f n) (hn : n ≤ 4299) (hi : ival f = 1) : f = ("1" : Str) := by
  have t := text_back h (by omega)
  rw [hi] at t
  rw [← t]; decide +kernel
def fixA : List Str := (["", "+1", "01", "-0", "2/4", "3/1", "1/-2", " 1", "1 ", "1/2/3", "/2", "1/", "-", "--1", "1.5", "1_0", "0x1"] : List Str)
def fixB : List Str := (["1e3", "0/1", "0/5", "-1/1", "00", "1/02", "1/0", "1
", "-1/2", "-/2", "1 /2", "1/ 2", "10/15", "-7"] : List Str)
theorem fix_len : ∀ z ∈ fixA ++ fixB, z.length ≤ 5 := by decide +kernel
def R_law (ds : List PyData) (r : Res PyData) : Prop := ∃ ns : List Int, ds = [.list (ns.map .int)] ∧ r = .ok (.bool true)
section
variable {P : Program} {w : World} {K : PySem.W.Frag} {mg : Str → Option Value} {base : Heap} {Z0 Z1 CB CM : Addr}

abbrev s_law : Stmt := topS 50
theorem sc_law : FnScope ["script", "draws", "a", "b", "many", "top", "bottom", "sizes", "figures", "sign", "odd", "other", "pairs", "text", "number", "fixed", "near"] ["script"] (defScope s_law) := ⟨rfl, rfl, rfl, by decide +kernel, rfl, by decide +kernel, by decide +kernel⟩
theorem len_law : ∀ ds r, R_law ds r → ds.length = (["script"] : List Str).length := by
  rintro _ _ ⟨_, rfl, _⟩; rfl
theorem ok_law (T : Tx K mg Z0 Z1) (D : DefAt K mg "law" s_law []) (c__law_draws : CalX P w K mg base CX0 1 "_law_draws" [] R_law_draws) (c__law_drawn : CalX P w K mg base CX0 3 "_law_drawn" [] R_law_drawn) (c__law_digits : CalX P w K mg base CX0 1 "_law_digits" [] R_law_digits) (c__law_cell : CalX P w K mg base CX0 1 "_law_cell" [] R_law_cell) (c__law_near : CalX P w K mg base CX0 1 "_law_near" [] R_law_near) (c__law_match : CalX P w K mg base CX0 6 "_law_match" [] (RM 4)) (c__law_sum_right : CalX P w K mg base CX0 7 "_law_sum_right" [] R_law_sum_right) (c__law_ratio_right : CalX P w K mg base CX0 7 "_law_ratio_right" [] R_law_ratio_right) (c__law_dot_right : CalX P w K mg base CX0 7 "_law_dot_right" [] R_law_dot_right) (c__law_kinds_right : CalX P w K mg base CX0 7 "_law_kinds_right" [] R_law_kinds_right) (c__law_written_right : CalX P w K mg base CX0 8 "_law_written_right" [] R_law_written_right) (c__law_read_right : CalX P w K mg base CX0 7 "_law_read_right" [] (RT 5000 fun _ => .bool true)) (c_ratio1 : CalX P w K mg base (L2N.CX P w) 2 "ratio" [.int 1] (R_ratio CB)) : LawX P w K mg base 9 s_law R_law := by
  refine okL D sc_law len_law fun f cdv A outer s H Ex hr => ⟨_, (pss_cons (ps_set (i := 1) sc_law.nd rfl (by first | exact Or.inl rfl | exact Or.inr rfl) (pe_cal c__law_draws hr (by decide) (fun σ => p0At σ) (pa_cons (pe_cal c__law_cell hr (by decide) (fun σ => p0At σ) (pa_cons (pv 0) (pa_cons pe_int pa_nil))) (pa_cons pe_int pa_nil))))
    (pss_cons (ps_set (i := 2) sc_law.nd rfl (by first | exact Or.inl rfl | exact Or.inr rfl) (pe_cal c__law_drawn hr (by decide) (fun σ => p0At σ) (pa_cons (pe_cal c__law_draws hr (by decide) (fun σ => p0At σ) (pa_cons (pe_cal c__law_cell hr (by decide) (fun σ => p0At σ) (pa_cons (pv 0) (pa_cons pe_int pa_nil))) (pa_cons pe_int pa_nil))) pa_nil)))
    (pss_cons (ps_set (i := 3) sc_law.nd rfl (by first | exact Or.inl rfl | exact Or.inr rfl) (pe_cal c__law_drawn hr (by decide) (fun σ => p0At σ) (pa_cons (pe_cal c__law_draws hr (by decide) (fun σ => p0At σ) (pa_cons (pe_cal c__law_cell hr (by decide) (fun σ => p0At σ) (pa_cons (pv 0) (pa_cons pe_int pa_nil))) (pa_cons pe_int pa_nil))) pa_nil)))
    (pss_cons (ps_if (PW.pt (pw_or (pt_not (pt_val (pe_cal c__law_match hr (by decide) (fun σ => p0At σ) (pa_cons (pe_cT T.c_ZERO) (pa_cons (pe_tup (pa_cons pe_int (pa_cons pe_int pa_nil))) pa_nil))))) (pw_or1 (pt_not (pt_val (pe_cal c__law_match hr (by decide) (fun σ => p0At σ) (pa_cons (pe_cT T.c_ONE) (pa_cons (pe_tup (pa_cons pe_int (pa_cons pe_int pa_nil))) pa_nil)))))))) (pss_one (ps_ret pe_bl)) pss_nil)
    (pss_cons (ps_if (PW.pt (pw_or (pt_not (pt_val (pe_cal c__law_sum_right hr (by decide) (fun σ => p0At σ) (pa_cons (pv 2) (pa_cons (pv 3) pa_nil))))) (pw_or (pt_not (pt_val (pe_cal c__law_sum_right hr (by decide) (fun σ => p0At σ) (pa_cons (pv 3) (pa_cons (pv 2) pa_nil))))) (pw_or1 (pt_not (pt_val (pe_cal c__law_sum_right hr (by decide) (fun σ => p0At σ) (pa_cons (pv 2) (pa_cons (pe_tup (pa_cons pe_int (pa_cons pe_int pa_nil))) pa_nil))))))))) (pss_one (ps_ret pe_bl)) pss_nil)
    (pss_cons (ps_set (i := 4) sc_law.nd rfl (by first | exact Or.inl rfl | exact Or.inr rfl) (pe_op op_addU pe_int (pe_op op_modN (pe_ix ix_seq (pv 1) pe_int (fun _ _ => rfl)) pe_int)))
    (pss_cons (ps_for PassesOwn.never rfl (pi_list (pe_lst (pa_cons (pe_tup (pa_cons (pe_op op_mulU (pv 4) (pe_ix ix_seq (pv 2) pe_int (fun _ _ => rfl))) (pa_cons (pe_op op_mulU (pv 4) (pe_ix ix_seq (pv 2) pe_int (fun _ _ => rfl))) pa_nil))) (pa_cons (pe_tup (pa_cons (pe_op op_mulU (pv 4) (pe_ix ix_seq (pv 2) pe_int (fun _ _ => rfl))) (pa_cons (pe_op op_mulU (pe_un un_neg (pv 4)) (pe_ix ix_seq (pv 2) pe_int (fun _ _ => rfl))) pa_nil))) (pa_cons (pe_tup (pa_cons (pe_ix ix_seq (pv 3) pe_int (fun _ _ => rfl)) (pa_cons (pe_ix ix_seq (pv 2) pe_int (fun _ _ => rfl)) pa_nil))) (pa_cons (pe_tup (pa_cons (pe_ix ix_seq (pv 2) pe_int (fun _ _ => rfl)) (pa_cons pe_int pa_nil))) (pa_cons (pe_tup (pa_cons pe_int (pa_cons (pe_un un_neg (pv 4)) pa_nil))) pa_nil))))))) (pg_tup (by rfl) (pgs_cons (pg_name (i := 5) sc_law.nd rfl (by first | exact Or.inl rfl | exact Or.inr rfl)) (pgs_cons (pg_name (i := 6) sc_law.nd rfl (by first | exact Or.inl rfl | exact Or.inr rfl)) pgs_nil))) (pss_one (ps_if (pt_not (pt_val (pe_cal c__law_ratio_right hr (by decide) (fun σ => p0At σ) (pa_cons (pv 5) (pa_cons (pv 6) pa_nil))))) (pss_one (ps_ret pe_bl)) pss_nil)))
    (pss_cons (ps_if (PW.pt (pw_or (pt_not (pt_val (pe_cal c__law_match hr (by decide) (fun σ => p0At σ) (pa_cons (pe_cal c_ratio1 hr (by decide) (fun σ => pLN σ) (pa_cons (pe_ix ix_seq (pv 3) pe_int (fun _ _ => rfl)) pa_nil)) (pa_cons (pe_tup (pa_cons (pe_ix ix_seq (pv 3) pe_int (fun _ _ => rfl)) (pa_cons pe_int pa_nil))) pa_nil))))) (pw_or (pt_not (pt_val (pe_cal c__law_dot_right hr (by decide) (fun σ => p0At σ) (pa_cons (pe_slice sl_U (pv 1) (po_some pe_int) (po_some pe_int)) pa_nil)))) (pw_or1 (pt_not (pt_val (pe_cal c__law_kinds_right hr (by decide) (fun σ => p0At σ) (pa_cons (pv 2) (pa_cons (pe_slice sl_U (pv 1) (po_some pe_int) po_none) pa_nil))))))))) (pss_one (ps_ret pe_bl)) pss_nil)
    (pss_cons (ps_set (i := 7) sc_law.nd rfl (by first | exact Or.inl rfl | exact Or.inr rfl) (pe_lst (pa_cons pe_int (pa_cons pe_int (pa_cons pe_int (pa_cons pe_int (pa_cons pe_int (pa_cons pe_int (pa_cons pe_int (pa_cons (pe_op op_addU pe_int (pe_op op_modN (pe_ix ix_seq (pv 1) pe_int (fun _ _ => rfl)) pe_int)) (pa_cons pe_int (pa_cons pe_int (pa_cons pe_int (pa_cons (pe_op op_addU pe_int (pe_op op_modN (pe_ix ix_seq (pv 1) pe_int (fun _ _ => rfl)) pe_int)) pa_nil))))))))))))))
    (pss_cons (ps_set (i := 8) sc_law.nd rfl (by first | exact Or.inl rfl | exact Or.inr rfl) (pe_cal c__law_digits hr (by decide) (fun σ => p0At σ) (pa_cons (pe_cal c__law_draws hr (by decide) (fun σ => p0At σ) (pa_cons (pe_cal c__law_cell hr (by decide) (fun σ => p0At σ) (pa_cons (pv 0) (pa_cons pe_int pa_nil))) (pa_cons pe_int pa_nil))) (pa_cons (pe_ix ix_seq (pv 7) (pe_op op_modN (pe_ix ix_seq (pv 1) pe_int (fun _ _ => rfl)) pe_int) (fun _ _ => rfl)) pa_nil))))
    (pss_cons (ps_set (i := 9) sc_law.nd rfl (by first | exact Or.inl rfl | exact Or.inr rfl) (pe_ix ix_seq (pe_lst (pa_cons pe_str (pa_cons pe_str pa_nil))) (pe_op op_modN (pe_ix ix_seq (pv 1) pe_int (fun _ _ => rfl)) pe_int) (fun _ _ => rfl)))
    (pss_cons (ps_set (i := 10) sc_law.nd rfl (by first | exact Or.inl rfl | exact Or.inr rfl) (pe_op op_addU (pe_slice sl_U (pv 8) po_none (po_some (pe_un un_neg pe_int))) (pe_ix ix_seq pe_str (pe_op op_modN (pe_ix ix_seq (pv 1) pe_int (fun _ _ => rfl)) pe_int) (fun _ _ => rfl))))
    (pss_cons (ps_set (i := 11) sc_law.nd rfl (by first | exact Or.inl rfl | exact Or.inr rfl) (pe_cal c__law_digits hr (by decide) (fun σ => p0At σ) (pa_cons (pe_cal c__law_draws hr (by decide) (fun σ => p0At σ) (pa_cons (pe_cal c__law_cell hr (by decide) (fun σ => p0At σ) (pa_cons (pv 0) (pa_cons pe_int pa_nil))) (pa_cons pe_int pa_nil))) (pa_cons (pe_ix ix_seq (pv 7) (pe_op op_modN (pe_ix ix_seq (pv 1) pe_int (fun _ _ => rfl)) pe_int) (fun _ _ => rfl)) pa_nil))))
    (pss_cons (ps_set (i := 12) sc_law.nd rfl (by first | exact Or.inl rfl | exact Or.inr rfl) (pe_lst (pa_cons (pe_lst (pa_cons (pe_op op_addU (pv 9) (pv 8)) (pa_cons (pe_tup (pa_cons (pe_callTy (call_intU T.nd) (by rfl) T.n_int (by decide +kernel) (pa_cons (pe_op op_addU (pv 9) (pv 8)) pa_nil)) (pa_cons pe_int pa_nil))) pa_nil))) (pa_cons (pe_lst (pa_cons pe_str (pa_cons (pe_tup (pa_cons pe_int (pa_cons pe_int pa_nil))) pa_nil))) (pa_cons (pe_lst (pa_cons (pe_op op_addU (pe_op op_addU (pv 9) (pv 10)) pe_str) (pa_cons (pe_tup (pa_cons (pe_callTy (call_intU T.nd) (by rfl) T.n_int (by decide +kernel) (pa_cons (pe_op op_addU (pv 9) (pv 10)) pa_nil)) (pa_cons pe_int pa_nil))) pa_nil))) pa_nil)))))
    (pss_cons (ps_if (pt_cmpR (op_neU (hu64 hr)) (pv 11) pe_str (nomark _)) (pss_one (ps_expr (pe_bm PySem.F.plainAttrs_list PySem.F.slot_list_append PySem.F.type_list_append mt_append (pv 12) (pa_cons (pe_lst (pa_cons (pe_op op_addU (pe_op op_addU (pv 9) pe_str) (pv 11)) (pa_cons (pe_tup (pa_cons (pe_callTy (call_intU T.nd) (by rfl) T.n_int (by decide +kernel) (pa_cons (pe_op op_addU (pv 9) pe_str) pa_nil)) (pa_cons (pe_callTy (call_intU T.nd) (by rfl) T.n_int (by decide +kernel) (pa_cons (pv 11) pa_nil)) pa_nil))) pa_nil))) pa_nil)))) pss_nil)
    (pss_cons (ps_for PassesOwn.never rfl (pi_list (pv 12)) (pg_lst (by rfl) (pgs_cons (pg_name (i := 13) sc_law.nd rfl (by first | exact Or.inl rfl | exact Or.inr rfl)) (pgs_cons (pg_name (i := 14) sc_law.nd rfl (by first | exact Or.inl rfl | exact Or.inr rfl)) pgs_nil))) (pss_cons (ps_if (pt_not (pt_val (pe_cal c__law_written_right hr (by decide) (fun σ => p0At σ) (pa_cons (pv 13) (pa_cons (pv 14) pa_nil))))) (pss_one (ps_ret pe_bl)) pss_nil)
    (pss_cons (ps_set (i := 16) sc_law.nd rfl (by first | exact Or.inl rfl | exact Or.inr rfl) (pe_cal c__law_near hr (by decide) (fun σ => p0At σ) (pa_cons (pv 13) (pa_cons (pe_slice sl_U (pv 1) (po_some pe_int) po_none) pa_nil))))
    (pss_one (ps_if (PW.pt (pw_or (pt_not (pt_val (pe_cal c__law_read_right hr (by decide) (fun σ => p0At σ) (pa_cons (pv 16) pa_nil)))) (pw_or1 (pt_not (pt_val (pe_cal c__law_read_right hr (by decide) (fun σ => p0At σ) (pa_cons (pe_cal c__law_near hr (by decide) (fun σ => p0At σ) (pa_cons (pv 16) (pa_cons (pe_slice sl_U (pv 1) (po_some pe_int) po_none) pa_nil))) pa_nil))))))) (pss_one (ps_ret pe_bl)) pss_nil)))))
    (pss_cons (ps_set (i := 15) sc_law.nd rfl (by first | exact Or.inl rfl | exact Or.inr rfl) (pe_lst (pa_cons pe_str (pa_cons pe_str (pa_cons pe_str (pa_cons pe_str (pa_cons pe_str (pa_cons pe_str (pa_cons pe_str (pa_cons pe_str (pa_cons pe_str (pa_cons pe_str (pa_cons pe_str (pa_cons pe_str (pa_cons pe_str (pa_cons pe_str (pa_cons pe_str (pa_cons pe_str (pa_cons pe_str pa_nil)))))))))))))))))))
    (pss_cons (ps_set (i := 15) sc_law.nd rfl (by first | exact Or.inl rfl | exact Or.inr rfl) (pe_op op_addU (pv 15) (pe_lst (pa_cons pe_str (pa_cons pe_str (pa_cons pe_str (pa_cons pe_str (pa_cons pe_str (pa_cons pe_str (pa_cons pe_str (pa_cons pe_str (pa_cons pe_str (pa_cons pe_str (pa_cons pe_str (pa_cons pe_str (pa_cons pe_str (pa_cons pe_str pa_nil)))))))))))))))))
    (pss_cons (ps_for PassesOwn.never rfl (pi_list (pv 15)) (pg_name (i := 13) sc_law.nd rfl (by first | exact Or.inl rfl | exact Or.inr rfl)) (pss_one (ps_if (pt_not (pt_val (pe_cal c__law_read_right hr (by decide) (fun σ => p0At σ) (pa_cons (pv 13) pa_nil)))) (pss_one (ps_ret pe_bl)) pss_nil)))
    (pss_one (ps_ret pe_bl))))))))))))))))))))), ?_⟩

  rintro ds r ⟨ns, rfl, rfl⟩
  have cl : ∀ k : Nat, R_law_cell [.list (ns.map .int), .int (k : Int)] (.ok (.int (cellF ns k))) := fun k => ⟨ns, k, rfl, rfl⟩
  have cl0 : R_law_cell [.list (ns.map .int), .int 0] (.ok (.int (cellF ns 0))) := cl 0
  have cl1 : R_law_cell [.list (ns.map .int), .int 1] (.ok (.int (cellF ns 1))) := cl 1
  have cl2 : R_law_cell [.list (ns.map .int), .int 2] (.ok (.int (cellF ns 2))) := cl 2
  have cl3 : R_law_cell [.list (ns.map .int), .int 3] (.ok (.int (cellF ns 3))) := cl 3
  have cl4 : R_law_cell [.list (ns.map .int), .int 4] (.ok (.int (cellF ns 4))) := cl 4
  have dr : ∀ (c : Int) (n : Nat), n ≤ 100 → R_law_draws [.int c, .int (n : Int)] (.ok (.list ((drawsF c n).map .int))) := fun c n h => ⟨c, n, rfl, h, rfl⟩
  refine en_seq (rn_asgE (ev_callWE (ea_cons (ev_callWE (by walk_at "ev") cl0 rfl) (ea_cons ev_int ea_nil)) (dr _ 60 (by decide)) rfl) rfl) ?_
  obtain ⟨l0, h0⟩ := draws_ok (cellF ns 0) 60
  generalize drawsF (cellF ns 0) 60 = d0 at *
  obtain ⟨l1, h1⟩ := draws_ok (cellF ns 1) 16
  obtain ⟨l2, h2⟩ := draws_ok (cellF ns 2) 16
  refine en_seq (rn_asgE (ev_callWE (ea_cons (ev_callWE (ea_cons (ev_callWE (by walk_at "ev") cl1 rfl) (ea_cons ev_int ea_nil)) (dr _ 16 (by decide)) rfl) ea_nil) ⟨_, rfl, h1, l1, rfl⟩ rfl) rfl) ?_
  refine en_seq (rn_asgE (ev_callWE (ea_cons (ev_callWE (ea_cons (ev_callWE (by walk_at "ev") cl2 rfl) (ea_cons ev_int ea_nil)) (dr _ 16 (by decide)) rfl) ea_nil) ⟨_, rfl, h2, l2, rfl⟩ rfl) rfl) ?_
  obtain ⟨qa, na⟩ := drawnF_ok h1 l1
  obtain ⟨qb, nb⟩ := drawnF_ok h2 l2
  generalize drawnF (drawsF (cellF ns 1) 16) = a at *
  generalize drawnF (drawsF (cellF ns 2) 16) = b at *
  have hZ := T.c_ZERO.d
  have hO := T.c_ONE.d
  have mz : RM 4 [.tuple [.int 0, .int 1], .tuple [.int 0, .int 1]] (.ok (.bool true)) := rm_mk (m_rat _ (0, 1))
  have mo : RM 4 [.tuple [.int 1, .int 1], .tuple [.int 1, .int 1]] (.ok (.bool true)) := rm_mk (m_rat _ (1, 1))
  refine en_seq (rn_ifF' (by walk_at "ev") (by rfl) rn_next) ?_
  have q0 : Qz 1300 ((0, 1) : Int × Int) := ⟨Sz.self.mono (by decide), Sz.self.mono (by decide), by decide⟩
  have s1 : R_law_sum_right [rat a, rat b] (.ok (.bool true)) := ⟨a, b, rfl, qa, qb, rfl⟩
  have s2 : R_law_sum_right [rat b, rat a] (.ok (.bool true)) := ⟨b, a, rfl, qb, qa, rfl⟩
  have s3 : R_law_sum_right [rat a, .tuple [.int 0, .int 1]] (.ok (.bool true)) := ⟨a, (0, 1), rfl, qa, q0, rfl⟩
  refine en_seq (rn_ifF' (by walk_at "ev") (by rfl) rn_next) ?_
  have ix : ∀ i : Nat, i < 60 → RD K (rIx K) (.list (d0.map .int)) (.int (i : Int)) (.int (d0.getD i 0)) := fun i hi => rd_ix_L (at_int (by omega))
  have ix0 : RD K (rIx K) (.list (d0.map .int)) (.int 0) (.int (d0.getD 0 0)) := ix 0 (by decide)
  refine en_seq (rn_asgE (ev_op (by walk_at "ev") (ev_op (ev_op (by walk_at "ev") (by walk_at "ev") ix0) (by walk_at "ev") (by walk_at "rd")) (by walk_at "rd")) rfl) ?_
  have f1 := Int.fmod_nonneg_of_pos (d0.getD 0 0) (show (0 : Int) < 30 by decide)
  have f2 := Int.fmod_lt_of_pos (d0.getD 0 0) (show (0 : Int) < 30 by decide)
  have sm : Sz 6 (1 + (d0.getD 0 0).fmod 30) := by
    have e : (2 : Nat) ^ 6 = 64 := rfl
    unfold Sz; rw [e]; omega
  generalize 1 + (d0.getD 0 0).fmod 30 = m at *
  have a1 := qa.t; have a2 := qa.b; have b1 := qb.t; have b2 := qb.b
  have rr : ∀ d ∈ ([.tuple [.int (m * a.1), .int (m * a.2)], .tuple [.int (m * a.1), .int (-m * a.2)], .tuple [.int b.1, .int a.2], .tuple [.int a.1, .int 0], .tuple [.int 0, .int (-m)]] : List PyData), ∃ t u : Int, d = .tuple [.int t, .int u] ∧ Sz 1400 t ∧ Sz 1400 u := by
    intro d hd
    simp only [List.mem_cons, List.not_mem_nil, or_false] at hd
    rcases hd with rfl | rfl | rfl | rfl | rfl
    · exact ⟨_, _, rfl, (Sz.mul sm a1).mono (by decide), (Sz.mul sm a2).mono (by decide)⟩
    · exact ⟨_, _, rfl, (Sz.mul sm a1).mono (by decide), (Sz.mul sm.neg a2).mono (by decide)⟩
    · exact ⟨_, _, rfl, b1.mono (by decide), a2.mono (by decide)⟩
    · exact ⟨_, _, rfl, a1.mono (by decide), Sz.self.mono (by decide)⟩
    · exact ⟨_, _, rfl, Sz.self.mono (by decide), sm.neg.mono (by decide)⟩
  refine en_seq (rn_none (js := [5, 6]) (src_list (W := fun _ _ _ _ => False) (l := [.tuple [.int (m * a.1), .int (m * a.2)], .tuple [.int (m * a.1), .int (-m * a.2)], .tuple [.int b.1, .int a.2], .tuple [.int a.1, .int 0], .tuple [.int 0, .int (-m)]]) (by walk_at "ev")) (fun i d hd => ?_)) ?_
  · obtain ⟨t, u, rfl, z1, z2⟩ := rr d (List.mem_of_getElem? hd)
    have c1 : R_law_ratio_right [.int t, .int u] (.ok (.bool true)) := ⟨t, u, rfl, z1, z2, rfl⟩
    exact ⟨_, _, as_tup (as_cons as_name (as_cons as_name as_nil)) rfl, rn_ifF' (by walk_at "ev") (by rfl) rn_next, by walk_at "less"⟩
  have r1 : R_ratio CB [.int b.1, .int 1] (.ok (rat (nrm b.1 1))) := ⟨b.1, 1, rfl, b1.mono (by decide), Sz.self.mono (by decide), by rw [if_neg (by decide)]⟩
  have e1 : nrm b.1 1 = (b.1, 1) := nrm_self (p := (b.1, 1)) ⟨by show (0 : Int) < 1; decide, by show Nat.gcd b.1.natAbs 1 = 1; exact Nat.gcd_one_right _⟩
  have mr : RM 4 [rat (nrm b.1 1), .tuple [.int b.1, .int 1]] (.ok (.bool true)) := rm_eq (m_rat _ _) (by rw [e1])
  have k1 : cutD (d0.map PyData.int) (some 1) (some 30) = ((d0.drop 1).take 29).map .int := by
    have := cut_mid (l := d0.map PyData.int) (i := 1) (j := 30) (by rw [List.length_map]; omega) (by rw [List.length_map]; omega)
    rw [show (1 : Int) = ((1 : Nat) : Int) from rfl, show (30 : Int) = ((30 : Nat) : Int) from rfl, this, ← List.map_drop, ← List.map_take]
  have k2 : cutD (d0.map PyData.int) (some 30) none = (d0.drop 30).map .int := by
    rw [show (30 : Int) = ((30 : Nat) : Int) from rfl, cut_from, List.map_drop]
  have dr1 : R_law_dot_right [.list (((d0.drop 1).take 29).map .int)] (.ok (.bool true)) := ⟨_, rfl, by rw [List.length_take, List.length_drop]; omega, rfl⟩
  have kr1 : R_law_kinds_right [rat a, .list ((d0.drop 30).map .int)] (.ok (.bool true)) := ⟨a, _, rfl, qa, by rw [List.length_drop]; omega, rfl⟩
  refine en_seq (rn_ifF' (et_or (et_not (et_B (ev_callWE (ea_cons (ev_call (by walk_at "ev") (fun F => .cons (.int 1) .nil) r1) (ea_cons (by walk_at "ev") ea_nil)) mr rfl))) fun _ => et_or (et_not (et_B (ev_callWE (ea_cons (ev_is (by walk_at "ev") (by rw [k1])) ea_nil) dr1 rfl))) fun _ => et_not (et_B (ev_callWE (ea_cons (by walk_at "ev") (ea_cons (ev_is (by walk_at "ev") (by rw [k2])) ea_nil)) kr1 rfl))) (by rfl) rn_next) ?_
  have hix : ∀ i : Nat, i < 60 → RD K (rIx K) (.list (d0.map .int)) (.int (i : Int)) (.int (d0.getD i 0)) := ix
  have ix31 : RD K (rIx K) (.list (d0.map .int)) (.int 31) (.int (d0.getD 31 0)) := ix 31 (by decide)
  have ix32 : RD K (rIx K) (.list (d0.map .int)) (.int 32) (.int (d0.getD 32 0)) := ix 32 (by decide)
  have ix33 : RD K (rIx K) (.list (d0.map .int)) (.int 33) (.int (d0.getD 33 0)) := ix 33 (by decide)
  have ix34 : RD K (rIx K) (.list (d0.map .int)) (.int 34) (.int (d0.getD 34 0)) := ix 34 (by decide)
  have ix35 : RD K (rIx K) (.list (d0.map .int)) (.int 35) (.int (d0.getD 35 0)) := ix 35 (by decide)
  have ix36 : RD K (rIx K) (.list (d0.map .int)) (.int 36) (.int (d0.getD 36 0)) := ix 36 (by decide)
  refine en_seq (rn_asgE (d := .list ((sizF (d0.getD 31 0) (d0.getD 32 0)).map .int)) (ev_lstH (ea_cons ev_int (ea_cons ev_int (ea_cons ev_int (ea_cons ev_int (ea_cons ev_int (ea_cons ev_int (ea_cons ev_int (ea_cons (ev_op ev_int (ev_op (ev_op (by walk_at "ev") ev_int ix31) ev_int (by walk_at "rd")) (by walk_at "rd")) (ea_cons ev_int (ea_cons ev_int (ea_cons ev_int (ea_cons (ev_op ev_int (ev_op (ev_op (by walk_at "ev") ev_int ix32) ev_int (by walk_at "rd")) (by walk_at "rd")) ea_nil)))))))))))) (by show 12 ≤ sizeLine; decide)) rfl) ?_
  generalize d0.getD 31 0 = x31 at *
  generalize d0.getD 32 0 = x32 at *
  generalize d0.getD 33 0 = x33 at *
  generalize d0.getD 34 0 = x34 at *
  generalize d0.getD 35 0 = x35 at *
  generalize d0.getD 36 0 = x36 at *
  obtain ⟨l3, h3⟩ := draws_ok (cellF ns 3) 20
  have sa3 := sizA_ok x31 x32 x33
  have dg3 : R_law_digits [.list ((drawsF (cellF ns 3) 20).map .int), .int (sizA x31 x32 x33)] (.ok (.str (digF (drawsF (cellF ns 3) 20) (sizA x31 x32 x33)))) := ⟨_, _, rfl, h3, by omega, by omega, sa3.1, sa3.2, rfl⟩
  have cn3 := digF_ok h3 (by omega) sa3.1
  refine en_seq (rn_asgE (ev_callWE (ea_cons (ev_callWE (ea_cons (ev_callWE (by walk_at "ev") cl3 rfl) (ea_cons ev_int ea_nil)) (dr _ 20 (by decide)) rfl) (ea_cons (ev_op (by walk_at "ev") (ev_op (ev_op (by walk_at "ev") ev_int ix33) ev_int (by walk_at "rd")) (rd_ix_L (sz_at _ _ _))) ea_nil)) dg3 rfl) rfl) ?_
  generalize digF (drawsF (cellF ns 3) 20) (sizA x31 x32 x33) = f at *
  have n3 : (sizA x31 x32 x33).toNat ≤ 700 := by omega
  generalize (sizA x31 x32 x33).toNat = k3 at *
  obtain ⟨sg, sat, slen, sok⟩ := sign_ok K x34
  refine en_seq (rn_asgE (ev_op (ev_lstH (ea_cons ev_str (ea_cons ev_str ea_nil)) (by decide)) (ev_op (ev_op (by walk_at "ev") ev_int ix34) ev_int (by walk_at "rd")) (rd_ix_L sat)) rfl) ?_
  have lf : f.length = k3 := by rw [z_len, cn3.len]
  have co := odd_ok cn3 x35
  have lo : (oddF f x35).length = k3 := by rw [z_len, co.len]
  refine en_seq (rn_asgE (d := .str (oddF f x35)) (ev_op (ev_sl (by walk_at "ev") ep_no (ep_some (ev_un ev_int ru_neg)) (rs_s (by rw [sizeLine_eq]; omega))) (ev_op ev_str (ev_op (ev_op (by walk_at "ev") ev_int ix35) ev_int (by walk_at "rd")) (rd_ix_S (by decide +kernel) (odd_at x35))) (rd_addS (by
    have := app_len (cutS f none (some (-1))) ⟨#[oddC x35]⟩
    have e : (cutS f none (some (-1)) ++ ⟨#[oddC x35]⟩ : Str) = oddF f x35 := rfl
    rw [e, lo] at this
    rw [← this, sizeLine_eq]; omega))) rfl) ?_
  obtain ⟨l4, h4⟩ := draws_ok (cellF ns 4) 20
  have sa4 := sizA_ok x31 x32 x36
  have dg4 : R_law_digits [.list ((drawsF (cellF ns 4) 20).map .int), .int (sizA x31 x32 x36)] (.ok (.str (digF (drawsF (cellF ns 4) 20) (sizA x31 x32 x36)))) := ⟨_, _, rfl, h4, by omega, by omega, sa4.1, sa4.2, rfl⟩
  have cn4 := digF_ok h4 (by omega) sa4.1
  refine en_seq (rn_asgE (ev_callWE (ea_cons (ev_callWE (ea_cons (ev_callWE (by walk_at "ev") cl4 rfl) (ea_cons ev_int ea_nil)) (dr _ 20 (by decide)) rfl) (ea_cons (ev_op (by walk_at "ev") (ev_op (ev_op (by walk_at "ev") ev_int ix36) ev_int (by walk_at "rd")) (rd_ix_L (sz_at _ _ _))) ea_nil)) dg4 rfl) rfl) ?_
  generalize digF (drawsF (cellF ns 4) 20) (sizA x31 x32 x36) = g at *
  have n4 : (sizA x31 x32 x36).toNat ≤ 700 := by omega
  generalize (sizA x31 x32 x36).toNat = k4 at *
  have lg : g.length = k4 := by rw [z_len, cn4.len]
  obtain ⟨i1, r1', s1'⟩ := sok f k3 cn3 (by omega)
  obtain ⟨i2, r2', s2'⟩ := sok (oddF f x35) k3 co (by omega)
  obtain ⟨i3, r3', s3'⟩ := sok "1" 1 cn_one (by decide)
  have r4' := (rc_signed (K := K) cn4 (by omega)).1
  have l1 : ("1" : Str).length = 1 := by decide +kernel
  have l2 : ("/2" : Str).length = 2 := by decide +kernel
  have l3 : ("1/" : Str).length = 2 := by decide +kernel
  have z1 : sg.length + f.length ≤ sizeLine := by rw [sizeLine_eq]; omega
  have z2 : sg.length + (oddF f x35).length ≤ sizeLine := by rw [sizeLine_eq]; omega
  have z3 : (sg ++ oddF f x35).length + ("/2" : Str).length ≤ sizeLine := by rw [sizeLine_eq, app_len]; omega
  have z4 : sg.length + ("1/" : Str).length ≤ sizeLine := by rw [sizeLine_eq]; omega
  have z5 : (sg ++ ("1/" : Str)).length + g.length ≤ sizeLine := by rw [sizeLine_eq, app_len]; omega
  have z6 : sg.length + ("1" : Str).length ≤ sizeLine := by rw [sizeLine_eq]; omega
  refine en_seq (rn_asgO (ds := [pairD (sg ++ f, (i1, 1)), pairD ("0", (0, 1)), pairD (sg ++ oddF f x35 ++ ("/2" : Str), (i2, 2))]) (ea_cons (ev_lstH (ea_cons (ev_op (by walk_at "ev") (by walk_at "ev") (rd_addS z1)) (ea_cons (ev_tupH (ea_cons (ev_cb (ea_cons (ev_op (by walk_at "ev") (by walk_at "ev") (rd_addS z1)) ea_nil) r1') (ea_cons ev_int ea_nil)) (by show 2 ≤ sizeLine; decide)) ea_nil)) (by show 2 ≤ sizeLine; decide)) (ea_cons (ev_lstH (ea_cons ev_str (ea_cons (ev_tupH (ea_cons ev_int (ea_cons ev_int ea_nil)) (by show 2 ≤ sizeLine; decide)) ea_nil)) (by show 2 ≤ sizeLine; decide)) (ea_cons (ev_lstH (ea_cons (ev_op (ev_op (by walk_at "ev") (by walk_at "ev") (rd_addS z2)) ev_str (rd_addS z3)) (ea_cons (ev_tupH (ea_cons (ev_cb (ea_cons (ev_op (by walk_at "ev") (by walk_at "ev") (rd_addS z2)) ea_nil) r2') (ea_cons ev_int ea_nil)) (by show 2 ≤ sizeLine; decide)) ea_nil)) (by show 2 ≤ sizeLine; decide)) ea_nil))) (by show 3 ≤ sizeLine; decide)) ?_
  have P1 : ∃ mm, WR (sg ++ f) (i1, 1) mm := ⟨_, wr_whole s1' (by omega)⟩
  have P2 : ∃ mm, WR ("0" : Str) (0, 1) mm := by
    refine ⟨_, wr_whole (n := 1) ⟨by decide +kernel, by decide +kernel, by decide +kernel, by decide +kernel, ?_⟩ (by decide)⟩
    unfold K85.long
    have e : wall = ((10 ^ 600 : Nat) : Int) := (Int.natCast_pow 10 600).symm
    have p : 0 < 10 ^ 600 := Nat.pow_pos (by decide)
    rw [e]
    generalize 10 ^ 600 = w at *
    rw [decide_eq_false (show ¬ 600 < 1 by decide), Bool.or_eq_false_iff, decide_eq_false_iff_not, decide_eq_false_iff_not]
    omega
  have P3 : ∃ mm, WR (sg ++ oddF f x35 ++ ("/2" : Str)) (i2, 2) mm := by
    have q := wr_two s2' (sg_pos cn_two (by decide)) (by omega) (by decide) (by rw [int_two]; decide)
    rw [int_two, app_as (sg ++ oddF f x35)] at q
    have e : ("/" : Str) ++ ("2" : Str) = ("/2" : Str) := by decide +kernel
    rw [e] at q
    exact ⟨_, q⟩
  have P4 : g ≠ ("1" : Str) → ∃ mm, WR (sg ++ ("1/" : Str) ++ g) (i3, ival g) mm := fun hg => by
    have q := wr_two s3' (sg_pos cn4 (by omega)) (by decide) (by omega) (fun e => hg (ival_one cn4 (by omega) e))
    rw [app_as sg ("1" : Str)] at q
    have e : ("1" : Str) ++ ("/" : Str) = ("1/" : Str) := by decide +kernel
    rw [e] at q
    exact ⟨_, q⟩
  obtain ⟨prs, hprs, hwr⟩ : ∃ prs : List (Str × (Int × Int)), prs = [(sg ++ f, (i1, 1)), ("0", (0, 1)), (sg ++ oddF f x35 ++ ("/2" : Str), (i2, 2))] ++ (if g = ("1" : Str) then [] else [(sg ++ ("1/" : Str) ++ g, (i3, ival g))]) ∧ ∀ x ∈ prs, ∃ mm, WR x.1 x.2 mm := by
    refine ⟨_, rfl, fun x hx => ?_⟩
    rcases List.mem_append.mp hx with q | q
    · simp only [List.mem_cons, List.not_mem_nil, or_false] at q
      rcases q with rfl | rfl | rfl
      · exact P1
      · exact P2
      · exact P3
    · by_cases hg : g = ("1" : Str)
      · rw [if_pos hg] at q; cases q
      · rw [if_neg hg, List.mem_singleton] at q
        rw [q]; exact P4 hg
  refine en_seq (δ1 := [.val (.list (ns.map .int)), .val (.list (d0.map .int)), .val (rat a), .val (rat b), .val (.int m), .no, .no, .val (.list ((sizF x31 x32).map .int)), .val (.str f), .val (.str sg), .val (.str (oddF f x35)), .val (.str g), .own (prs.map pairD), .no, .no, .no, .no]) ?_ ?_
  · by_cases hg : g = ("1" : Str)
    · rw [if_pos hg, List.append_nil] at hprs
      rw [hprs]
      exact rn_ifF' (by walk_at "ev") (by simp [hg]) rn_next
    · rw [if_neg hg] at hprs
      rw [hprs]
      refine rn_ifT' (by walk_at "ev") (by simp [hg]) (rn_nxE (rn_app rfl (ev_lstH (ea_cons (ev_op (ev_op (by walk_at "ev") ev_str (rd_addS z4)) (by walk_at "ev") (rd_addS z5)) (ea_cons (ev_tupH (ea_cons (ev_cb (ea_cons (ev_op (by walk_at "ev") ev_str (rd_addS z6)) ea_nil) r3') (ea_cons (ev_cb (ea_cons (by walk_at "ev") ea_nil) r4') ea_nil)) (by show 2 ≤ sizeLine; decide)) ea_nil)) (by show 2 ≤ sizeLine; decide)) (by show 3 < sizeLine; decide)) rfl)
  refine rn_frzE (i := 12) (l := prs.map pairD) rfl ?_
  have c40 : cutD (d0.map PyData.int) (some 40) none = (d0.drop 40).map .int := by
    rw [show (40 : Int) = ((40 : Nat) : Int) from rfl, cut_from, List.map_drop]
  have c45 : cutD (d0.map PyData.int) (some 45) none = (d0.drop 45).map .int := by
    rw [show (45 : Int) = ((45 : Nat) : Int) from rfl, cut_from, List.map_drop]
  refine en_seq (rn_none (js := [13, 14]) (src_list (W := fun _ _ _ _ => False) (l := prs.map pairD) (by walk_at "ev")) (fun i d hd => ?_)) ?_
  · obtain ⟨x, hx, rfl⟩ := List.mem_map.mp (List.mem_of_getElem? hd)
    obtain ⟨mm, hw⟩ := hwr x hx
    have wr : R_law_written_right [.str x.1, rat x.2] (.ok (.bool true)) := ⟨_, _, mm, rfl, hw, rfl⟩
    have hs := hw.sh
    have q1 := near_len x.1 (d0.drop 40)
    have q2 := near_len (nearF x.1 (d0.drop 40)) (d0.drop 45)
    have n1 : R_law_near [.str x.1, .list ((d0.drop 40).map .int)] (.ok (.str (nearF x.1 (d0.drop 40)))) := ⟨_, _, rfl, by omega, by rw [List.length_drop]; omega, rfl⟩
    have n2 : R_law_near [.str (nearF x.1 (d0.drop 40)), .list ((d0.drop 45).map .int)] (.ok (.str (nearF (nearF x.1 (d0.drop 40)) (d0.drop 45)))) := ⟨_, _, rfl, by omega, by rw [List.length_drop]; omega, rfl⟩
    have t1 : RT 5000 (fun _ => .bool true) [.str (nearF x.1 (d0.drop 40))] (.ok (.bool true)) := ⟨_, rfl, by omega, rfl⟩
    have t2 : RT 5000 (fun _ => .bool true) [.str (nearF (nearF x.1 (d0.drop 40)) (d0.drop 45))] (.ok (.bool true)) := ⟨_, rfl, by omega, rfl⟩
    exact ⟨_, _, as_lst (as_cons as_name (as_cons as_name as_nil)) rfl, rn_seq (rn_ifF' (by walk_at "ev") (by rfl) rn_next) (rn_seq (rn_asgE (ev_callWE (ea_cons (by walk_at "ev") (ea_cons (ev_is (by walk_at "ev") (by rw [c40])) ea_nil)) n1 rfl) rfl) (rn_ifF' (et_or (et_not (et_B (ev_callWE (by walk_at "ev") t1 rfl))) fun _ => et_not (et_B (ev_callWE (ea_cons (ev_callWE (ea_cons (by walk_at "ev") (ea_cons (ev_is (by walk_at "ev") (by rw [c45])) ea_nil)) n2 rfl) ea_nil) t2 rfl))) (by rfl) rn_next)), by walk_at "less"⟩
  refine en_seq (rn_asgO (by walk_at "ev") (by show 17 ≤ sizeLine; decide)) ?_
  refine en_seq (rn_asgE (ev_catO (i := 15) rfl (by walk_at "ev") (by show 17 + 14 ≤ sizeLine; decide)) rfl) ?_
  refine en_seq (rn_none (js := [13]) (src_list (W := fun _ _ _ _ => False) (by walk_at "ev")) (fun i d hd => ?_)) ?_
  · have hd' : d ∈ (fixA ++ fixB).map PyData.str := List.mem_of_getElem? hd
    obtain ⟨z, hz, rfl⟩ := List.mem_map.mp hd'
    have t1 : RT 5000 (fun _ => .bool true) [.str z] (.ok (.bool true)) := ⟨_, rfl, by have := fix_len z hz; omega, rfl⟩
    exact ⟨_, _, as_name, rn_ifF' (by walk_at "ev") (by rfl) rn_next, by walk_at "less"⟩
  exact en_rt (rn_ret (by walk_at "ev")) rfl
end
end K85
set_option Elab.async false
set_option linter.all false
set_option maxRecDepth 1000000
set_option maxHeartbeats 0
set_option exponentiation.threshold 10000
/-! K85Z: the head and the end. -/
namespace K85
open PySem PySem.Spec PyProof.Rows L2 DL He
abbrev P0 : Program := PySem.Challenge.pw_plansasnewscome_k85_numbers_read_and_wri
def fn0 : List DefD := ([dD "ratio" s_ratio [.int 1], dD "plus" s_plus [], dD "minus" s_minus [], dD "times" s_times [], dD "over" s_over [], dD "compare" s_compare [], dD "dot" s_dot [], dD "is_whole" s_is_whole [], dD "is_ratio" s_is_ratio [], dD "write_whole" s_write_whole [], dD "write_ratio" s_write_ratio [], dD "is_figures" s_is_figures [], dD "read_whole" s_read_whole [], dD "read_ratio" s_read_ratio [], dD "_law_cell" s__law_cell [], dD "_law_draws" s__law_draws [], dD "_law_gcd" s__law_gcd [], dD "_law_ratio" s__law_ratio [], dD "_law_add" s__law_add [], dD "_law_mul" s__law_mul [], dD "_law_below" s__law_below [], dD "_law_is_whole" s__law_is_whole [], dD "_law_is_ratio" s__law_is_ratio [], dD "_law_match" s__law_match [], dD "_law_figures" s__law_figures [], dD "_law_whole_word" s__law_whole_word [], dD "_law_ratio_word" s__law_ratio_word [], dD "_law_number" s__law_number [], dD "_law_digits" s__law_digits [], dD "_law_drawn" s__law_drawn []] : List DefD) ++ ([dD "_law_sum_right" s__law_sum_right [], dD "_law_ratio_right" s__law_ratio_right [], dD "_law_dot_right" s__law_dot_right [], dD "_law_kinds_right" s__law_kinds_right [], dD "_law_told" s__law_told [], dD "_law_read_right" s__law_read_right [], dD "_law_written_right" s__law_written_right [], dD "_law_near" s__law_near [], dD "law" s_law []] : List DefD)
def fa0 : List Fa := ([.glo "ratio", .glo "plus", .glo "minus", .glo "times", .glo "over", .glo "compare", .glo "dot", .glo "is_whole", .glo "is_ratio", .glo "write_whole", .glo "write_ratio", .glo "is_figures", .glo "read_whole", .glo "read_ratio", .glo "_law_cell", .glo "_law_draws", .glo "_law_gcd", .glo "_law_ratio", .glo "_law_add", .glo "_law_mul", .glo "_law_below", .glo "_law_is_whole", .glo "_law_is_ratio", .glo "_law_match", .glo "_law_figures", .glo "_law_whole_word", .glo "_law_ratio_word", .glo "_law_number", .glo "_law_digits", .glo "_law_drawn"] : List Fa) ++ ([.glo "_law_sum_right", .glo "_law_ratio_right", .glo "_law_dot_right", .glo "_law_kinds_right", .glo "_law_told", .glo "_law_read_right", .glo "_law_written_right", .glo "_law_near", .glo "law", .glo "BadNumber", .glo "TooMany", .glo "ZERO", .glo "ONE", .free "abs", .free "bool", .free "int", .free "isinstance", .free "len", .free "list", .free "max", .free "range", .free "str", .free "sum", .free "tuple", .free "super", .int "MOST_FIGURES" 600, .int "WALL" (10 ^ 600), .str "DIGITS" "0123456789", .noat "BadNumber" "value", .noat "TooMany" "word"] : List Fa) ++ ([.noat "TooMany" "limit", .exm "BadNumber" "BadNumber" true, .exm "TooMany" "BadNumber" false, .exm "TooMany" "TooMany" true] : List Fa)
def sd0 : List SupD := [⟨"BadNumber", "BadNumber.__init__", initOf (topS 3)⟩, ⟨"TooMany", "TooMany.__init__", initOf (topS 4)⟩]
def ex0 (K : PySem.W.Frag) : Bool := noDigB K && (supCB K (ga K "BadNumber") && (supFB K (ga K "BadNumber") P0.main.file "BadNumber.__init__" && (xfB K (ga K "BadNumber") && (supCB K (ga K "TooMany") && (supFB K (ga K "TooMany") P0.main.file "TooMany.__init__" && (xfB K (ga K "TooMany") && (tupB K "ZERO" [.int 0, .int 1] && (tupB K "ONE" [.int 1, .int 1] && (bltB K "gcd" "math.gcd")))))))))
abbrev R0 : PySem.W.OpenRow := PySem.W.OpenLaw.row PySem.Challenge.rw_plansasnewscome_k85_numbers_read_and_wri
abbrev hk0 : PySem.W.Hook := hookY 5 fa0 fn0 sd0 ex0
def ob0 (s : PySem.W.SharedT) : AlY := obsYG 5 fa0 fn0 sd0 ex0 (HandSHeadRun.getT s)
theorem ob_eq (s : PySem.W.SharedT) : ob0 s = hk0.obs s.abs := obsYG_eq (HandSHeadRun.getT_eq s)
def loose0 : List Str := (["__name__", "PlanError", "BadNumber", "TooMany", "ZERO", "ONE", "MOST_FIGURES", "WALL", "DIGITS", "ratio", "plus", "minus", "times", "over", "compare", "dot", "is_whole", "is_ratio", "write_whole", "write_ratio", "is_figures", "read_whole", "read_ratio", "_law_cell", "_law_draws", "_law_gcd", "_law_ratio", "_law_add", "_law_mul", "_law_below"] : List Str) ++ (["_law_is_whole", "_law_is_ratio", "_law_match", "_law_figures", "_law_whole_word", "_law_ratio_word", "_law_number", "_law_digits", "_law_drawn", "_law_sum_right", "_law_ratio_right", "_law_dot_right", "_law_kinds_right", "_law_told", "_law_read_right", "_law_written_right", "_law_near"] : List Str)
theorem run0 (w : World) : HandSHeadRun.RunEqI R0 (PySem.W.view R0.prog [0, 50]) hk0 ob0 5000 loose0 w := by
  unfold HandSHeadRun.RunEqI
  kernel_rfl
abbrev pl0 : Sem Bool := do return (← (pure (some false) : Sem (Option Bool))).getD true
theorem all0 {w : World} {K : PySem.W.Frag} {h : Heap} {mg : Str → Option Value} (X : K.In h) (G : h.Ns mainGlobals mg) (c : SaysY fa0 fn0 sd0 ex0 K) (base : Heap) : DefAt K mg "law" s_law [] ∧ LawX P0 w K mg base 9 s_law R_law := by
  have d := c.d
  have m : ex0 K = true := c.more
  unfold ex0 at m
  have D_ratio : DefAt K mg "ratio" s_ratio [.int 1] := defat d X G 0 0
  have D_plus : DefAt K mg "plus" s_plus [] := defat d X G 1 1
  have D_minus : DefAt K mg "minus" s_minus [] := defat d X G 2 2
  have D_times : DefAt K mg "times" s_times [] := defat d X G 3 3
  have D_over : DefAt K mg "over" s_over [] := defat d X G 4 4
  have D_compare : DefAt K mg "compare" s_compare [] := defat d X G 5 5
  have D_dot : DefAt K mg "dot" s_dot [] := defat d X G 6 6
  have D_is_whole : DefAt K mg "is_whole" s_is_whole [] := defat d X G 7 7
  have D_is_ratio : DefAt K mg "is_ratio" s_is_ratio [] := defat d X G 8 8
  have D_write_whole : DefAt K mg "write_whole" s_write_whole [] := defat d X G 9 9
  have D_write_ratio : DefAt K mg "write_ratio" s_write_ratio [] := defat d X G 10 10
  have D_is_figures : DefAt K mg "is_figures" s_is_figures [] := defat d X G 11 11
  have D_read_whole : DefAt K mg "read_whole" s_read_whole [] := defat d X G 12 12
  have D_read_ratio : DefAt K mg "read_ratio" s_read_ratio [] := defat d X G 13 13
  have D__law_cell : DefAt K mg "_law_cell" s__law_cell [] := defat d X G 14 14
  have D__law_draws : DefAt K mg "_law_draws" s__law_draws [] := defat d X G 15 15
  have D__law_gcd : DefAt K mg "_law_gcd" s__law_gcd [] := defat d X G 16 16
  have D__law_ratio : DefAt K mg "_law_ratio" s__law_ratio [] := defat d X G 17 17
  have D__law_add : DefAt K mg "_law_add" s__law_add [] := defat d X G 18 18
  have D__law_mul : DefAt K mg "_law_mul" s__law_mul [] := defat d X G 19 19
  have D__law_below : DefAt K mg "_law_below" s__law_below [] := defat d X G 20 20
  have D__law_is_whole : DefAt K mg "_law_is_whole" s__law_is_whole [] := defat d X G 21 21
  have D__law_is_ratio : DefAt K mg "_law_is_ratio" s__law_is_ratio [] := defat d X G 22 22
  have D__law_match : DefAt K mg "_law_match" s__law_match [] := defat d X G 23 23
  have D__law_figures : DefAt K mg "_law_figures" s__law_figures [] := defat d X G 24 24
  have D__law_whole_word : DefAt K mg "_law_whole_word" s__law_whole_word [] := defat d X G 25 25
  have D__law_ratio_word : DefAt K mg "_law_ratio_word" s__law_ratio_word [] := defat d X G 26 26
  have D__law_number : DefAt K mg "_law_number" s__law_number [] := defat d X G 27 27
  have D__law_digits : DefAt K mg "_law_digits" s__law_digits [] := defat d X G 28 28
  have D__law_drawn : DefAt K mg "_law_drawn" s__law_drawn [] := defat d X G 29 29
  have D__law_sum_right : DefAt K mg "_law_sum_right" s__law_sum_right [] := defat d X G 30 30
  have D__law_ratio_right : DefAt K mg "_law_ratio_right" s__law_ratio_right [] := defat d X G 31 31
  have D__law_dot_right : DefAt K mg "_law_dot_right" s__law_dot_right [] := defat d X G 32 32
  have D__law_kinds_right : DefAt K mg "_law_kinds_right" s__law_kinds_right [] := defat d X G 33 33
  have D__law_told : DefAt K mg "_law_told" s__law_told [] := defat d X G 34 34
  have D__law_read_right : DefAt K mg "_law_read_right" s__law_read_right [] := defat d X G 35 35
  have D__law_written_right : DefAt K mg "_law_written_right" s__law_written_right [] := defat d X G 36 36
  have D__law_near : DefAt K mg "_law_near" s__law_near [] := defat d X G 37 37
  have D_law : DefAt K mg "law" s_law [] := defat d X G 38 38
  have SC_BadNumber := supC_of (P := P0) (mg := mg) (ba (ba m).2).1 (by decide +kernel) (free_ok X G (d.fact 54 (f := .free "super") rfl))
  obtain ⟨fd_BadNumber, SF_BadNumber⟩ := supF_of (P := P0) (c.sup 0 (d := ⟨"BadNumber", "BadNumber.__init__", initOf (topS 3)⟩) rfl) (ba (ba (ba m).2).2).1
  have e_BadNumber : Err1 P0 w K mg base "BadNumber" (ga K "BadNumber") "value" := err1_of (msg := "not a valid number") (pl := pl0) SC_BadNumber SF_BadNumber (xfB_ok (ba (ba (ba (ba m).2).2).2).1) (noat_ok (d.fact 58 (f := .noat "BadNumber" "value") rfl)) (glo_ok X G (d.fact 39 (f := .glo "BadNumber") rfl)) ⟨rfl, rfl, rfl, rfl, by decide +kernel, by decide +kernel, by decide, rfl, rfl, ⟨_, rfl, rfl⟩, fun _ _ _ => rfl, fun _ _ _ => rfl, fun _ _ _ => rfl, fun _ _ _ => rfl⟩ ⟨rfl, rfl, fun _ _ _ => rfl⟩ (by decide) (fun _ _ _ _ _ _ _ us hl => match us, hl with | [_, _], _ => rfl)
  have SC_TooMany := supC_of (P := P0) (mg := mg) (ba (ba (ba (ba (ba m).2).2).2).2).1 (by decide +kernel) (free_ok X G (d.fact 54 (f := .free "super") rfl))
  obtain ⟨fd_TooMany, SF_TooMany⟩ := supF_of (P := P0) (c.sup 1 (d := ⟨"TooMany", "TooMany.__init__", initOf (topS 4)⟩) rfl) (ba (ba (ba (ba (ba (ba m).2).2).2).2).2).1
  have e_TooMany : Err2 P0 w K mg base "TooMany" (ga K "TooMany") "word" "limit" := err2_of (msg := "too many") (pl := pl0) SC_TooMany SF_TooMany (xfB_ok (ba (ba (ba (ba (ba (ba (ba m).2).2).2).2).2).2).1) (noat_ok (d.fact 59 (f := .noat "TooMany" "word") rfl)) (noat_ok (d.fact 60 (f := .noat "TooMany" "limit") rfl)) (glo_ok X G (d.fact 40 (f := .glo "TooMany") rfl)) ⟨rfl, rfl, rfl, rfl, by decide +kernel, by decide +kernel, by decide, rfl, rfl, ⟨_, rfl, rfl⟩, fun _ _ _ => rfl, fun _ _ _ => rfl, fun _ _ _ => rfl, fun _ _ _ => rfl⟩ ⟨rfl, rfl, fun _ _ _ => rfl⟩ ⟨rfl, rfl, fun _ _ _ => rfl⟩ (by decide) (by decide) (by decide) (fun _ _ _ _ _ _ _ us hl => match us, hl with | [_, _, _], _ => rfl)
  have k_ZERO : CT K mg "ZERO" (ga K "ZERO") (.tuple [.int 0, .int 1]) := ct_of X G (d.fact 41 (f := .glo "ZERO") rfl) (ba (ba (ba (ba (ba (ba (ba (ba m).2).2).2).2).2).2).2).1 fun F => .cons (.int _) (.cons (.int _) .nil)
  have k_ONE : CT K mg "ONE" (ga K "ONE") (.tuple [.int 1, .int 1]) := ct_of X G (d.fact 42 (f := .glo "ONE") rfl) (ba (ba (ba (ba (ba (ba (ba (ba (ba m).2).2).2).2).2).2).2).2).1 fun F => .cons (.int _) (.cons (.int _) .nil)
  have mBB := exm_ok (d.fact 61 (f := .exm "BadNumber" "BadNumber" true) rfl)
  have mMB := exm_ok (d.fact 62 (f := .exm "TooMany" "BadNumber" false) rfl)
  have mMM := exm_ok (d.fact 63 (f := .exm "TooMany" "TooMany" true) rfl)
  have T : Tx K mg (ga K "ZERO") (ga K "ONE") := ⟨noDigB_ok (ba m).1, free_ok X G (d.fact 43 (f := .free "abs") rfl), free_ok X G (d.fact 44 (f := .free "bool") rfl), free_ok X G (d.fact 45 (f := .free "int") rfl), free_ok X G (d.fact 46 (f := .free "isinstance") rfl), free_ok X G (d.fact 47 (f := .free "len") rfl), free_ok X G (d.fact 48 (f := .free "list") rfl), free_ok X G (d.fact 49 (f := .free "max") rfl), free_ok X G (d.fact 50 (f := .free "range") rfl), free_ok X G (d.fact 51 (f := .free "str") rfl), free_ok X G (d.fact 52 (f := .free "sum") rfl), free_ok X G (d.fact 53 (f := .free "tuple") rfl), bltB_ok X G (ba (ba (ba (ba (ba (ba (ba (ba (ba m).2).2).2).2).2).2).2).2).2, k_ZERO, k_ONE, int_ok X G (d.fact 55 (f := .int "MOST_FIGURES" 600) rfl), int_ok X G (d.fact 56 (f := .int "WALL" (10 ^ 600)) rfl), str_ok X G (d.fact 57 (f := .str "DIGITS" "0123456789") rfl)⟩
  have c_ratio := ok_ratio (P := P0) (w := w) (base := base) T D_ratio (fun f fd F => F.binds1 2 1 (by simp) rfl fun T kV doc pm an cdv ct us its l1 l2 => match us, its, l1, l2 with | [_, _], [_], _, _ => ⟨_, rfl, rfl⟩) e_BadNumber
  have c_ratio1 := ok_ratio (P := P0) (w := w) (base := base) T D_ratio (fun f fd F => F.binds1 1 0 (by simp) rfl fun T kV doc pm an cdv ct us its l1 l2 => match us, its, l1, l2 with | [_], [_], _, _ => ⟨_, rfl, rfl⟩) e_BadNumber
  have c_plus := ok_plus (P := P0) (w := w) (base := base) T D_plus c_ratio
  have c_minus := ok_minus (P := P0) (w := w) (base := base) T D_minus c_ratio
  have c_times := ok_times (P := P0) (w := w) (base := base) T D_times c_ratio
  have c_over := ok_over (P := P0) (w := w) (base := base) T D_over c_ratio e_BadNumber
  have c_compare := ok_compare (P := P0) (w := w) (base := base) T D_compare
  have c_is_whole := ok_is_whole (P := P0) (w := w) (base := base) T D_is_whole
  have c_is_ratio := ok_is_ratio (P := P0) (w := w) (base := base) T D_is_ratio c_is_whole
  have c_is_figures := ok_is_figures (P := P0) (w := w) (base := base) T D_is_figures
  have c_write_whole := ok_write_whole (P := P0) (w := w) (base := base) T D_write_whole e_TooMany
  have c_write_ratio := ok_write_ratio (P := P0) (w := w) (base := base) T D_write_ratio c_write_whole
  have c_read_whole := ok_read_whole (P := P0) (w := w) (base := base) T D_read_whole c_is_figures e_BadNumber
  have c_read_ratio := ok_read_ratio (P := P0) (w := w) (base := base) T D_read_ratio c_is_figures c_read_whole c_is_ratio e_BadNumber
  have c_dot := ok_dot (P := P0) (w := w) (base := base) T D_dot c_plus c_times
  have c__law_gcd := ok__law_gcd (P := P0) (w := w) (base := base) T D__law_gcd
  have c__law_ratio := ok__law_ratio (P := P0) (w := w) (base := base) T D__law_ratio c__law_gcd
  have c__law_add := ok__law_add (P := P0) (w := w) (base := base) T D__law_add c__law_ratio
  have c__law_mul := ok__law_mul (P := P0) (w := w) (base := base) T D__law_mul c__law_ratio
  have c__law_below := ok__law_below (P := P0) (w := w) (base := base) T D__law_below
  have c__law_is_whole := ok__law_is_whole (P := P0) (w := w) (base := base) T D__law_is_whole
  have c__law_is_ratio := ok__law_is_ratio (P := P0) (w := w) (base := base) T D__law_is_ratio c__law_is_whole c__law_gcd
  have c__law_figures := ok__law_figures (P := P0) (w := w) (base := base) T D__law_figures
  have c__law_whole_word := ok__law_whole_word (P := P0) (w := w) (base := base) T D__law_whole_word c__law_figures
  have c__law_ratio_word := ok__law_ratio_word (P := P0) (w := w) (base := base) T D__law_ratio_word c__law_whole_word c__law_figures c__law_gcd
  have c__law_cell := ok__law_cell (P := P0) (w := w) (base := base) T D__law_cell
  have c__law_draws := ok__law_draws (P := P0) (w := w) (base := base) T D__law_draws
  have h__law_is_whole := hot__law_is_whole (P := P0) (w := w) (base := base) T D__law_is_whole
  have c__law_match_0 := cal_none (P := P0) (w := w) (base := base) (CX := CX0) (R := RM 0) D__law_match (bind0 (ps := ["actual", "due"]) (fun _ _ _ _ _ _ us hl => match us, hl with | [_, _], _ => rfl)) (fun _ _ h => h) 2
  have c__law_match_1 := step__law_match (P := P0) (w := w) (base := base) (nn := 0) (kk := 2) (by decide) T D__law_match c__law_is_whole c__law_match_0
  have c__law_match_2 := step__law_match (P := P0) (w := w) (base := base) (nn := 1) (kk := 3) (by decide) T D__law_match c__law_is_whole c__law_match_1
  have c__law_match_3 := step__law_match (P := P0) (w := w) (base := base) (nn := 2) (kk := 4) (by decide) T D__law_match c__law_is_whole c__law_match_2
  have c__law_match_4 := step__law_match (P := P0) (w := w) (base := base) (nn := 3) (kk := 5) (by decide) T D__law_match c__law_is_whole c__law_match_3
  have c__law_match := c__law_match_4
  have h__law_match_0 := calh_none (P := P0) (w := w) (base := base) (R := RM 0) D__law_match (bind0 (ps := ["actual", "due"]) (fun _ _ _ _ _ _ us hl => match us, hl with | [_, _], _ => rfl)) (fun _ _ h => h) 2
  have h__law_match_1 := hot__law_match (P := P0) (w := w) (base := base) (nn := 0) (kk := 2) (by decide) T D__law_match h__law_is_whole h__law_match_0
  have h__law_match_2 := hot__law_match (P := P0) (w := w) (base := base) (nn := 1) (kk := 3) (by decide) T D__law_match h__law_is_whole h__law_match_1
  have h__law_match_3 := hot__law_match (P := P0) (w := w) (base := base) (nn := 2) (kk := 4) (by decide) T D__law_match h__law_is_whole h__law_match_2
  have h__law_match_4 := hot__law_match (P := P0) (w := w) (base := base) (nn := 3) (kk := 5) (by decide) T D__law_match h__law_is_whole h__law_match_3
  have h__law_match := h__law_match_4
  have c__law_number := ok__law_number (P := P0) (w := w) (base := base) T D__law_number
  have c__law_digits := ok__law_digits (P := P0) (w := w) (base := base) T D__law_digits
  have c__law_drawn := ok__law_drawn (P := P0) (w := w) (base := base) T D__law_drawn c__law_ratio c__law_digits
  have c__law_near := ok__law_near (P := P0) (w := w) (base := base) T D__law_near
  have c__law_ratio_right := ok__law_ratio_right (P := P0) (w := w) (base := base) T D__law_ratio_right c_ratio c__law_match c__law_ratio h__law_match mBB e_BadNumber
  have c__law_sum_right := ok__law_sum_right (P := P0) (w := w) (base := base) T D__law_sum_right c__law_match c_over c_times c__law_mul c__law_below c__law_ratio c_plus c__law_add c_minus c_compare h__law_match mBB e_BadNumber
  have c__law_told := ok__law_told (P := P0) (w := w) (base := base) T D__law_told c_read_whole c_read_ratio c_write_whole c_write_ratio mBB mMB mMM e_BadNumber e_TooMany
  have c__law_read_right := ok__law_read_right (P := P0) (w := w) (base := base) T D__law_read_right c__law_whole_word c__law_ratio_word c__law_match c__law_number c__law_told
  have c__law_dot_right := ok__law_dot_right (P := P0) (w := w) (base := base) T D__law_dot_right c__law_match c__law_ratio c__law_add c_dot c__law_mul
  have c__law_kinds_right := ok__law_kinds_right (P := P0) (w := w) (base := base) T D__law_kinds_right c__law_match c_is_ratio c__law_is_ratio
  have c__law_written_right := ok__law_written_right (P := P0) (w := w) (base := base) T D__law_written_right c__law_match c__law_read_right c__law_told
  exact ⟨D_law, ok_law (P := P0) (w := w) (base := base) T D_law c__law_draws c__law_drawn c__law_digits c__law_cell c__law_near c__law_match c__law_sum_right c__law_ratio_right c__law_dot_right c__law_kinds_right c__law_written_right c__law_read_right c_ratio1⟩
end K85
open PySem PySem.W PySem.Calls PyProof.Rows
set_option maxRecDepth 1000000 in
set_option maxHeartbeats 0 in
theorem PySem.Challenge.cw_plansasnewscome_k85_numbers_read_and_wri_holds : PySem.Challenge.rw_plansasnewscome_k85_numbers_read_and_wri.Holds := by
  w_on; o_law
  refine HandSHeadRun.head_imp (r := OpenLaw.row PySem.Challenge.rw_plansasnewscome_k85_numbers_read_and_wri) (q := view (OpenLaw.row PySem.Challenge.rw_plansasnewscome_k85_numbers_read_and_wri).prog [0, 50]) (H := K85.hk0) (ob := K85.ob0) (M := 5000) (loose := K85.loose0) (d := HandSHeadRun.topDef (OpenLaw.row PySem.Challenge.rw_plansasnewscome_k85_numbers_read_and_wri).prog 50) (kwd := []) K85.ob_eq K85.run0
    (by kernel_rfl) (by kernel_rfl) (by kernel_rfl) (by rfl) (by first | assumption | decide +kernel) (by decide +kernel) ⟨rfl, rfl, rfl, rfl, rfl, by decide +kernel⟩ ?hw ?hc
  case hw => w_witness2
  case hc =>
    refine DL.law_of (l := PySem.Challenge.rw_plansasnewscome_k85_numbers_read_and_wri) (k := 9) (st := K85.s_law) (R := K85.R_law) rfl (by kernel_rfl) ⟨rfl, by decide, by decide⟩ (by kernel_rfl) (fun ns _ => ⟨ns, rfl, rfl⟩) (fun _ _ _ _ _ _ us hl => match us, hl with | [_], _ => rfl) ?_
    intro w mg h Y G
    obtain ⟨K, KX, c⟩ := Y
    exact ⟨K, KX, (K85.all0 (w := w) KX G c h).1, fun base _ _ => (K85.all0 (w := w) KX G c base).2⟩
