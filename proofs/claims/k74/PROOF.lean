import PyProof.Rows.All
import Wide.All
import OpenK.AllK
import Wide.FinOn
import HandS.ForMost
import HandS.ForExc
import HandS.CallSlots
import HandS.Walk
import HandS.HotCalls
import HandS.Defaults
import HandS.Wide
import HandS.Gcd
import HandS.IsInst
import HandS.StrMore
import HandS.TupAny
import HandS.Conv
import HandS.Steps
import HandS.ExcInit
import KE.KExcSuper
import HandS.TryMany
import HandS.ExcField
import HandS.ExcInitHot
import KE.KStateDown
import HandS.Ends
import HandS.Head0
import HandS.Head1
import HandS.Head2
import HandS.Head3
import HandS.HeadEnd
import HandS.HeadHook1
import HandS.HeadHook2
import HandS.Dict
import HandS.Property
import HandS.DictComp
import PySem.Challenge.RW_plansasnewscome_k74_hands_hired
set_option Elab.async false
set_option linter.all false
set_option maxRecDepth 100000
set_option maxHeartbeats 2000000
/-! DL1: readings told by plain data (PyData): a frozen heap F inside the heap H; own lists stand apart. -/
namespace DL
open PySem L2

/-! ### frozen part and whole -/
structure Ext (F F' H H' : Hp) : Prop where
  a : Same F F'
  b : Same H H'
  c : Same F' H'
  n : ∀ x, H x ≠ none → F x = none → F' x = none
theorem Ext.refl {F H : Hp} (h : Same F H) : Ext F F H H := ⟨Same.refl _, Same.refl _, h, fun _ _ e => e⟩
theorem Ext.trans {F F1 F2 H H1 H2 : Hp} (p : Ext F F1 H H1) (q : Ext F1 F2 H1 H2) : Ext F F2 H H2 :=
  ⟨p.a.trans q.a, p.b.trans q.b, q.c, fun x hx hf => q.n x (fun z => hx (p.b.free z)) (p.n x hx hf)⟩
theorem same_upd {H H' : Hp} {p : Addr} {o : HO} (e : Same H H') (h : H p = none) : Same H (upd H' p o) := fun b u q => by
  rw [upd_ne (ne_of_none q h)]; exact e b u q
theorem same_upd2 {F H : Hp} {p : Addr} {o : HO} (e : Same F H) : Same (upd F p o) (upd H p o) := fun b u q => by
  by_cases hb : b = p
  · subst hb; rw [upd_same] at q ⊢; exact q
  · rw [upd_ne hb] at q ⊢; exact e b u q
/-- a new object, known at once -/
theorem Ext.new {F H : Hp} {p : Addr} {o : HO} (e : Same F H) (h : H p = none) : Ext F (upd F p o) H (upd H p o) :=
  ⟨same_upd (Same.refl _) (e.free h), same_upd (Same.refl _) h, same_upd2 e, fun x hx hf => by
    rw [upd_ne (fun z => hx (by rw [z]; exact h))]; exact hf⟩
/-- a new object, left aside -/
theorem Ext.side {F H : Hp} {p : Addr} {o : HO} (e : Same F H) (h : H p = none) : Ext F F H (upd H p o) :=
  ⟨Same.refl _, same_upd (Same.refl _) h, same_upd e (e.free h), fun _ _ q => q⟩
/-- an object aside changes, told from a base where it did not stand -/
theorem Ext.mut {F F' H H' : Hp} {p : Addr} {o : HO} (e : Ext F F' H H') (h0 : H p = none) (hf : F' p = none) : Ext F F' H (upd H' p o) :=
  ⟨e.a, same_upd e.b h0, same_upd e.c hf, e.n⟩
/-- an object aside is taken in -/
theorem Ext.freeze {F F' H H' : Hp} {p : Addr} {o : HO} (e : Ext F F' H H') (h0 : H p = none) (hf : F' p = none) (hp : H' p = some o) : Ext F (upd F' p o) H H' := by
  refine ⟨fun b u q => ?_, e.b, fun b u q => ?_, fun x hx hf => ?_⟩
  · rw [upd_ne (ne_of_none (e.a b u q) hf)]; exact e.a b u q
  · by_cases hb : b = p
    · subst hb; rw [upd_same] at q; rw [hp]; exact q
    · rw [upd_ne hb] at q; exact e.c b u q
  · rw [upd_ne (fun z => hx (by rw [z]; exact h0))]; exact e.n x hx hf

/-! ### data: what may lie in a slot, be passed and be returned; instances and dicts as they stand -/
@[reducible] def objD (C : Addr) (fd : List (Str × PyData)) : PyData := .dict ((.none, .int C) :: fd.map fun p => (.str p.1, p.2))
def keyD : Key → PyData
  | .inl i => .int i
  | .inr x => .str x
@[reducible] def dicD (kd : List (Key × PyData)) : PyData := .dict (kd.map fun p => (keyD p.1, p.2))
@[reducible] def clsD (C : Addr) : PyData := .dict [(.none, .none), (.none, .int C)]
@[reducible] def typD (n : String) : PyData := .dict [(.none, .none), (.none, .str n)]
mutual
inductive Dq (K : PySem.W.Frag) (F : Hp) : V → PyData → Prop
  | non : Dq K F .non .none
  | bl (b : Bool) : Dq K F (.bl b) (.bool b)
  | int (i : Int) : Dq K F (.int i) (.int i)
  | str (x : Str) : Dq K F (.str x) (.str x)
  | lst {a : Addr} {xs : List V} {ds : List PyData} : SqL K F a xs → DqAll K F xs ds → Dq K F (.ref a) (.list ds)
  | tup {a : Addr} {xs : List V} {ds : List PyData} : SqT K F a xs → DqAll K F xs ds → Dq K F (.ref a) (.tuple ds)
  | ins {a C dx : Addr} {fv : List (Str × V)} {fd : List (Str × PyData)} : F a = some (.ins C dx fv) → fv.map (·.1) = fd.map (·.1) → DqAll K F (fv.map (·.2)) (fd.map (·.2)) → Dq K F (.ref a) (objD C fd)
  | dic {a : Addr} {kv : List (Key × V)} {kd : List (Key × PyData)} : F a = some (.dK kv) → kv.map (·.1) = kd.map (·.1) → DqAll K F (kv.map (·.2)) (kd.map (·.2)) → Dq K F (.ref a) (dicD kd)
  | cls (C : Addr) : Dq K F (.ref C) (clsD C)
  | ty (n : String) : Dq K F (.ty n) (typD n)
inductive DqAll (K : PySem.W.Frag) (F : Hp) : List V → List PyData → Prop
  | nil : DqAll K F [] []
  | cons {v : V} {vs : List V} {d : PyData} {ds : List PyData} : Dq K F v d → DqAll K F vs ds → DqAll K F (v :: vs) (d :: ds)
end
section
variable {K : PySem.W.Frag}
theorem rd_mono {F F' : Hp} {a : Addr} {u : HO} (e : Same F F') (h : Rd F a u) : Rd F' a u := by
  rcases h with h | ⟨o, h⟩
  · exact .inl (e _ _ h)
  · exact .inr ⟨o, e _ _ h⟩
theorem sqT_mono {F F' : Hp} {a : Addr} {xs : List V} (e : Same F F') (h : SqT K F a xs) : SqT K F' a xs := by
  rcases h with h | h
  · exact .inl (rd_mono e h)
  · exact .inr h
mutual
theorem dq_mono0 {F F' : Hp} (e : Same F F') : ∀ {v : V} {d : PyData}, Dq K F v d → Dq K F' v d
  | _, _, .non => .non
  | _, _, .bl b => .bl b
  | _, _, .int b => .int b
  | _, _, .str b => .str b
  | _, _, .lst hs ha => .lst (e.seq hs) (dqAll_mono0 e ha)
  | _, _, .tup hs ha => .tup (sqT_mono e hs) (dqAll_mono0 e ha)
  | _, _, .ins h n ha => .ins (e _ _ h) n (dqAll_mono0 e ha)
  | _, _, .dic h n ha => .dic (e _ _ h) n (dqAll_mono0 e ha)
  | _, _, .cls C => .cls C
  | _, _, .ty n => .ty n
theorem dqAll_mono0 {F F' : Hp} (e : Same F F') : ∀ {vs : List V} {ds : List PyData}, DqAll K F vs ds → DqAll K F' vs ds
  | _, _, .nil => .nil
  | _, _, .cons h t => .cons (dq_mono0 e h) (dqAll_mono0 e t)
end
theorem dp_mono {F F' : Hp} (e : Same F F') (d : PyData) (v : V) (h : Dq K F v d) : Dq K F' v d := dq_mono0 e h
theorem dpAll_mono {F F' : Hp} (e : Same F F') (ds : List PyData) (vs : List V) (h : DqAll K F vs ds) : DqAll K F' vs ds := dqAll_mono0 e h
theorem map_pair_inj {α β γ : Type} {f : α → γ} (hf : ∀ a b, f a = f b → a = b) : ∀ {l m : List (α × β)}, (l.map fun p => (f p.1, p.2)) = (m.map fun p => (f p.1, p.2)) → l = m
  | [], [], _ => rfl
  | [], _ :: _, h => by cases h
  | _ :: _, [], h => by cases h
  | (a, b) :: l, (c, d) :: m, h => by
    simp only [List.map_cons, List.cons.injEq, Prod.mk.injEq] at h
    obtain ⟨⟨h1, h2⟩, h3⟩ := h
    rw [hf _ _ h1, h2, map_pair_inj hf h3]
theorem keyD_inj (a b : Key) (h : keyD a = keyD b) : a = b := by
  cases a <;> cases b <;> simp [keyD] at h <;> rw [h]
theorem keyD_ne (k : Key) : keyD k ≠ .none := by cases k <;> simp [keyD]
theorem dq_obj {F : Hp} {v : V} {C : Addr} {fd : List (Str × PyData)} (h : Dq K F v (objD C fd)) : ∃ (a dx : Addr) (fv : List (Str × V)), v = .ref a ∧ F a = some (.ins C dx fv) ∧ fv.map (·.1) = fd.map (·.1) ∧ DqAll K F (fv.map (·.2)) (fd.map (·.2)) := by
  generalize hd : objD C fd = d at h
  cases h with
  | @ins a C' dx fv fd' h1 h2 h3 =>
    simp only [objD, PyData.dict.injEq, List.cons.injEq, Prod.mk.injEq, PyData.int.injEq, true_and] at hd
    obtain ⟨e1, e2⟩ := hd
    have e3 := map_pair_inj (fun a b => PyData.str.inj) e2
    subst e3
    have e4 : C = C' := Int.ofNat.inj e1
    subst e4
    exact ⟨a, dx, fv, rfl, h1, h2, h3⟩
  | @dic a kv kd h1 h2 h3 =>
    exfalso
    cases kd with
    | nil => simp [objD, dicD] at hd
    | cons p r =>
      simp only [objD, dicD, List.map_cons, PyData.dict.injEq, List.cons.injEq, Prod.mk.injEq] at hd
      exact keyD_ne _ hd.1.1.symm
  | cls C' => exact absurd hd (by simp [objD, clsD])
  | ty n => exact absurd hd (by simp [objD, typD])
  | _ => cases hd
theorem dq_dic {F : Hp} {v : V} {kd : List (Key × PyData)} (h : Dq K F v (dicD kd)) : ∃ (a : Addr) (kv : List (Key × V)), v = .ref a ∧ F a = some (.dK kv) ∧ kv.map (·.1) = kd.map (·.1) ∧ DqAll K F (kv.map (·.2)) (kd.map (·.2)) := by
  generalize hd : dicD kd = d at h
  cases h with
  | @dic a kv kd' h1 h2 h3 =>
    have e2 := PyData.dict.inj hd
    have e3 := map_pair_inj keyD_inj e2
    subst e3
    exact ⟨a, kv, rfl, h1, h2, h3⟩
  | ins _ _ _ =>
    exfalso
    cases kd with
    | nil => simp [objD, dicD] at hd
    | cons p r =>
      simp only [objD, dicD, List.map_cons, PyData.dict.injEq, List.cons.injEq, Prod.mk.injEq] at hd
      exact keyD_ne _ hd.1.1
  | cls C' =>
    exfalso
    cases kd with
    | nil => simp [clsD, dicD] at hd
    | cons p r =>
      simp only [clsD, dicD, List.map_cons, PyData.dict.injEq, List.cons.injEq, Prod.mk.injEq] at hd
      exact keyD_ne _ hd.1.1
  | ty C' =>
    exfalso
    cases kd with
    | nil => simp [typD, dicD] at hd
    | cons p r =>
      simp only [typD, dicD, List.map_cons, PyData.dict.injEq, List.cons.injEq, Prod.mk.injEq] at hd
      exact keyD_ne _ hd.1.1
  | _ => cases hd
mutual
theorem dq_down {F : Hp} : ∀ {v : V} {d : PyData}, Dq K F v d → d.canLay0 = true → Dp K F v d
  | _, _, .non, _ => .non
  | _, _, .bl b, _ => .bl b
  | _, _, .int b, _ => .int b
  | _, _, .str b, _ => .str b
  | _, _, .lst hs ha, h => .lst hs (dqAll_down ha (by simpa [PyData.canLay0] using h))
  | _, _, .tup hs ha, h => .tup hs (dqAll_down ha (by simpa [PyData.canLay0] using h))
  | _, _, .ins _ _ _, h => by simp [PyData.canLay0] at h
  | _, _, .dic _ _ _, h => by simp [PyData.canLay0] at h
  | _, _, .cls C, h => by simp [PyData.canLay0] at h
  | _, _, .ty n, h => by simp [PyData.canLay0] at h
theorem dqAll_down {F : Hp} : ∀ {vs : List V} {ds : List PyData}, DqAll K F vs ds → PyData.canLayAll0 ds = true → DpAll K F vs ds
  | _, _, .nil, _ => .nil
  | _, _, .cons h t, q => .cons (dq_down h (by simp [PyData.canLayAll0] at q; exact q.1)) (dqAll_down t (by simp [PyData.canLayAll0] at q; exact q.2))
end
theorem dpa_len {F : Hp} : ∀ {vs : List V} {ds : List PyData}, DqAll K F vs ds → vs.length = ds.length
  | _, _, .nil => rfl
  | _, _, .cons _ t => by rw [List.length_cons, List.length_cons, dpa_len t]
theorem dpa_get {F : Hp} : ∀ {vs : List V} {ds : List PyData} {i : Nat} {d : PyData}, DqAll K F vs ds → ds[i]? = some d → ∃ v, vs[i]? = some v ∧ Dq K F v d
  | _, _, i, d, .nil, h => by simp at h
  | _, _, 0, d, .cons h t, e => by simp at e; subst e; exact ⟨_, rfl, h⟩
  | _, _, i + 1, d, .cons h t, e => by
    obtain ⟨v, e1, e2⟩ := dpa_get (i := i) t (by simpa using e)
    exact ⟨v, by simpa using e1, e2⟩
theorem dpa_getV {F : Hp} {vs : List V} {ds : List PyData} {i : Nat} {v : V} (h : DqAll K F vs ds) (e : vs[i]? = some v) : ∃ d, ds[i]? = some d ∧ Dq K F v d := by
  have hl := dpa_len h
  have hi := (List.getElem?_eq_some_iff.mp e).1
  have hd : ds[i]? = some (ds[i]'(by omega)) := List.getElem?_eq_getElem (by omega)
  obtain ⟨v', e1, e2⟩ := dpa_get h hd
  rw [e] at e1; cases e1
  exact ⟨_, hd, e2⟩
theorem dpa_append {F : Hp} : ∀ {vs ws : List V} {ds es : List PyData}, DqAll K F vs ds → DqAll K F ws es → DqAll K F (vs ++ ws) (ds ++ es)
  | _, _, _, _, .nil, s => s
  | _, _, _, _, .cons h t, s => .cons h (dpa_append t s)
theorem dpa_take {F : Hp} : ∀ {vs : List V} {ds : List PyData} (n : Nat), DqAll K F vs ds → DqAll K F (vs.take n) (ds.take n)
  | _, _, 0, _ => .nil
  | _, _, _ + 1, .nil => .nil
  | _, _, n + 1, .cons h t => .cons h (dpa_take n t)
theorem dpa_drop {F : Hp} : ∀ {vs : List V} {ds : List PyData} (n : Nat), DqAll K F vs ds → DqAll K F (vs.drop n) (ds.drop n)
  | _, _, 0, h => h
  | _, _, _ + 1, .nil => .nil
  | _, _, n + 1, .cons h t => dpa_drop n t
theorem dpa_set {F : Hp} {v : V} {d : PyData} (h : Dq K F v d) : ∀ {vs : List V} {ds : List PyData} (n : Nat), DqAll K F vs ds → DqAll K F (vs.set n v) (ds.set n d)
  | _, _, _, .nil => .nil
  | _, _, 0, .cons _ t => .cons h t
  | _, _, n + 1, .cons q t => .cons q (dpa_set h n t)
/-- lists that hold ints alone, texts alone -/
theorem dpAll_ints {F : Hp} : ∀ {vs : List V} {ns : List Int}, DqAll K F vs (ns.map PyData.int) → vs = ns.map V.int
  | vs, [], h => by cases h; rfl
  | vs, n :: ns, h => by
    cases h with
    | cons h1 h2 =>
      cases h1
      rw [dpAll_ints h2]; rfl
theorem dpAll_strs {F : Hp} : ∀ {vs : List V} {ns : List Str}, DqAll K F vs (ns.map PyData.str) → vs = ns.map V.str
  | vs, [], h => by cases h; rfl
  | vs, n :: ns, h => by
    cases h with
    | cons h1 h2 =>
      cases h1
      rw [dpAll_strs h2]; rfl
theorem ints_dpAll {F : Hp} : ∀ (ns : List Int), DqAll K F (ns.map V.int) (ns.map PyData.int)
  | [] => .nil
  | n :: ns => .cons (.int n) (ints_dpAll ns)
theorem strs_dpAll {F : Hp} : ∀ (ns : List Str), DqAll K F (ns.map V.str) (ns.map PyData.str)
  | [] => .nil
  | n :: ns => .cons (.str n) (strs_dpAll ns)
end

/-! ### slots -/
/-- a thing of its own: what is true of it (written part, known heap, heap, value, its cells) -/
structure Own where
  pred : PySem.W.Frag → Hp → Hp → V → List Addr → Prop
  mono : ∀ {K : PySem.W.Frag} {F F' H H' : Hp} {v : V} {fp : List Addr}, pred K F H v fp → Same F F' → (∀ a ∈ fp, H' a = H a) → pred K F' H' v fp
  live : ∀ {K : PySem.W.Frag} {F H : Hp} {v : V} {fp : List Addr}, pred K F H v fp → ∀ a ∈ fp, ∃ o, H a = some o ∧ ∀ fs, o ≠ .xd fs
/-- a list of its own -/
def ownL (l : List PyData) : Own where
  pred K F H v fp := ∃ (p : Addr) (vs : List V), v = .ref p ∧ fp = [p] ∧ H p = some (.lst vs) ∧ DqAll K F vs l
  mono := fun {K F F' H H' v fp} ⟨p, vs, h1, h2, h3, h4⟩ e k => ⟨p, vs, h1, h2, by rw [k p (by rw [h2]; exact List.mem_cons_self)]; exact h3, dqAll_mono0 e h4⟩
  live := fun {K F H v fp} ⟨p, vs, h1, h2, h3, h4⟩ a ha => by
    rw [h2, List.mem_singleton] at ha
    exact ⟨.lst vs, by rw [ha]; exact h3, fun fs z => by cases z⟩
inductive Sl where
  | no | val (d : PyData) | gen (o : Own) | exc (v : V) (a : Addr) (fs : List (Str × PyData))
abbrev Sl.own (l : List PyData) : Sl := .gen (ownL l)
abbrev Dn := List Sl
def SlotR (K : PySem.W.Frag) (H0 F H : Hp) (x : Option (Option V)) : Sl → List Addr → Prop
  | .no, fp => fp = []
  | .val d, fp => fp = [] ∧ ∃ v, x = some (some v) ∧ Dq K F v d
  | .gen o, fp => (∀ a ∈ fp, F a = none ∧ H0 a = none) ∧ ∃ v, x = some (some v) ∧ o.pred K F H v fp
  | .exc v a fs, fp => fp = [] ∧ x = some (some v) ∧ ∃ vs : List V, H a = some (HO.xd ((fs.map (·.1)).zip vs)) ∧ DqAll K F vs (fs.map (·.2))
structure EnvR (K : PySem.W.Frag) (H0 F H : Hp) (σ : L2.St) (δ : Dn) : Prop where
  len : σ.length = δ.length
  ex : ∃ fps : Nat → List Addr, (∀ (i : Nat) (s : Sl), δ[i]? = some s → SlotR K H0 F H σ[i]? s (fps i)) ∧ (∀ i, δ[i]? = none → fps i = []) ∧ ∀ i j, i ≠ j → ∀ a ∈ fps i, a ∉ fps j
section
variable {K : PySem.W.Frag} {H0 F F' H H' : Hp} {σ : L2.St} {δ : Dn}
theorem SlotR.keep {x : Option (Option V)} {s : Sl} {fp : List Addr} (h : SlotR K H0 F H x s fp) (e : Same F F') (k : ∀ a o, H a = some o → (a ∈ fp ∨ ∃ fs, o = .xd fs) → H' a = some o) (n : ∀ a ∈ fp, F' a = none) : SlotR K H0 F' H' x s fp := by
  cases s with
  | no => exact h
  | val d =>
    obtain ⟨h1, v, h2, h3⟩ := h
    exact ⟨h1, v, h2, dq_mono0 e h3⟩
  | gen o =>
    obtain ⟨h1, v, h2, h3⟩ := h
    refine ⟨fun a ha => ⟨n a ha, (h1 a ha).2⟩, v, h2, o.mono h3 e fun a ha => ?_⟩
    obtain ⟨u, hu, _⟩ := o.live h3 a ha
    rw [hu, k a u hu (.inl ha)]
  | exc v a fs =>
    obtain ⟨h1, h2, vs, h3, h4⟩ := h
    exact ⟨h1, h2, vs, k a _ h3 (.inr ⟨_, rfl⟩), dqAll_mono0 e h4⟩
/-- its cells stand, and are no error's dict -/
theorem SlotR.live {x : Option (Option V)} {s : Sl} {fp : List Addr} (h : SlotR K H0 F H x s fp) : ∀ a ∈ fp, (∃ o, H a = some o ∧ ∀ fs, o ≠ .xd fs) ∧ F a = none ∧ H0 a = none := by
  cases s with
  | no => rw [show fp = [] from h]; intro a ha; cases ha
  | val d => rw [h.1]; intro a ha; cases ha
  | gen o =>
    obtain ⟨h1, v, h2, h3⟩ := h
    exact fun a ha => ⟨o.live h3 a ha, h1 a ha⟩
  | exc v a fs => rw [h.1]; intro a ha; cases ha
theorem SlotR.at {x y : Option (Option V)} {s : Sl} {fp : List Addr} (h : SlotR K H0 F H x s fp) (e : x = y) : SlotR K H0 F H y s fp := e ▸ h
theorem EnvR.live {fps : Nat → List Addr} (E : ∀ (i : Nat) (s : Sl), δ[i]? = some s → SlotR K H0 F H σ[i]? s (fps i)) (N : ∀ i, δ[i]? = none → fps i = []) (i : Nat) (a : Addr) (ha : a ∈ fps i) : (∃ o, H a = some o ∧ ∀ fs, o ≠ .xd fs) ∧ F a = none ∧ H0 a = none := by
  cases e : δ[i]? with
  | none => rw [N i e] at ha; cases ha
  | some s => exact (E i s e).live a ha
theorem EnvR.mono (E : EnvR K H0 F H σ δ) (e : Ext F F' H H') : EnvR K H0 F' H' σ δ := by
  obtain ⟨fps, h1, h2, h3⟩ := E.ex
  refine ⟨E.len, fps, fun i s hs => (h1 i s hs).keep e.a (fun a o h _ => e.b a o h) fun a ha => ?_, h2, h3⟩
  obtain ⟨⟨o, ho, _⟩, hf, _⟩ := (h1 i s hs).live a ha
  exact e.n a (by rw [ho]; exact fun z => nomatch z) hf
theorem EnvR.lt (E : EnvR K H0 F H σ δ) {i : Nat} {s : Sl} (h : δ[i]? = some s) : i < σ.length := by
  rw [E.len]; exact (List.getElem?_eq_some_iff.mp h).1
theorem EnvR.val (E : EnvR K H0 F H σ δ) (i : Nat) (d : PyData) (h : δ[i]? = some (Sl.val d)) : ∃ v, σ[i]? = some (some v) ∧ Dq K F v d := by
  obtain ⟨fps, h1, _⟩ := E.ex
  obtain ⟨_, v, h2, h3⟩ := h1 i _ h
  exact ⟨v, h2, h3⟩
theorem EnvR.exc (E : EnvR K H0 F H σ δ) (i : Nat) (v : V) (a : Addr) (fs : List (Str × PyData)) (h : δ[i]? = some (Sl.exc v a fs)) : σ[i]? = some (some v) ∧ ∃ vs : List V, H a = some (HO.xd ((fs.map (·.1)).zip vs)) ∧ DqAll K F vs (fs.map (·.2)) := by
  obtain ⟨fps, h1, _⟩ := E.ex
  exact (h1 i _ h).2
theorem set_get {α : Type} {l : List α} {i j : Nat} {x y : α} (h : (l.set i x)[j]? = some y) : (i = j ∧ y = x) ∨ (i ≠ j ∧ l[j]? = some y) := by
  by_cases e : i = j
  · subst e
    have hl : i < l.length := by
      have := (List.getElem?_eq_some_iff.mp h).1
      simpa using this
    rw [List.getElem?_set_self hl] at h
    cases h
    exact .inl ⟨rfl, rfl⟩
  · rw [List.getElem?_set_ne e] at h
    exact .inr ⟨e, h⟩
def fpSet (fps : Nat → List Addr) (i : Nat) (fp : List Addr) : Nat → List Addr := fun j => if j = i then fp else fps j
theorem fpSet_same {fps : Nat → List Addr} {i : Nat} {fp : List Addr} : fpSet fps i fp i = fp := if_pos rfl
theorem fpSet_ne {fps : Nat → List Addr} {i j : Nat} {fp : List Addr} (h : i ≠ j) : fpSet fps i fp j = fps j := if_neg fun z => h z.symm
/-- the common step: slot i gets s with the cells fp; the other slots' cells stand -/
theorem EnvR.step {fps : Nat → List Addr} (len : σ.length = δ.length) (h1 : ∀ (i : Nat) (s : Sl), δ[i]? = some s → SlotR K H0 F H σ[i]? s (fps i)) (h2 : ∀ i, δ[i]? = none → fps i = []) (h3 : ∀ i j, i ≠ j → ∀ a ∈ fps i, a ∉ fps j)
    {i : Nat} {s : Sl} {fp : List Addr} {σ' : L2.St} (hσ : σ'.length = σ.length) (hne : ∀ j, i ≠ j → σ'[j]? = σ[j]?) (e : Same F F') (k : ∀ a o, H a = some o → a ∉ fps i → H' a = some o)
    (n : ∀ a, F' a ≠ none → F a = none → a ∈ fps i ∨ H a = none) (hfp : ∀ a ∈ fp, a ∈ fps i ∨ H a = none) (hs : i < δ.length → SlotR K H0 F' H' σ'[i]? s fp) : EnvR K H0 F' H' σ' (δ.set i s) := by
  have lv := EnvR.live h1 h2
  refine ⟨by rw [hσ, List.length_set]; exact len, fpSet fps i (if i < δ.length then fp else []), fun j u hj => ?_, fun j hj => ?_, fun a b hab x hx => ?_⟩
  · rcases set_get hj with ⟨rfl, eq⟩ | ⟨ne, hj'⟩
    · subst eq
      have hl : i < δ.length := by
        have := (List.getElem?_eq_some_iff.mp hj).1
        simpa using this
      rw [fpSet_same, if_pos hl]
      exact hs hl
    · rw [fpSet_ne ne, hne j ne]
      refine (h1 j u hj').keep e (fun a o ho hor => k a o ho fun hai => ?_) fun a ha => ?_
      · rcases hor with hor | ⟨fs, hor⟩
        · exact h3 i j ne a hai hor
        · obtain ⟨⟨o', ho', hx⟩, _⟩ := lv i a hai
          rw [ho] at ho'
          cases ho'
          exact hx fs hor
      · obtain ⟨⟨o, ho, _⟩, hf, _⟩ := lv j a ha
        cases hF : F' a with
        | none => rfl
        | some u =>
          rcases n a (by rw [hF]; exact fun z => nomatch z) hf with q | q
          · exact absurd ha (h3 i j ne a q)
          · rw [ho] at q; cases q
  · by_cases ij : i = j
    · subst ij
      rw [fpSet_same, if_neg]
      intro hl
      rw [List.getElem?_set_self hl] at hj
      cases hj
    · rw [fpSet_ne ij]
      rw [List.getElem?_set_ne ij] at hj
      exact h2 j hj
  · have old : ∀ c, i ≠ c → ∀ y, y ∈ fpSet fps i (if i < δ.length then fp else []) i → y ∉ fps c := fun c hc y hy hyc => by
      rw [fpSet_same] at hy
      have hy' : y ∈ fp := by
        split at hy
        · exact hy
        · cases hy
      rcases hfp y hy' with q | q
      · exact h3 i c hc y q hyc
      · obtain ⟨⟨o, ho, _⟩, _⟩ := lv c y hyc
        rw [ho] at q; cases q
    by_cases ia : i = a
    · subst ia
      rw [fpSet_ne hab]
      exact old b hab x hx
    · rw [fpSet_ne ia] at hx
      by_cases ib : i = b
      · subst ib
        intro hxi
        exact old a ia x hxi hx
      · rw [fpSet_ne ib]
        exact h3 a b hab x hx
theorem set_len (σ : L2.St) (i : Nat) (v : Option V) : (σ.set i v).length = σ.length := List.length_set
theorem set_oth (σ : L2.St) (i : Nat) (v : Option V) : ∀ j, i ≠ j → (σ.set i v)[j]? = σ[j]? := fun j h => List.getElem?_set_ne h
/-- a slot gets a known value -/
theorem EnvR.setV (E : EnvR K H0 F H σ δ) {i : Nat} {v : V} {d : PyData} (h : Dq K F v d) : EnvR K H0 F H (σ.set i (some v)) (δ.set i (Sl.val d)) := by
  obtain ⟨fps, h1, h2, h3⟩ := E.ex
  exact EnvR.step E.len h1 h2 h3 (fp := []) (set_len _ _ _) (set_oth _ _ _) (Same.refl _) (fun a o ho _ => ho) (fun a h1 h2 => absurd h2 h1) (fun a ha => by cases ha) fun hl => ⟨rfl, v, List.getElem?_set_self (by rw [E.len]; exact hl), h⟩
/-- a slot gets a new thing of its own -/
theorem EnvR.setG (E : EnvR K H0 F H σ δ) {i : Nat} {v : V} {o : Own} {fp : List Addr} (hs : Same H H') (hn : ∀ a ∈ fp, H a = none ∧ F a = none ∧ H0 a = none) (h : o.pred K F H' v fp) :
    EnvR K H0 F H' (σ.set i (some v)) (δ.set i (Sl.gen o)) := by
  obtain ⟨fps, h1, h2, h3⟩ := E.ex
  exact EnvR.step E.len h1 h2 h3 (fp := fp) (set_len _ _ _) (set_oth _ _ _) (Same.refl _) (fun a o ho _ => hs a o ho) (fun a h1 h2 => absurd h2 h1) (fun a ha => .inr (hn a ha).1) fun hl => ⟨fun a ha => (hn a ha).2, v, List.getElem?_set_self (by rw [E.len]; exact hl), h⟩
/-- what is known of a thing of its own; what may become of it: changed, taken into the known part -/
theorem EnvR.at_ (E : EnvR K H0 F H σ δ) {i : Nat} {o : Own} (hi : δ[i]? = some (Sl.gen o)) : ∃ (v : V) (fp : List Addr), σ[i]? = some (some v) ∧ o.pred K F H v fp ∧ (∀ a ∈ fp, F a = none ∧ H0 a = none) ∧
    (∀ (H' : Hp) (o' : Own) (fp' : List Addr), (∀ a u, H a = some u → a ∉ fp → H' a = some u) → o'.pred K F H' v fp' → (∀ a ∈ fp', a ∈ fp ∨ (H a = none ∧ F a = none ∧ H0 a = none)) → EnvR K H0 F H' σ (δ.set i (Sl.gen o'))) ∧
    ∀ (F' : Hp) (d : PyData), Same F F' → (∀ a, F' a ≠ none → F a = none → a ∈ fp) → Dq K F' v d → EnvR K H0 F' H σ (δ.set i (Sl.val d)) := by
  obtain ⟨fps, h1, h2, h3⟩ := E.ex
  obtain ⟨q1, v, q2, q3⟩ := h1 i _ hi
  refine ⟨v, fps i, q2, q3, q1, fun H' o' fp' k p n => ?_, fun F' d e n hd => ?_⟩
  · refine EnvR.step E.len h1 h2 h3 (fp := fp') rfl (fun _ _ => rfl) (Same.refl _) (fun a u ho ha => k a u ho ha) (fun a h1 h2 => absurd h2 h1) (fun a ha => ?_) fun _ => ⟨fun a ha => ?_, v, q2, p⟩
    · rcases n a ha with q | q
      · exact .inl q
      · exact .inr q.1
    · rcases n a ha with q | q
      · exact q1 a q
      · exact q.2
  · exact EnvR.step E.len h1 h2 h3 (fp := []) rfl (fun _ _ => rfl) e (fun a o ho _ => ho) (fun a h1 h2 => .inl (n a h1 h2)) (fun a ha => by cases ha) fun _ => ⟨rfl, v, q2, hd⟩
theorem EnvR.own (E : EnvR K H0 F H σ δ) (i : Nat) (l : List PyData) (h : δ[i]? = some (Sl.own l)) : ∃ (p : Addr) (vs : List V), σ[i]? = some (some (V.ref p)) ∧ H p = some (HO.lst vs) ∧ F p = none ∧ H0 p = none ∧ DqAll K F vs l := by
  obtain ⟨v, fp, h1, ⟨p, vs, rfl, rfl, h3, h4⟩, h5, _⟩ := E.at_ h
  have h6 := h5 p List.mem_cons_self
  exact ⟨p, vs, h1, h3, h6.1, h6.2, h4⟩
/-- a slot gets a new list of its own -/
theorem EnvR.setO (E : EnvR K H0 F H σ δ) {i : Nat} {p : Addr} {vs : List V} {l : List PyData} (hp : H p = none) (h0 : H0 p = none) (hf : F p = none) (h : DqAll K F vs l) :
    EnvR K H0 F (upd H p (HO.lst vs)) (σ.set i (some (V.ref p))) (δ.set i (Sl.own l)) :=
  E.setG (fp := [p]) (same_upd (Same.refl _) hp) (fun a ha => by rw [List.mem_singleton.mp ha]; exact ⟨hp, hf, h0⟩) ⟨p, vs, rfl, rfl, upd_same, h⟩
/-- an own list is changed -/
theorem EnvR.chg (E : EnvR K H0 F H σ δ) {i : Nat} {p : Addr} {l l' : List PyData} {vs' : List V} (hi : δ[i]? = some (Sl.own l)) (hp : σ[i]? = some (some (V.ref p))) (h : DqAll K F vs' l') :
    EnvR K H0 F (upd H p (HO.lst vs')) σ (δ.set i (Sl.own l')) := by
  obtain ⟨v, fp, h1, ⟨p', vs, rfl, rfl, h3, h4⟩, h5, h6, _⟩ := E.at_ hi
  rw [hp] at h1
  cases h1
  exact h6 _ (ownL l') [p] (fun a u ha hn => by rw [upd_ne (fun z => hn (by rw [z]; exact List.mem_cons_self))]; exact ha) ⟨p, vs', rfl, rfl, upd_same, h⟩ fun a ha => .inl ha
/-- an own list is taken into the frozen part -/
theorem EnvR.frz (E : EnvR K H0 F H σ δ) {i : Nat} {l : List PyData} (hi : δ[i]? = some (Sl.own l)) {F0 : Hp} (x : Ext F0 F H0 H) :
    ∃ F', Ext F0 F' H0 H ∧ Same F F' ∧ EnvR K H0 F' H σ (δ.set i (Sl.val (.list l))) := by
  obtain ⟨v, fp, h1, ⟨p, vs, rfl, rfl, h3, h4⟩, h5, _, h7⟩ := E.at_ hi
  obtain ⟨hf, h0⟩ := h5 p List.mem_cons_self
  have sF : Same F (upd F p (HO.lst vs)) := same_upd (Same.refl _) hf
  refine ⟨upd F p (HO.lst vs), x.freeze h0 hf h3, sF, h7 _ _ sF (fun a ha hn => ?_) (.lst (SqL.of upd_same) (dqAll_mono0 sF h4))⟩
  by_cases e : a = p
  · rw [e]; exact List.mem_cons_self
  · rw [upd_ne e] at ha; exact absurd hn ha
/-- a slot is forgotten -/
theorem EnvR.drop (E : EnvR K H0 F H σ δ) (i : Nat) : EnvR K H0 F H σ (δ.set i Sl.no) := by
  obtain ⟨fps, h1, h2, h3⟩ := E.ex
  exact EnvR.step E.len h1 h2 h3 (fp := []) rfl (fun _ _ => rfl) (Same.refl _) (fun a o ho _ => ho) (fun a h1 h2 => absurd h2 h1) (fun a ha => by cases ha) fun hl => rfl
/-- δ' knows less than δ -/
def Less (δ' δ : Dn) : Prop := δ'.length = δ.length ∧ ∀ (i : Nat) (s : Sl), δ'[i]? = some s → s = Sl.no ∨ δ[i]? = some s
theorem Less.refl (δ : Dn) : Less δ δ := ⟨rfl, fun _ _ h => .inr h⟩
def fpLess (fps : Nat → List Addr) (δ' : Dn) (i : Nat) : List Addr := match δ'[i]? with
  | some Sl.no => []
  | some _ => fps i
  | none => []
theorem EnvR.less {δ' : Dn} (E : EnvR K H0 F H σ δ) (h : Less δ' δ) : EnvR K H0 F H σ δ' := by
  obtain ⟨fps, h1, h2, h3⟩ := E.ex
  refine ⟨by rw [h.1]; exact E.len, fpLess fps δ', fun i s hs => ?_, fun i hi => ?_, fun i j hij a ha => ?_⟩
  · unfold fpLess
    rw [hs]
    rcases h.2 i s hs with e | e
    · subst e; rfl
    · have q := h1 i s e
      cases s with
      | no => rfl
      | val d => exact q
      | gen o => exact q
      | exc _ _ _ => exact q
  · unfold fpLess; rw [hi]
  · have sub : ∀ k b, b ∈ fpLess fps δ' k → b ∈ fps k := by
      intro k b hb
      unfold fpLess at hb
      split at hb
      · cases hb
      · exact hb
      · cases hb
    exact fun hb => h3 i j hij a (sub i a ha) (sub j a hb)
/-- some slots lose their value (a comprehension's own names) -/
theorem EnvR.wipe1 (E : EnvR K H0 F H σ δ) (i : Nat) : EnvR K H0 F H (σ.set i none) (δ.set i Sl.no) := by
  obtain ⟨fps, h1, h2, h3⟩ := E.ex
  exact EnvR.step E.len h1 h2 h3 (fp := []) (set_len _ _ _) (set_oth _ _ _) (Same.refl _) (fun a o ho _ => ho) (fun a h1 h2 => absurd h2 h1) (fun a ha => by cases ha) fun hl => rfl
def wipeD (δ : Dn) : List Nat → Dn
  | [] => δ
  | v :: vs => (wipeD δ vs).set v Sl.no
theorem EnvR.wipes (E : EnvR K H0 F H σ δ) : ∀ vs : List Nat, EnvR K H0 F H (wipe σ vs) (wipeD δ vs)
  | [] => E
  | v :: vs => (EnvR.wipes E vs).wipe1 v
/-- at the entry -/
theorem EnvR.start {N : List Str} {vs : List V} {ds : List PyData} (h : DqAll K F vs ds) (hn : ds.length ≤ N.length) :
    EnvR K H0 F H (L2.start N vs) (ds.map Sl.val ++ List.replicate (N.length - ds.length) Sl.no) := by
  have hl := dpa_len h
  refine ⟨?_, fun _ => [], fun i s hi => ?_, fun _ _ => rfl, fun _ _ _ a ha => by cases ha⟩
  · unfold L2.start; simp only [List.length_append, List.length_map, List.length_replicate]; omega
  · unfold L2.start
    by_cases hlt : i < ds.length
    · rw [List.getElem?_append_left (by simpa using hlt), List.getElem?_map] at hi
      cases e : ds[i]? with
      | none => rw [e] at hi; cases hi
      | some d' =>
        rw [e] at hi; cases hi
        obtain ⟨v, g1, g2⟩ := dpa_get h e
        exact ⟨rfl, v, by rw [List.getElem?_append_left (by simp; omega), List.getElem?_map, g1]; rfl, g2⟩
    · rw [List.getElem?_append_right (by simpa using hlt), List.getElem?_replicate] at hi
      split at hi
      · cases hi; rfl
      · cases hi
/-- a slot gets the caught error -/
theorem EnvR.setX (E : EnvR K H0 F H σ δ) {i : Nat} {v : V} {b : Addr} {us : List V} {fx : List (Str × PyData)} (hb : H b = some (HO.xd ((fx.map (·.1)).zip us))) (hd : DqAll K F us (fx.map (·.2))) :
    EnvR K H0 F H (σ.set i (some v)) (δ.set i (Sl.exc v b fx)) := by
  obtain ⟨fps, h1, h2, h3⟩ := E.ex
  exact EnvR.step E.len h1 h2 h3 (fp := []) (set_len _ _ _) (set_oth _ _ _) (Same.refl _) (fun a o ho _ => ho) (fun a h1 h2 => absurd h2 h1) (fun a ha => by cases ha) fun hl => ⟨rfl, List.getElem?_set_self (by rw [E.len]; exact hl), us, hb, hd⟩
end
end DL
set_option Elab.async false
set_option linter.all false
set_option maxRecDepth 100000
set_option maxHeartbeats 2000000
/-! DL2: what an expression, a test, a statement answers of data. -/
namespace DL
open PySem L2

/-- an error: its class, its fields -/
structure Exn where
  c : Addr
  fs : List (Str × PyData)
abbrev Res (α : Type) := Except Exn α
def XAt (K : PySem.W.Frag) (F H : Hp) (x : Exn) (cls : Value) (d : Option Addr) : Prop :=
  cls = .ref x.c ∧ ∃ (a : Addr) (vs : List V), d = some a ∧ H a = some (HO.xd ((x.fs.map (·.1)).zip vs)) ∧ DqAll K F vs (x.fs.map (·.2))
theorem XAt.mono {K : PySem.W.Frag} {F F' H H' : Hp} {x : Exn} {cls : Value} {d : Option Addr} (h : XAt K F H x cls d) (e : Ext F F' H H') : XAt K F' H' x cls d := by
  obtain ⟨h1, a, vs, h2, h3, h4⟩ := h
  exact ⟨h1, a, vs, h2, e.b _ _ h3, dpAll_mono e.a _ _ h4⟩

def EndV (K : PySem.W.Frag) (W : WX) (F H : Hp) (σ : L2.St) (Q : VK) : Res PyData → Prop
  | .ok d => ∀ v F' H', Ext F F' H H' → Dq K F' v d → Q v H'
  | .error x => ∀ cls d F' H', Ext F F' H H' → XAt K F' H' x cls d → W cls d σ H'
def EndA (K : PySem.W.Frag) (W : WX) (F H : Hp) (σ : L2.St) (Q : List V → Hp → Prop) : Res (List PyData) → Prop
  | .ok ds => ∀ vs F' H', Ext F F' H H' → DqAll K F' vs ds → Q vs H'
  | .error x => ∀ cls d F' H', Ext F F' H H' → XAt K F' H' x cls d → W cls d σ H'
def EndT (K : PySem.W.Frag) (W : WX) (F H : Hp) (σ : L2.St) (Q : Bool → Hp → Prop) : Res Bool → Prop
  | .ok b => ∀ F' H', Ext F F' H H' → Q b H'
  | .error x => ∀ cls d F' H', Ext F F' H H' → XAt K F' H' x cls d → W cls d σ H'

/-- te, from slots that bear δ, answers r -/
def EvD (K : PySem.W.Frag) (W : WX) (te : TE) (δ : Dn) (r : Res PyData) : Prop :=
  ∀ (H0 F H : Hp) (σ : L2.St) (Q : VK), Same F H → EnvR K H0 F H σ δ → EndV K W F H σ Q r → te σ H Q
def EvA (K : PySem.W.Frag) (W : WX) (ta : TA) (δ : Dn) (r : Res (List PyData)) : Prop :=
  ∀ (H0 F H : Hp) (σ : L2.St) (Q : List V → Hp → Prop), Same F H → EnvR K H0 F H σ δ → EndA K W F H σ Q r → ta σ H Q
def EvT (K : PySem.W.Frag) (W : WX) (tt : TT) (δ : Dn) (r : Res Bool) : Prop :=
  ∀ (H0 F H : Hp) (σ : L2.St) (Q : Bool → Hp → Prop), Same F H → EnvR K H0 F H σ δ → EndT K W F H σ Q r → tt σ H Q

/-- what follows, as an operation on data -/
def RD (K : PySem.W.Frag) (r : R2) (x y z : PyData) : Prop :=
  ∀ (F H : Hp) (u v : V) (Q : VK), Same F H → Dq K F u x → Dq K F v y → (∀ w F' H', Ext F F' H H' → Dq K F' w z → Q w H') → r u v H Q
def RU1 (K : PySem.W.Frag) (r : V → Hp → VK → Prop) (x z : PyData) : Prop :=
  ∀ (F H : Hp) (u : V) (Q : VK), Same F H → Dq K F u x → (∀ w F' H', Ext F F' H H' → Dq K F' w z → Q w H') → r u H Q
def RC (K : PySem.W.Frag) (r : List V → Hp → VK → Prop) (xs : List PyData) (z : PyData) : Prop :=
  ∀ (F H : Hp) (us : List V) (Q : VK), Same F H → DqAll K F us xs → (∀ w F' H', Ext F F' H H' → Dq K F' w z → Q w H') → r us H Q

section
variable {K : PySem.W.Frag} {W : WX} {δ : Dn} {ta tb te tc : TE} {t u : TT} {x y z d : PyData} {r : R2} {e : Exn}
theorem ev_var {i : Nat} (h : δ[i]? = some (Sl.val d)) : EvD K W (tVar i) δ (.ok d) := fun H0 F H σ Q s E q => by
  obtain ⟨v, h1, h2⟩ := E.val i d h
  exact ⟨v, h1, q v F H (Ext.refl s) h2⟩
theorem ev_int {i : Int} : EvD K W (tC (.int i)) δ (.ok (.int i)) := fun H0 F H σ Q s E q => q _ F H (Ext.refl s) (.int i)
theorem ev_str {i : Str} : EvD K W (tC (.str i)) δ (.ok (.str i)) := fun H0 F H σ Q s E q => q _ F H (Ext.refl s) (.str i)
theorem ev_bl {b : Bool} : EvD K W (tC (.bl b)) δ (.ok (.bool b)) := fun H0 F H σ Q s E q => q _ F H (Ext.refl s) (.bl b)
theorem ev_non : EvD K W (tC .non) δ (.ok .none) := fun H0 F H σ Q s E q => q _ F H (Ext.refl s) .non
/-- a constant of the module: a tuple of the written part -/
theorem ev_glob {v : V} (h : ∀ F : Hp, Dq K F v d) : EvD K W (tC v) δ (.ok d) := fun H0 F H σ Q s E q => q _ F H (Ext.refl s) (h F)
theorem ev_op (ha : EvD K W ta δ (.ok x)) (hb : EvD K W tb δ (.ok y)) (hr : RD K r x y z) : EvD K W (tOp r ta tb) δ (.ok z) := fun H0 F H σ Q s E q =>
  ha H0 F H σ _ s E fun v F1 H1 e1 d1 => hb H0 F1 H1 σ _ e1.c (E.mono e1) fun w F2 H2 e2 d2 =>
    hr F2 H2 v w Q e2.c (dp_mono e2.a _ _ d1) d2 fun w F3 H3 e3 d3 => q w F3 H3 ((e1.trans e2).trans e3) d3
theorem ev_opX1 (ha : EvD K W ta δ (.error e)) : EvD K W (tOp r ta tb) δ (.error e) := fun H0 F H σ Q s E q => ha H0 F H σ _ s E q
theorem ev_opX2 (ha : EvD K W ta δ (.ok x)) (hb : EvD K W tb δ (.error e)) : EvD K W (tOp r ta tb) δ (.error e) := fun H0 F H σ Q s E q =>
  ha H0 F H σ _ s E fun v F1 H1 e1 d1 => hb H0 F1 H1 σ _ e1.c (E.mono e1) fun cls d F2 H2 e2 x => q cls d F2 H2 (e1.trans e2) x
theorem ev_un {r : V → Hp → VK → Prop} (ha : EvD K W ta δ (.ok x)) (hr : RU1 K r x z) : EvD K W (tUn r ta) δ (.ok z) := fun H0 F H σ Q s E q =>
  ha H0 F H σ _ s E fun v F1 H1 e1 d1 => hr F1 H1 v Q e1.c d1 fun w F3 H3 e3 d3 => q w F3 H3 (e1.trans e3) d3
theorem ea_nil : EvA K W tNil δ (.ok []) := fun H0 F H σ Q s E q => q [] F H (Ext.refl s) .nil
theorem ea_cons {tr : TA} {ds : List PyData} (ha : EvD K W ta δ (.ok x)) (hr : EvA K W tr δ (.ok ds)) : EvA K W (tCons ta tr) δ (.ok (x :: ds)) := fun H0 F H σ Q s E q =>
  ha H0 F H σ _ s E fun v F1 H1 e1 d1 => hr H0 F1 H1 σ _ e1.c (E.mono e1) fun vs F2 H2 e2 d2 => q _ F2 H2 (e1.trans e2) (.cons (dp_mono e2.a _ _ d1) d2)
theorem ea_consX1 {tr : TA} (ha : EvD K W ta δ (.error e)) : EvA K W (tCons ta tr) δ (.error e) := fun H0 F H σ Q s E q => ha H0 F H σ _ s E q
theorem ea_consX2 {tr : TA} (ha : EvD K W ta δ (.ok x)) (hr : EvA K W tr δ (.error e)) : EvA K W (tCons ta tr) δ (.error e) := fun H0 F H σ Q s E q =>
  ha H0 F H σ _ s E fun v F1 H1 e1 d1 => hr H0 F1 H1 σ _ e1.c (E.mono e1) fun cls d F2 H2 e2 x => q cls d F2 H2 (e1.trans e2) x
theorem ev_tup {ta : TA} {ds : List PyData} (h : EvA K W ta δ (.ok ds)) (hl : ds.length ≤ sizeLine := by (first | decide | simp)) : EvD K W (tTup ta) δ (.ok (.tuple ds)) := fun H0 F H σ Q s E q =>
  h H0 F H σ _ s E fun vs F1 H1 e1 d1 => ⟨by rw [dpa_len d1]; exact hl, fun p hp => q _ (upd F1 p (.tup vs)) _ (e1.trans (Ext.new e1.c hp)) (.tup (SqT.of upd_same) (dpAll_mono (same_upd (Same.refl _) (e1.c.free hp)) _ _ d1))⟩
theorem ev_tupX {ta : TA} (h : EvA K W ta δ (.error e)) : EvD K W (tTup ta) δ (.error e) := fun H0 F H σ Q s E q => h H0 F H σ _ s E q
theorem ev_lst {ta : TA} {ds : List PyData} (h : EvA K W ta δ (.ok ds)) (hl : ds.length ≤ sizeLine := by (first | decide | simp)) : EvD K W (tLst ta) δ (.ok (.list ds)) := fun H0 F H σ Q s E q =>
  h H0 F H σ _ s E fun vs F1 H1 e1 d1 => ⟨by rw [dpa_len d1]; exact hl, fun p hp => q _ (upd F1 p (.lst vs)) _ (e1.trans (Ext.new e1.c hp)) (.lst (SqL.of upd_same) (dpAll_mono (same_upd (Same.refl _) (e1.c.free hp)) _ _ d1))⟩
theorem ev_cb {rc : List V → Hp → VK → Prop} {ta : TA} {ds : List PyData} (h : EvA K W ta δ (.ok ds)) (hr : RC K rc ds z) : EvD K W (tCB rc ta) δ (.ok z) := fun H0 F H σ Q s E q =>
  h H0 F H σ _ s E fun vs F1 H1 e1 d1 => hr F1 H1 vs Q e1.c d1 fun w F3 H3 e3 d3 => q w F3 H3 (e1.trans e3) d3
theorem ev_cbX {rc : List V → Hp → VK → Prop} {ta : TA} (h : EvA K W ta δ (.error e)) : EvD K W (tCB rc ta) δ (.error e) := fun H0 F H σ Q s E q => h H0 F H σ _ s E q

/-! tests -/
theorem et_B {b : Bool} (h : EvD K W te δ (.ok (.bool b))) : EvT K W (tB te) δ (.ok b) := fun H0 F H σ Q s E q =>
  h H0 F H σ _ s E fun v F1 H1 e1 d1 => by
    cases d1
    exact ⟨b, rfl, q F1 H1 e1⟩
theorem et_BX (h : EvD K W te δ (.error e)) : EvT K W (tB te) δ (.error e) := fun H0 F H σ Q s E q => h H0 F H σ _ s E q
theorem et_test {b : Bool} (h : EvD K W te δ (.ok (.bool b))) : EvT K W (tTest te) δ (.ok b) := fun H0 F H σ Q s E q =>
  h H0 F H σ _ s E fun v F1 H1 e1 d1 => by
    cases d1
    exact ⟨b, rfl, q F1 H1 e1⟩
theorem et_and {a b : Bool} (h1 : EvT K W t δ (.ok a)) (h2 : a = true → EvT K W u δ (.ok b)) : EvT K W (tAnd t u) δ (.ok (a && b)) := fun H0 F H σ Q s E q =>
  h1 H0 F H σ _ s E fun F1 H1 e1 => by
    cases a with
    | true => exact h2 rfl H0 F1 H1 σ Q e1.c (E.mono e1) fun F2 H2 e2 => q F2 H2 (e1.trans e2)
    | false => exact q F1 H1 e1
theorem et_or {a b : Bool} (h1 : EvT K W t δ (.ok a)) (h2 : a = false → EvT K W u δ (.ok b)) : EvT K W (tOr t u) δ (.ok (a || b)) := fun H0 F H σ Q s E q =>
  h1 H0 F H σ _ s E fun F1 H1 e1 => by
    cases a with
    | true => exact q F1 H1 e1
    | false => exact h2 rfl H0 F1 H1 σ Q e1.c (E.mono e1) fun F2 H2 e2 => q F2 H2 (e1.trans e2)
theorem et_not {a : Bool} (h1 : EvT K W t δ (.ok a)) : EvT K W (tNot t) δ (.ok (!a)) := fun H0 F H σ Q s E q => h1 H0 F H σ _ s E q
theorem et_is {a b : Bool} (h : EvT K W t δ (.ok a)) (e : a = b) : EvT K W t δ (.ok b) := e ▸ h
theorem ev_is {x y : PyData} (h : EvD K W te δ (.ok x)) (e : x = y) : EvD K W te δ (.ok y) := e ▸ h
theorem ev_andV {a b : Bool} (h1 : EvD K W ta δ (.ok (.bool a))) (h2 : a = true → EvD K W tb δ (.ok (.bool b))) : EvD K W (tAndV ta tb) δ (.ok (.bool (a && b))) := fun H0 F H σ Q s E q =>
  h1 H0 F H σ _ s E fun v F1 H1 e1 d1 => by
    cases d1
    refine ⟨a, rfl, ?_⟩
    cases a with
    | true => exact h2 rfl H0 F1 H1 σ Q e1.c (E.mono e1) fun v F2 H2 e2 d2 => q v F2 H2 (e1.trans e2) d2
    | false => exact q _ F1 H1 e1 (.bl false)
theorem ev_orV {a b : Bool} (h1 : EvD K W ta δ (.ok (.bool a))) (h2 : a = false → EvD K W tb δ (.ok (.bool b))) : EvD K W (tOrV ta tb) δ (.ok (.bool (a || b))) := fun H0 F H σ Q s E q =>
  h1 H0 F H σ _ s E fun v F1 H1 e1 d1 => by
    cases d1
    refine ⟨a, rfl, ?_⟩
    cases a with
    | true => exact q _ F1 H1 e1 (.bl true)
    | false => exact h2 rfl H0 F1 H1 σ Q e1.c (E.mono e1) fun v F2 H2 e2 d2 => q v F2 H2 (e1.trans e2) d2
theorem ev_notV {a : Bool} (h1 : EvD K W ta δ (.ok (.bool a))) : EvD K W (tNotV ta) δ (.ok (.bool (!a))) := fun H0 F H σ Q s E q =>
  h1 H0 F H σ _ s E fun v F1 H1 e1 d1 => by
    cases d1
    exact ⟨a, rfl, q _ F1 H1 e1 (.bl _)⟩
theorem ev_if {b : Bool} (h : EvT K W t δ (.ok b)) (h1 : b = true → EvD K W ta δ (.ok x)) (h2 : b = false → EvD K W tb δ (.ok x)) : EvD K W (tIf t ta tb) δ (.ok x) := fun H0 F H σ Q s E q =>
  h H0 F H σ _ s E fun F1 H1 e1 => by
    cases b with
    | true => exact h1 rfl H0 F1 H1 σ Q e1.c (E.mono e1) fun v F2 H2 e2 d2 => q v F2 H2 (e1.trans e2) d2
    | false => exact h2 rfl H0 F1 H1 σ Q e1.c (E.mono e1) fun v F2 H2 e2 d2 => q v F2 H2 (e1.trans e2) d2

/-! operations of ints -/
theorem rd_I0b {g : Int → Int → Bool} {i j : Int} : RD K (rI0 fun i j => .bl (g i j)) (.int i) (.int j) (.bool (g i j)) := fun F H u v Q s du dv q => by
  cases du; cases dv
  exact ⟨i, j, rfl, rfl, q _ F H (Ext.refl s) (.bl _)⟩
theorem rd_I0 {g : Int → Int → Int} {i j : Int} : RD K (rI0 fun i j => .int (g i j)) (.int i) (.int j) (.int (g i j)) := fun F H u v Q s du dv q => by
  cases du; cases dv
  exact ⟨i, j, rfl, rfl, q _ F H (Ext.refl s) (.int _)⟩
theorem rd_I {C : Int → Int → Prop} {g : Int → Int → Int} {i j : Int} (hc : C i j) : RD K (rI C fun i j => .int (g i j)) (.int i) (.int j) (.int (g i j)) := fun F H u v Q s du dv q => by
  cases du; cases dv
  exact ⟨i, j, rfl, rfl, hc, q _ F H (Ext.refl s) (.int _)⟩
theorem ru_neg {i : Int} : RU1 K (rU fun i => .int (-i)) (.int i) (.int (-i)) := fun F H u Q s du q => by
  cases du
  exact ⟨i, rfl, q _ F H (Ext.refl s) (.int _)⟩
/-! == and != of scalars -/
def scalD : PyData → PyData → Bool
  | .none, .none => true | .none, .int _ => true | .int _, .none => true | .none, .bool _ => true | .bool _, .none => true | .none, .str _ => true | .str _, .none => true
  | .int _, .int _ => true | .bool _, .bool _ => true | .str _, .str _ => true
  | .int _, .str _ => true | .str _, .int _ => true | .bool _, .str _ => true | .str _, .bool _ => true
  | _, _ => false
def sameD : PyData → PyData → Bool
  | .none, .none => true
  | .int i, .int j => decide (i = j)
  | .bool i, .bool j => decide (i = j)
  | .str i, .str j => decide (i = j)
  | _, _ => false
theorem rd_eq (h : scalD x y = true) : RD K rEq x y (.bool (sameD x y)) := fun F H u v Q s du dv q => by
  cases du <;> cases dv <;> first
    | exact ⟨rfl, by
        refine (q _ F H (Ext.refl s) (.bl _) : Q _ H) |> fun z => ?_
        simpa [sameD] using z⟩
    | exact absurd h (by simp [scalD])
theorem rd_ne (h : scalD x y = true) : RD K rNe x y (.bool (!sameD x y)) := fun F H u v Q s du dv q => by
  cases du <;> cases dv <;> first
    | exact ⟨rfl, by
        refine (q _ F H (Ext.refl s) (.bl _) : Q _ H) |> fun z => ?_
        simpa [sameD] using z⟩
    | exact absurd h (by simp [scalD])
/-! == at any depth -/
theorem rd_eqD (h1 : SeqAt.shaped x = true) (h2 : SeqAt.shaped y = true) : RD K (rEqD K) x y (.bool (PyData.eqv x y)) := fun F H u v Q s du dv q =>
  ⟨x, y, dq_down (dp_mono s _ _ du) (PySem.SeqAt.canLay_of_shaped h1), dq_down (dp_mono s _ _ dv) (PySem.SeqAt.canLay_of_shaped h2), h1, h2, q _ F H (Ext.refl s) (.bl _)⟩
theorem rd_neD (h1 : SeqAt.shaped x = true) (h2 : SeqAt.shaped y = true) : RD K (rNeD K) x y (.bool (!PyData.eqv x y)) := fun F H u v Q s du dv q =>
  ⟨x, y, dq_down (dp_mono s _ _ du) (PySem.SeqAt.canLay_of_shaped h1), dq_down (dp_mono s _ _ dv) (PySem.SeqAt.canLay_of_shaped h2), h1, h2, q _ F H (Ext.refl s) (.bl _)⟩
theorem ev_isN (h : EvD K W ta δ (.ok x)) : EvD K W (tIsN ta) δ (.ok (.bool (match x with | .none => true | _ => false))) := fun H0 F H σ Q s E q =>
  h H0 F H σ _ s E fun v F1 H1 e1 d1 => by
    cases d1 <;> first
      | exact q _ F1 H1 e1 (.bl _)
      | (refine (q _ F1 H1 e1 (.bl _) : Q _ H1) |> fun z => ?_; simpa using z)
theorem ev_notN (h : EvD K W ta δ (.ok x)) : EvD K W (tNotN ta) δ (.ok (.bool (match x with | .none => false | _ => true))) := fun H0 F H σ Q s E q =>
  h H0 F H σ _ s E fun v F1 H1 e1 d1 => by
    cases d1 <;> first
      | exact q _ F1 H1 e1 (.bl _)
      | (refine (q _ F1 H1 e1 (.bl _) : Q _ H1) |> fun z => ?_; simpa using z)
/-! items -/
theorem atI_dp {F : Hp} {vs : List V} {ds : List PyData} {i : Int} (h : DqAll K F vs ds) (e : atI ds i = some d) : ∃ v, atI vs i = some v ∧ Dq K F v d := by
  unfold atI at e ⊢
  rw [dpa_len h]
  cases k : ixN ds.length i with
  | none => rw [k] at e; cases e
  | some j =>
    rw [k] at e
    exact dpa_get h e
theorem rd_ixT {ds : List PyData} {i : Int} (e : atI ds i = some d) : RD K (rIxT K) (.tuple ds) (.int i) d := fun F H u v Q s du dv q => by
  cases dv
  cases du with
  | tup hs ha =>
    obtain ⟨v, e1, e2⟩ := atI_dp ha e
    exact ⟨_, _, i, v, rfl, rfl, sqT_mono s hs, e1, q _ F H (Ext.refl s) e2⟩
theorem rd_ixL {ds : List PyData} {i : Int} (e : atI ds i = some d) : RD K (rIxL K) (.list ds) (.int i) d := fun F H u v Q s du dv q => by
  cases dv
  cases du with
  | lst hs ha =>
    obtain ⟨v, e1, e2⟩ := atI_dp ha e
    exact ⟨_, _, i, v, rfl, rfl, s.seq hs, e1, q _ F H (Ext.refl s) e2⟩
theorem rd_ixS {z : Str} {i : Int} {c : Nat} (hl : z.length ≤ sizeLine) (e : atI z.cps.toList i = some c) : RD K rIxS (.str z) (.int i) (.str ⟨#[c]⟩) := fun F H u v Q s du dv q => by
  cases dv; cases du
  exact ⟨z, i, c, rfl, rfl, hl, e, q _ F H (Ext.refl s) (.str _)⟩
/-- any of the three -/
theorem rd_ix_T {ds : List PyData} {i : Int} (e : atI ds i = some d) : RD K (rIx K) (.tuple ds) (.int i) d := fun F H u v Q s du dv q => .inr (.inl (rd_ixT e F H u v Q s du dv q))
theorem rd_ix_L {ds : List PyData} {i : Int} (e : atI ds i = some d) : RD K (rIx K) (.list ds) (.int i) d := fun F H u v Q s du dv q => .inl (rd_ixL e F H u v Q s du dv q)
theorem rd_ix_S {z : Str} {i : Int} {c : Nat} (hl : z.length ≤ sizeLine) (e : atI z.cps.toList i = some c) : RD K (rIx K) (.str z) (.int i) (.str ⟨#[c]⟩) := fun F H u v Q s du dv q => .inr (.inr (rd_ixS hl e F H u v Q s du dv q))
/-- an item of an own list -/
theorem ev_ixO {i : Nat} {l : List PyData} {k : Int} (hi : δ[i]? = some (Sl.own l)) (hb : EvD K W tb δ (.ok (.int k))) (e : atI l k = some d) : EvD K W (tOp (rIxL K) (tVar i) tb) δ (.ok d) := fun H0 F H σ Q s E q => by
  obtain ⟨p, vs, h1, h2, h3, h4, h5⟩ := E.own i l hi
  refine ⟨_, h1, hb H0 F H σ _ s E fun v F1 H1 e1 d1 => ?_⟩
  cases d1
  obtain ⟨v, g1, g2⟩ := atI_dp (dpAll_mono e1.a _ _ h5) e
  exact ⟨p, vs, k, v, rfl, rfl, SqL.of (e1.b _ _ h2), g1, q _ F1 H1 e1 g2⟩
theorem ev_ixO' {i : Nat} {l : List PyData} {k : Int} (hi : δ[i]? = some (Sl.own l)) (hb : EvD K W tb δ (.ok (.int k))) (e : atI l k = some d) : EvD K W (tOp (rIx K) (tVar i) tb) δ (.ok d) := fun H0 F H σ Q s E q => by
  obtain ⟨v, h1, h2⟩ := ev_ixO hi hb e H0 F H σ Q s E q
  refine ⟨v, h1, ?_⟩
  exact (hb H0 F H σ _ s E fun v F1 H1 e1 d1 => by
    cases d1
    obtain ⟨p, vs, g1, g2, g3, g4, g5⟩ := E.own i l hi
    rw [h1] at g1; cases g1
    obtain ⟨v, k1, k2⟩ := atI_dp (dpAll_mono e1.a _ _ g5) e
    exact .inl ⟨p, vs, k, v, rfl, rfl, SqL.of (e1.b _ _ g2), k1, q _ F1 H1 e1 k2⟩)
end

/-! ### statements -/
inductive Out where
  | nx (δ : Dn) | rt (d : PyData) | bk (δ : Dn) | ct (δ : Dn) | ex (δ : Dn) (x : Exn)
def Fin (K : PySem.W.Frag) (W : WX) (D : Ends) (F0 H0 : Hp) : Out → Prop
  | .nx δ => ∀ F H σ, Ext F0 F H0 H → EnvR K H0 F H σ δ → D.nx σ H
  | .rt d => ∀ v F H, Ext F0 F H0 H → Dq K F v d → D.rt v H
  | .bk δ => ∀ F H σ, Ext F0 F H0 H → EnvR K H0 F H σ δ → D.bk σ H
  | .ct δ => ∀ F H σ, Ext F0 F H0 H → EnvR K H0 F H σ δ → D.ct σ H
  | .ex δ x => ∀ cls d σ F H, Ext F0 F H0 H → EnvR K H0 F H σ δ → XAt K F H x cls d → W cls d σ H
def Rn (K : PySem.W.Frag) (W : WX) (ts : TS) (δ : Dn) (o : Out) : Prop :=
  ∀ (D : Ends) (F0 H0 F H : Hp) (σ : L2.St), Ext F0 F H0 H → EnvR K H0 F H σ δ → Fin K W D F0 H0 o → ts D σ H
section
variable {K : PySem.W.Frag} {W : WX} {δ δ1 δ2 : Dn} {ta tb te tc : TE} {tt : TT} {t u : TS} {x y z d : PyData} {o : Out} {e : Exn}
theorem rn_seq (h1 : Rn K W t δ (.nx δ1)) (h2 : Rn K W u δ1 o) : Rn K W (tSeq t u) δ o := fun D F0 H0 F H σ s E q =>
  h1 { D with nx := u D } F0 H0 F H σ s E fun F1 H1 σ1 s1 E1 => h2 D F0 H0 F1 H1 σ1 s1 E1 q
theorem rn_seqR (h1 : Rn K W t δ (.rt d)) : Rn K W (tSeq t u) δ (.rt d) := fun D F0 H0 F H σ s E q => h1 { D with nx := u D } F0 H0 F H σ s E q
theorem rn_seqX (h1 : Rn K W t δ (.ex δ1 e)) : Rn K W (tSeq t u) δ (.ex δ1 e) := fun D F0 H0 F H σ s E q => h1 { D with nx := u D } F0 H0 F H σ s E q
theorem rn_seqB (h1 : Rn K W t δ (.bk δ1)) : Rn K W (tSeq t u) δ (.bk δ1) := fun D F0 H0 F H σ s E q => h1 { D with nx := u D } F0 H0 F H σ s E q
theorem rn_seqC (h1 : Rn K W t δ (.ct δ1)) : Rn K W (tSeq t u) δ (.ct δ1) := fun D F0 H0 F H σ s E q => h1 { D with nx := u D } F0 H0 F H σ s E q
theorem rn_next : Rn K W tNext δ (.nx δ) := fun D F0 H0 F H σ s E q => q F H σ s E
theorem rn_break : Rn K W tBreak δ (.bk δ) := fun D F0 H0 F H σ s E q => q F H σ s E
theorem rn_cont : Rn K W tCont δ (.ct δ) := fun D F0 H0 F H σ s E q => q F H σ s E
theorem rn_less (hl : Less δ1 δ) (h : Rn K W t δ1 o) : Rn K W t δ o := fun D F0 H0 F H σ s E q => h D F0 H0 F H σ s (E.less hl) q
theorem rn_weak (hl : Less δ2 δ1) (h : Rn K W t δ (.nx δ1)) : Rn K W t δ (.nx δ2) := fun D F0 H0 F H σ s E q =>
  h D F0 H0 F H σ s E fun F1 H1 σ1 s1 E1 => q F1 H1 σ1 s1 (E1.less hl)
theorem rn_ret (h : EvD K W te δ (.ok d)) : Rn K W (tRet te) δ (.rt d) := fun D F0 H0 F H σ s E q =>
  h H0 F H σ _ s.c E fun v F1 H1 e1 d1 => q v F1 H1 (s.trans e1) d1
theorem rn_retX (h : EvD K W te δ (.error e)) : Rn K W (tRet te) δ (.ex δ e) := fun D F0 H0 F H σ s E q =>
  h H0 F H σ _ s.c E fun cls d F1 H1 e1 x => q cls d σ F1 H1 (s.trans e1) (E.mono e1) x
theorem rn_retN : Rn K W tRetN δ (.rt .none) := fun D F0 H0 F H σ s E q => q _ F H s .non
theorem rn_asg {i : Nat} (h : EvD K W te δ (.ok d)) : Rn K W (tAsg te (gName i)) δ (.nx (δ.set i (.val d))) := fun D F0 H0 F H σ s E q =>
  h H0 F H σ _ s.c E fun v F1 H1 e1 d1 => q F1 H1 _ (s.trans e1) ((E.mono e1).setV d1)
theorem rn_exL (hl : Less δ2 δ1) (h : Rn K W t δ (.ex δ1 e)) : Rn K W t δ (.ex δ2 e) := fun D F0 H0 F H σ s E q =>
  h D F0 H0 F H σ s E fun cls d σ1 F1 H1 s1 E1 x => q cls d σ1 F1 H1 s1 (E1.less hl) x
theorem rn_asgX {g : TG} (h : EvD K W te δ (.error e)) : Rn K W (tAsg te g) δ (.ex δ e) := fun D F0 H0 F H σ s E q =>
  h H0 F H σ _ s.c E fun cls d F1 H1 e1 x => q cls d σ F1 H1 (s.trans e1) (E.mono e1) x
/-- x = [..]: a list of its own -/
theorem rn_asgO {i : Nat} {ta : TA} {ds : List PyData} (h : EvA K W ta δ (.ok ds)) (hl : ds.length ≤ sizeLine := by (first | decide | simp)) : Rn K W (tAsg (tLst ta) (gName i)) δ (.nx (δ.set i (.own ds))) := fun D F0 H0 F H σ s E q =>
  h H0 F H σ _ s.c E fun vs F1 H1 e1 d1 => ⟨by rw [dpa_len d1]; exact hl, fun p hp => by
    have s1 := s.trans e1
    have h0 : H0 p = none := s1.b.free hp
    exact q F1 _ _ ⟨s1.a, same_upd s1.b h0, same_upd s1.c (s1.c.free hp), s1.n⟩ ((E.mono e1).setO hp h0 (s1.c.free hp) d1)⟩
/-- xs.append(e) of an own list -/
theorem rn_app {i : Nat} {l : List PyData} (hi : δ[i]? = some (Sl.own l)) (h : EvD K W te δ (.ok d)) (hl : l.length < sizeLine) : Rn K W (tDrop (tBM K "list" rAppend (tVar i) (tCons te tNil))) δ (.nx (δ.set i (.own (l ++ [d])))) := fun D F0 H0 F H σ s E q => by
  obtain ⟨p, vs, h1, h2, h3, h4, h5⟩ := E.own i l hi
  refine ⟨_, h1, .inl ⟨rfl, vs, SqL.of h2⟩, h H0 F H σ _ s.c E fun v F1 H1 e1 d1 => ?_⟩
  have E1 := E.mono e1
  have s1 := s.trans e1
  have hf : F1 p = none := e1.n p (by rw [h2]; exact fun z => nomatch z) h3
  refine ⟨p, vs, v, rfl, rfl, e1.b _ _ h2, by rw [dpa_len h5]; exact hl, q F1 _ σ (s1.mut h4 hf) (E1.chg hi h1 ?_)⟩
  exact dpa_append (dpAll_mono e1.a _ _ h5) (.cons d1 .nil)
/-- xs[k] = e of an own list -/
theorem rn_setO {i : Nat} {l : List PyData} {k : Int} {j : Nat} (hi : δ[i]? = some (Sl.own l)) (h : EvD K W te δ (.ok d)) (hk : EvD K W tb δ (.ok (.int k))) (hj : ixN l.length k = some j) :
    Rn K W (tAsg te (gSub (tVar i) tb rSetL)) δ (.nx (δ.set i (.own (l.set j d)))) := fun D F0 H0 F H σ s E q =>
  h H0 F H σ _ s.c E fun v F1 H1 e1 d1 => by
    have E1 := E.mono e1
    obtain ⟨p, vs, h1, h2, h3, h4, h5⟩ := E1.own i l hi
    refine ⟨_, h1, hk H0 F1 H1 σ _ e1.c E1 fun w F2 H2 e2 d2 => ?_⟩
    cases d2
    have E2 := E1.mono e2
    have s2 := (s.trans e1).trans e2
    have hf : F2 p = none := e2.n p (by rw [h2]; exact fun z => nomatch z) h3
    refine ⟨p, vs, k, j, rfl, rfl, e2.b _ _ h2, by rw [dpa_len h5]; exact hj, q F2 _ σ (s2.mut h4 hf) (E2.chg hi h1 ?_)⟩
    exact dpa_set (dp_mono e2.a _ _ d1) j (dpAll_mono e2.a _ _ h5)
/-- an own list is no longer changed -/
theorem rn_frz {i : Nat} {l : List PyData} (hi : δ[i]? = some (Sl.own l)) (h : Rn K W t (δ.set i (.val (.list l))) o) : Rn K W t δ o := fun D F0 H0 F H σ s E q => by
  obtain ⟨F', s', _, E'⟩ := E.frz hi s
  exact h D F0 H0 F' H σ s' E' q
theorem rn_if {b : Bool} (h : EvT K W tt δ (.ok b)) (h1 : b = true → Rn K W t δ o) (h2 : b = false → Rn K W u δ o) : Rn K W (tIfS tt t u) δ o := fun D F0 H0 F H σ s E q =>
  h H0 F H σ _ s.c E fun F1 H1 e1 => by
    cases b with
    | true => exact h1 rfl D F0 H0 F1 H1 σ (s.trans e1) (E.mono e1) q
    | false => exact h2 rfl D F0 H0 F1 H1 σ (s.trans e1) (E.mono e1) q
theorem rn_ifT (h : EvT K W tt δ (.ok true)) (h1 : Rn K W t δ o) : Rn K W (tIfS tt t u) δ o := rn_if h (fun _ => h1) fun z => nomatch z
theorem rn_ifF (h : EvT K W tt δ (.ok false)) (h1 : Rn K W u δ o) : Rn K W (tIfS tt t u) δ o := rn_if h (fun z => nomatch z) fun _ => h1
theorem rn_drop (h : EvD K W te δ (.ok d)) : Rn K W (tDrop te) δ (.nx δ) := fun D F0 H0 F H σ s E q =>
  h H0 F H σ _ s.c E fun v F1 H1 e1 d1 => q F1 H1 σ (s.trans e1) (E.mono e1)
theorem rn_dropX (h : EvD K W te δ (.error e)) : Rn K W (tDrop te) δ (.ex δ e) := fun D F0 H0 F H σ s E q =>
  h H0 F H σ _ s.c E fun cls d F1 H1 e1 x => q cls d σ F1 H1 (s.trans e1) (E.mono e1) x
end
end DL
set_option Elab.async false
set_option linter.all false
set_option maxRecDepth 100000
set_option maxHeartbeats 2000000
/-! DL3: targets, sources, loops, comprehensions, calls, defs. -/
namespace DL
open PySem L2

/-! ### targets -/
def AsD (K : PySem.W.Frag) (g : TG) (js : List Nat) (d : PyData) (δ δ' : Dn) : Prop :=
  ∀ (H0 F H : Hp) (σ : L2.St) (v : V) (Q : L2.St → Hp → Prop), Same F H → EnvR K H0 F H σ δ → Dq K F v d →
    (∀ σ', (∀ vs : List Nat, (∀ j ∈ js, j ∈ vs) → wipe σ' vs = wipe σ vs) → EnvR K H0 F H σ' δ' → Q σ' H) → g v σ H Q
def AsDs (K : PySem.W.Frag) (g : TGs) (js : List Nat) (ds : List PyData) (δ δ' : Dn) : Prop :=
  ∀ (H0 F H : Hp) (σ : L2.St) (vs : List V) (Q : L2.St → Hp → Prop), Same F H → EnvR K H0 F H σ δ → DqAll K F vs ds →
    (∀ σ', (∀ ws : List Nat, (∀ j ∈ js, j ∈ ws) → wipe σ' ws = wipe σ ws) → EnvR K H0 F H σ' δ' → Q σ' H) → g vs σ H Q
section
variable {K : PySem.W.Frag} {W W' : WX} {δ δ' δ1 δ2 : Dn} {ta tb te tc tl : TE} {tt : TT} {t u : TS} {x y z d : PyData} {o : Out} {e : Exn} {g : TG}
theorem set_same_set {α : Type} {l : List α} {i : Nat} {x y : α} : (l.set i x).set i y = l.set i y := by simp
theorem wipe_set {σ : L2.St} {j : Nat} {x : Option V} : ∀ {vs : List Nat}, j ∈ vs → wipe (σ.set j x) vs = wipe σ vs
  | [], h => by simp at h
  | v :: vs, h => by
    show (wipe (σ.set j x) vs).set v none = (wipe σ vs).set v none
    by_cases hv : j ∈ vs
    · rw [wipe_set hv]
    · have e : j = v := by
        rcases List.mem_cons.mp h with e | e
        · exact e
        · exact absurd e hv
      subst e
      have key : ∀ {ws : List Nat}, j ∉ ws → wipe (σ.set j x) ws = (wipe σ ws).set j x := by
        intro ws
        induction ws with
        | nil => intro _; rfl
        | cons w ws ih =>
          intro hw
          have h1 : j ∉ ws := fun z => hw (List.mem_cons_of_mem _ z)
          have h2 : j ≠ w := fun z => hw (by rw [z]; exact List.mem_cons_self)
          show (wipe (σ.set j x) ws).set w none = ((wipe σ ws).set w none).set j x
          rw [ih h1, List.set_comm _ _ h2]
      rw [key hv, set_same_set]
theorem wipe_wipe (σ : L2.St) : ∀ (us vs : List Nat), (∀ u ∈ us, u ∈ vs) → wipe (wipe σ us) vs = wipe σ vs
  | [], _, _ => rfl
  | u :: us, vs, h => by
    show wipe ((wipe σ us).set u none) vs = _
    rw [wipe_set (h u List.mem_cons_self)]
    exact wipe_wipe σ us vs fun w hw => h w (List.mem_cons_of_mem _ hw)
theorem as_name {i : Nat} : AsD K (gName i) [i] d δ (δ.set i (.val d)) := fun H0 F H σ v Q s E h q =>
  q _ (fun vs hj => wipe_set (hj i List.mem_cons_self)) (E.setV h)
theorem as_nil : AsDs K gNil [] [] δ δ := fun H0 F H σ vs Q s E h q => by
  cases h
  exact ⟨rfl, q σ (fun _ _ => rfl) E⟩
theorem as_cons {g : TG} {gs : TGs} {js ks : List Nat} {ds : List PyData} (h1 : AsD K g js d δ δ1) (h2 : AsDs K gs ks ds δ1 δ2) : AsDs K (gCons g gs) (js ++ ks) (d :: ds) δ δ2 := fun H0 F H σ vs Q s E h q => by
  cases h with
  | cons a b =>
    refine ⟨_, _, rfl, h1 H0 F H σ _ _ s E a fun σ1 w1 E1 => h2 H0 F H σ1 _ _ s E1 b fun σ2 w2 E2 => q σ2 (fun vs hj => ?_) E2⟩
    rw [w2 vs fun j hj' => hj j (List.mem_append_right _ hj'), w1 vs fun j hj' => hj j (List.mem_append_left _ hj')]
theorem as_tup {gs : TGs} {js : List Nat} {ds : List PyData} {n : Nat} (h : AsDs K gs js ds δ δ1) (hn : ds.length = n) : AsD K (gTup K n gs) js (.tuple ds) δ δ1 := fun H0 F H σ v Q s E hv q => by
  cases hv with
  | tup hs ha => exact ⟨_, _, rfl, sqT_mono s hs, by rw [dpa_len ha]; exact hn, h H0 F H σ _ Q s E ha q⟩
theorem as_lst {gs : TGs} {js : List Nat} {ds : List PyData} {n : Nat} (h : AsDs K gs js ds δ δ1) (hn : ds.length = n) : AsD K (gLst K n gs) js (.list ds) δ δ1 := fun H0 F H σ v Q s E hv q => by
  cases hv with
  | lst hs ha => exact ⟨_, _, rfl, s.seq hs, by rw [dpa_len ha]; exact hn, h H0 F H σ _ Q s E ha q⟩
/-- any assignment of a known value -/
theorem rn_asgG {js : List Nat} (h : EvD K W te δ (.ok d)) (hg : AsD K g js d δ δ1) : Rn K W (tAsg te g) δ (.nx δ1) := fun D F0 H0 F H σ s E q =>
  h H0 F H σ _ s.c E fun v F1 H1 e1 d1 => hg H0 F1 H1 σ v _ e1.c (E.mono e1) d1 fun σ' _ E' => q F1 H1 σ' (s.trans e1) E'

/-! ### what is walked -/
def SrcD (K : PySem.W.Frag) (wi : TI) (δ : Dn) (l : List PyData) : Prop :=
  ∀ (H0 F H : Hp) (σ : L2.St) (R : It → Hp → Prop), Same F H → EnvR K H0 F H σ δ →
    (∀ (J : It) (F1 H1 : Hp), Ext F F1 H H1 → Walk J l.length (fun H' => Same F1 H') (fun i H x H' => H' = H ∧ ∃ d, l[i]? = some d ∧ Dq K F1 x d) → R J H1) → wi σ H R
theorem src_list {l : List PyData} (h : EvD K W tl δ (.ok (.list l))) : SrcD K (iList K tl) δ l := fun H0 F H σ R s E k =>
  h H0 F H σ _ s E fun v F1 H1 e1 d1 => by
    cases d1 with
    | lst hs ha =>
      refine ⟨_, rfl, ⟨_, e1.c.seq hs⟩, k _ F1 H1 e1 ?_⟩
      rw [← dpa_len ha]
      exact walk_list.mono (fun H' s' => s'.seq hs) fun i H2 x H3 _ _ y => ⟨y.1, dpa_getV ha y.2⟩
theorem src_tup {l : List PyData} (h : EvD K W tl δ (.ok (.tuple l))) : SrcD K (iTup K tl) δ l := fun H0 F H σ R s E k =>
  h H0 F H σ _ s E fun v F1 H1 e1 d1 => by
    cases d1 with
    | tup hs ha =>
      refine ⟨_, rfl, ⟨_, sqT_mono e1.c hs⟩, k _ F1 H1 e1 ?_⟩
      rw [← dpa_len ha]
      exact walk_tup.mono (fun H' s' => sqT_mono s' hs) fun i H2 x H3 _ _ y => ⟨y.1, dpa_getV ha y.2⟩
def iota (lo : Int) (n : Nat) : List PyData := (List.range n).map fun i => .int (lo + (i : Nat))
theorem iota_len {lo : Int} {n : Nat} : (iota lo n).length = n := by simp [iota]
theorem iota_get {lo : Int} {n i : Nat} (h : i < n) : (iota lo n)[i]? = some (.int (lo + (i : Nat))) := by
  unfold iota
  rw [List.getElem?_map, List.getElem?_range h]; rfl
theorem src_rng1 {ta : TA} {j : Int} (h : EvA K W ta δ (.ok [.int j])) (h1 : -(2 ^ 62) ≤ j) (h2 : j < 2 ^ 62) : SrcD K (iRng1 ta) δ (iota 0 j.toNat) := fun H0 F H σ R s E k =>
  h H0 F H σ _ s E fun vs F1 H1 e1 d1 => by
    cases d1 with
    | cons a b =>
      cases a; cases b
      refine ⟨j, rfl, h1, h2, k _ F1 H1 e1 ?_⟩
      rw [iota_len]
      exact walk_range.mono (fun _ _ => trivial) fun i H2 x H3 hi _ y => ⟨y.1, _, iota_get hi, by rw [y.2]; exact .int _⟩
theorem src_rng2 {ta : TA} {i j : Int} (h : EvA K W ta δ (.ok [.int i, .int j])) (hb : -(2 ^ 62) ≤ i ∧ i < 2 ^ 62 ∧ -(2 ^ 62) ≤ j ∧ j < 2 ^ 62) : SrcD K (iRng2 ta) δ (iota i (j - i).toNat) := fun H0 F H σ R s E k =>
  h H0 F H σ _ s E fun vs F1 H1 e1 d1 => by
    cases d1 with
    | cons a b =>
      cases a
      cases b with
      | cons a b =>
        cases a; cases b
        refine ⟨i, j, rfl, hb, k _ F1 H1 e1 ?_⟩
        rw [iota_len]
        exact walk_range.mono (fun _ _ => trivial) fun i H2 x H3 hi _ y => ⟨y.1, _, iota_get hi, by rw [y.2]; exact .int _⟩
def signs (z : Str) : List PyData := z.cps.toList.map fun c => .str ⟨#[c]⟩
theorem src_str {z : Str} (h : EvD K W te δ (.ok (.str z))) : SrcD K (iStr te) δ (signs z) := fun H0 F H σ R s E k =>
  h H0 F H σ _ s E fun v F1 H1 e1 d1 => by
    cases d1
    refine ⟨z, rfl, k _ F1 H1 e1 ?_⟩
    have e : (signs z).length = z.cps.size := by simp [signs]
    rw [e]
    refine walk_str.mono (fun _ _ => trivial) fun i H2 x H3 hi _ y => ⟨y.1, ?_⟩
    obtain ⟨c, hc, rfl⟩ := y.2
    refine ⟨_, ?_, .str _⟩
    unfold signs
    rw [List.getElem?_map, Array.getElem?_toList, hc]; rfl
theorem Ext.rebase {F0 F1 F3 H0 H1 H3 : Hp} (p : Ext F0 F1 H0 H1) (q : Ext F1 F3 H0 H3) : Ext F0 F3 H0 H3 :=
  ⟨p.a.trans q.a, q.b, q.c, fun x hx hf => q.n x hx (p.n x hx hf)⟩
theorem Ext.own {F0 F1 H0 H1 : Hp} (p : Ext F0 F1 H0 H1) : Ext F1 F1 H0 H1 := ⟨Same.refl _, p.b, p.c, fun _ _ e => e⟩

/-! ### for -/
/-- what a body's end means for the loop -/
def bodyEnd : Out → Out → Prop
  | .nx δ, .nx δ' => δ = δ'
  | .ct δ, .nx δ' => δ = δ'
  | _, _ => False
def leaveEnd : Out → Out → Prop
  | .rt d, .rt d' => d = d'
  | .ex δ x, .ex δ' x' => δ = δ' ∧ x = x'
  | .bk δ, .nx δ' => δ = δ'
  | _, _ => False
/-- n turns from st 0 to st n; then the list is at its end, or the next turn leaves -/
theorem rn_for {wi : TI} {l : List PyData} {js : List Nat} (st : Nat → Dn) (n : Nat) (hn : n ≤ l.length) (h : SrcD K wi (st 0) l)
    (step : ∀ i d, i < n → l[i]? = some d → ∃ δ' ob, AsD K g js d (st i) δ' ∧ bodyEnd ob (.nx (st (i + 1))) ∧ Rn K W t δ' ob)
    (last : (n = l.length ∧ o = .nx (st n)) ∨ (∃ d δ' ob, l[n]? = some d ∧ AsD K g js d (st n) δ' ∧ leaveEnd ob o ∧ Rn K W t δ' ob)) : Rn K W (tFor wi g t) (st 0) o := fun D F0 H0 F H σ s E q => by
  refine h H0 F H σ _ s.c E fun J F1 H1 e1 w => ?_
  have sB := s.trans e1
  refine for_it w (fun i σ' H' => i ≤ n ∧ ∃ F', Ext F1 F' H0 H' ∧ EnvR K H0 F' H' σ' (st i)) ⟨Nat.zero_le _, F1, sB.own, E.mono e1⟩
    (fun i σ' H' _ ⟨_, F', s', _⟩ => s'.a.trans s'.c) (fun i x σ' H' H'' hi ⟨hle, F', s', E'⟩ y => ?_) fun σ' H' ⟨hle, F', s', E'⟩ => ?_
  · obtain ⟨rfl, d, hd, hx⟩ := y
    have hx' := dp_mono s'.a d x hx
    by_cases hlt : i < n
    · obtain ⟨δ', ob, h1, h2, h3⟩ := step i d hlt hd
      refine h1 H0 F' H'' σ' x _ s'.c E' hx' fun σ2 _ E2 => h3 _ F1 H0 F' H'' σ2 s' E2 ?_
      cases ob <;> first
        | exact h2.elim
        | (have h2' := h2
           cases h2'
           exact fun F3 H3 σ3 s3 E3 => ⟨hlt, F3, s3, E3⟩)
    · have e : i = n := by omega
      subst e
      rcases last with ⟨hl, _⟩ | ⟨d', δ', ob, g1, g2, g3, g4⟩
      · omega
      · rw [hd] at g1; cases g1
        refine g2 H0 F' H'' σ' x _ s'.c E' hx' fun σ2 _ E2 => g4 _ F0 H0 F' H'' σ2 (sB.rebase s') E2 ?_
        cases ob <;> cases o <;> first
          | exact g3.elim
          | (have g3' := g3
             first
               | (cases g3'; exact q)
               | (obtain ⟨rfl, rfl⟩ := g3'; exact q))
  · rcases last with ⟨hl, ho⟩ | ⟨d', δ', ob, g1, _⟩
    · subst ho; subst hl
      exact q F' H' σ' (sB.rebase s') E'
    · have := (List.getElem?_eq_some_iff.mp g1).1
      omega
end
end DL
set_option Elab.async false
set_option linter.all false
set_option maxRecDepth 100000
set_option maxHeartbeats 2000000
/-! DL4: comprehensions, calls, defs. -/
namespace DL
open PySem L2
section
variable {K : PySem.W.Frag} {W W' : WX} {δ δ' δ1 δ2 : Dn} {ta tb te tc tl : TE} {tt : TT} {t u : TS} {x y z d : PyData} {o : Out} {e : Exn} {g : TG}
theorem Ext.up {F F1 F2 H H1 H2 : Hp} (p : Ext F F1 H H1) (q : Ext F1 F2 H1 H2) : Ext F F2 H H2 := p.trans q
theorem take_filt {l : List PyData} {i : Nat} {d : PyData} (keep : PyData → Bool) (f : PyData → PyData) (h : l[i]? = some d) :
    ((l.take (i + 1)).filter keep).map f = ((l.take i).filter keep).map f ++ (if keep d then [f d] else []) := by
  rw [List.take_add_one, h]
  simp only [Option.toList, List.filter_append, List.map_append]
  congr 1
  cases hk : keep d <;> simp [List.filter, hk]
theorem ev_lc {wi : TI} {l : List PyData} {js vs : List Nat} (keep : PyData → Bool) (f : PyData → PyData) (h : SrcD K wi δ l) (hjs : ∀ j ∈ js, j ∈ vs) (hz : l.length ≤ sizeLine)
    (turn : ∀ (i : Nat) d, l[i]? = some d → ∃ δ', AsD K g js d (wipeD δ vs) δ' ∧ EvT K W' tt δ' (.ok (keep d)) ∧ (keep d = true → EvD K W' te δ' (.ok (f d)))) :
    EvD K W (tLc wi g tt te vs) δ (.ok (.list ((l.filter keep).map f))) := fun H0 F H σ Q s E q => by
  refine h H0 F H σ _ s E fun J F1 H1 e1 w => fun D hD => ?_
  have E1 := E.mono e1
  refine lc_it w (fun i H' => i ≤ l.length ∧ ∃ F' ws, Ext F1 F' H1 H' ∧ F' D = none ∧ H' D = some (HO.lst ws) ∧ ws.length ≤ i ∧ DqAll K F' ws (((l.take i).filter keep).map f))
    ⟨Nat.zero_le _, F1, [], Ext.side e1.c hD, e1.c.free hD, upd_same, Nat.le_refl _, .nil⟩ (fun i H' _ ⟨_, F', _, s', _⟩ => s'.a.trans s'.c) (fun i v H' H'' hi ⟨_, F', ws, s', fD, hws, hlen, hall⟩ y => ?_) fun H' ⟨_, F', ws, s', fD, hws, hlen, hall⟩ => ?_
  · obtain ⟨rfl, d, hd, hx⟩ := y
    obtain ⟨δ', h1, h2, h3⟩ := turn i d hd
    have E' := (E1.mono s').wipes vs
    refine h1 H0 F' H'' (wipe σ vs) v _ s'.c E' (dp_mono s'.a _ _ hx) fun σ2 w2 E2 => ⟨by rw [w2 vs hjs, wipe_wipe σ vs vs fun u hu => hu], ?_⟩
    refine h2 H0 F' H'' σ2 _ s'.c E2 fun F2 H2 e2 => ?_
    have nD : ∀ {F3 H3 : Hp}, Ext F' F3 H'' H3 → F3 D = none := fun e3 => e3.n D (by rw [hws]; exact fun z => nomatch z) fD
    cases hk : keep d with
    | true =>
      refine h3 hk H0 F2 H2 σ2 _ e2.c (E2.mono e2) fun y F3 H3 e3 dy => ?_
      have e23 := e2.trans e3
      refine ⟨ws, e23.b _ _ hws, by omega, by omega, F3, ws ++ [y], ((s'.trans e23).mut hD (nD e23)), nD e23, upd_same, by simp; omega, ?_⟩
      rw [take_filt keep f hd, hk]
      exact dpa_append (dpAll_mono e23.a _ _ hall) (.cons dy .nil)
    | false =>
      refine ⟨by omega, F2, ws, s'.trans e2, nD e2, e2.b _ _ hws, by omega, ?_⟩
      rw [take_filt keep f hd, hk]
      simpa using dpAll_mono e2.a _ _ hall
  · rw [List.take_length] at hall
    refine q _ (upd F' D (HO.lst ws)) H' (e1.trans (s'.freeze hD fD hws)) (.lst (SqL.of upd_same) (dpAll_mono (same_upd (Same.refl _) fD) _ _ hall))
theorem et_yes : EvT K W tYes δ (.ok true) := fun H0 F H σ Q s E q => q F H (Ext.refl s)
/-- [e for x in ..] without a test -/
theorem ev_lcM {wi : TI} {l : List PyData} {js vs : List Nat} (f : PyData → PyData) (h : SrcD K wi δ l) (hjs : ∀ j ∈ js, j ∈ vs) (hz : l.length ≤ sizeLine)
    (turn : ∀ (i : Nat) d, l[i]? = some d → ∃ δ', AsD K g js d (wipeD δ vs) δ' ∧ EvD K W' te δ' (.ok (f d))) :
    EvD K W (tLc wi g tYes te vs) δ (.ok (.list (l.map f))) := by
  have q := ev_lc (K := K) (W := W) (W' := W') (δ := δ) (g := g) (tt := tYes) (te := te) (fun _ => true) f h hjs hz fun i d hd => by
    obtain ⟨δ', h1, h2⟩ := turn i d hd
    exact ⟨δ', h1, et_yes, fun _ => h2⟩
  have e : l.filter (fun _ => true) = l := List.filter_eq_self.mpr fun _ _ => rfl
  rw [e] at q
  exact q

/-! ### calls -/
def spD (K : PySem.W.Frag) (R : List PyData → Res PyData → Prop) : Sp := fun vs H Q E =>
  ∃ (F : Hp) (ds : List PyData) (r : Res PyData), Same F H ∧ DqAll K F vs ds ∧ R ds r ∧ EndV K (fun cls d _ H' => E cls d H') F H [] Q r
variable {R : List PyData → Res PyData → Prop} {dvs : List V} {dds ds : List PyData} {E : L2.St → XK} {tA : TA}
theorem ev_call (h : EvA K W tA δ (.ok ds)) (hd : ∀ F : Hp, DqAll K F dvs dds) (hR : R (ds ++ dds) (.ok d)) : EvD K W (tCallSD (spD K R) dvs E tA) δ (.ok d) := fun H0 F H σ Q s En q =>
  h H0 F H σ _ s En fun vs F1 H1 e1 d1 => ⟨F1, ds ++ dds, .ok d, e1.c, dpa_append d1 (hd F1), hR, fun v F2 H2 e2 d2 => q v F2 H2 (e1.trans e2) d2⟩
theorem ev_callX (h : EvA K W tA δ (.ok ds)) (hd : ∀ F : Hp, DqAll K F dvs dds) (hR : R (ds ++ dds) (.error e)) : EvD K W (tCallSD (spD K R) dvs (WE W) tA) δ (.error e) := fun H0 F H σ Q s En q =>
  h H0 F H σ _ s En fun vs F1 H1 e1 d1 => ⟨F1, ds ++ dds, .error e, e1.c, dpa_append d1 (hd F1), hR, fun cls d F2 H2 e2 x => q cls d F2 H2 (e1.trans e2) x⟩
theorem ev_callA (h : EvA K W tA δ (.error e)) : EvD K W (tCallSD (spD K R) dvs E tA) δ (.error e) := fun H0 F H σ Q s En q => h H0 F H σ _ s En q
/-- without defaults -/
theorem ev_call0 (h : EvA K W tA δ (.ok ds)) (hR : R ds (.ok d)) : EvD K W (tCallSD (spD K R) [] E tA) δ (.ok d) := ev_call h (fun _ => .nil) (by rw [List.append_nil]; exact hR)
theorem ev_callX0 (h : EvA K W tA δ (.ok ds)) (hR : R ds (.error e)) : EvD K W (tCallSD (spD K R) [] (WE W) tA) δ (.error e) := ev_callX h (fun _ => .nil) (by rw [List.append_nil]; exact hR)

/-! ### defs -/
def dn (N : List Str) (ds : List PyData) : Dn := ds.map Sl.val ++ List.replicate (N.length - ds.length) Sl.no
def endsAs : Out → Res PyData → Prop
  | .rt d, r => r = .ok d
  | .nx _, r => r = .ok .none
  | .ex _ x, r => r = .error x
  | _, _ => False
theorem fn_read {N : List Str} {vs : List V} {H : Hp} {Q : VK} {Ex : XK} {t : TS} (hN : ∀ ds r, R ds r → ds.length ≤ N.length) (h : spD K R vs H Q Ex)
    (ht : ∀ ds r, R ds r → ∃ o, Rn K (fun cls d _ H => Ex cls d H) t (dn N ds) o ∧ endsAs o r) :
    t { nx := fun _ H' => Q .non H', rt := Q } (L2.start N vs) H := by
  obtain ⟨F, ds, r, s, hd, hR, q⟩ := h
  obtain ⟨o, h1, h2⟩ := ht ds r hR
  refine h1 _ F H F H _ (Ext.refl s) (EnvR.start hd (hN ds r hR)) ?_
  cases o <;> first
    | exact h2.elim
    | (have e := h2
       cases e
       first
         | exact fun F1 H1 σ e1 E1 => q .non F1 H1 e1 .non
         | exact fun v F1 H1 e1 d1 => q v F1 H1 e1 d1
         | exact fun cls d σ F1 H1 e1 E1 x1 => q cls d F1 H1 e1 x1)
/-- a def of the module as it stands behind the top -/
structure DefAt (K : PySem.W.Frag) (mg : Str → Option Value) (x : Str) (st : Stmt) (dvs : List V) : Prop where
  ex : ∃ (f : Addr) (fd : FuncData), FunD K x x (defArgs st) (defBody st) (defScope st) dvs [] f fd ∧ mg x = some (.ref f)
/-- a def that may be called by its name; dvs: the defaults that fill up -/
structure CalX (P : Program) (w : World) (K : PySem.W.Frag) (mg : Str → Option Value) (base : Heap) (CX : CXT) (k : Nat) (x : Str) (dvs : List V) (R : List PyData → Res PyData → Prop) : Prop where
  ex : ∃ (f : Addr) (fd : FuncData) (ps : List Str) (ds : List Value), FnOk P w K mg base CX k f fd ps (spD K R) ∧ mg x = some (.ref f) ∧ PySem.W.keepIn K (.ref f) = true ∧ Binds K fd ps ds ∧ Vals dvs ds
section
variable {P : Program} {w : World} {mg : Str → Option Value} {base : Heap} {x : Str} {st : Stmt} {N ps : List Str} {k : Nat} {dv2 : List V}
/-- how the arguments bind -/
def BindH (K : PySem.W.Frag) (x : Str) (st : Stmt) (ps : List Str) (dvs dvs2 : List V) : Prop :=
  ∀ (f : Addr) (fd : FuncData), FunD K x x (defArgs st) (defBody st) (defScope st) dvs [] f fd → ∃ ds, Vals dvs2 ds ∧ Binds K fd ps ds
theorem bind0 (h : ∀ (kV doc pm : Value) (an : Option Addr) (cdv ct : Value) (us : List Value), us.length = ps.length → bindArgs (PySem.W.fnOf x x (defArgs st) (defBody st) (defScope st) .none kV doc pm an cdv ct) ⟨us, []⟩ = pure (ps.zip us)) : BindH K x st ps [] [] :=
  fun f fd F => ⟨[], .nil, F.bindsN h⟩
/-- a def that lets no error out -/
theorem okN (D : DefAt K mg x st dvs) (b : BindH K x st ps dvs dv2) (S : FnScope N ps (defScope st)) (len : ∀ ds r, R ds r → ds.length = ps.length)
    (hb : ∀ (f : Addr) (cdv : Value) (A : Around) (outer : List Env) (s : Shared) (H : Hp) (Ex : XK), Room k (A.deeper (PyProof.Rows.envOfC x (defScope st) s.heap.objs.size f cdv)) →
      ∃ t, PSs (cxOf CX0 P w K mg base N x (defScope st) f cdv A outer s H Ex).nox (defBody st) t ∧ ∀ ds r, R ds r → ∃ o, Rn K (fun cls d _ H => Ex cls d H) t (dn N ds) o ∧ endsAs o r) : CalX P w K mg base CX0 (k + 1) x dv2 R := by
  obtain ⟨f, fd, F, hm⟩ := D.ex
  obtain ⟨ws, hw, hB⟩ := b f fd F
  have hpl : ps.length ≤ N.length := by have := congrArg List.length S.pre; rw [List.length_take] at this; omega
  refine ⟨f, fd, ps, ws, F.ok S (fun vs H Q E h => ?_) fun cdv A outer s H vs Q E hr h => ?_, hm, F.kp, hB, hw⟩
  · obtain ⟨_, ds, r, _, hd, hR, _⟩ := h
    rw [dpa_len hd]; exact len ds r hR
  · obtain ⟨t, h1, h2⟩ := hb f cdv A outer s H E hr
    exact ⟨t, h1.nox, fn_read (fun ds r hR => by rw [len ds r hR]; exact hpl) h h2⟩
/-- a def that may raise -/
theorem okX (D : DefAt K mg x st dvs) (b : BindH K x st ps dvs dv2) (S : FnScope N ps (defScope st)) (len : ∀ ds r, R ds r → ds.length = ps.length)
    (hb : ∀ (f : Addr) (cdv : Value) (A : Around) (outer : List Env) (s : Shared) (H : Hp) (Ex : XK), Room k (A.deeper (PyProof.Rows.envOfC x (defScope st) s.heap.objs.size f cdv)) →
      ∃ t, PSs (cxOf (L2.CX P w) P w K mg base N x (defScope st) f cdv A outer s H Ex) (defBody st) t ∧ ∀ ds r, R ds r → ∃ o, Rn K (fun cls d _ H => Ex cls d H) t (dn N ds) o ∧ endsAs o r) : CalX P w K mg base (L2.CX P w) (k + 1) x dv2 R := by
  obtain ⟨f, fd, F, hm⟩ := D.ex
  obtain ⟨ws, hw, hB⟩ := b f fd F
  have hpl : ps.length ≤ N.length := by have := congrArg List.length S.pre; rw [List.length_take] at this; omega
  refine ⟨f, fd, ps, ws, F.ok S (fun vs H Q E h => ?_) fun cdv A outer s H vs Q E hr h => ?_, hm, F.kp, hB, hw⟩
  · obtain ⟨_, ds, r, _, hd, hR, _⟩ := h
    rw [dpa_len hd]; exact len ds r hR
  · obtain ⟨t, h1, h2⟩ := hb f cdv A outer s H E hr
    exact ⟨t, h1, fn_read (fun ds r hR => by rw [len ds r hR]; exact hpl) h h2⟩
theorem CalX.less {CX : CXT} {R' : List PyData → Res PyData → Prop} (c : CalX P w K mg base CX k x dv2 R) (h : ∀ ds r, R' ds r → R ds r) : CalX P w K mg base CX k x dv2 R' := by
  obtain ⟨f, fd, ps, ds, F, h1, h2, h3, h4⟩ := c.ex
  have up : ∀ vs H Q E, spD K R' vs H Q E → spD K R vs H Q E := fun vs H Q E ⟨G, ds, r, g1, g2, g3, g4⟩ => ⟨G, ds, r, g1, g2, h ds r g3, g4⟩
  exact ⟨f, fd, ps, ds, ⟨fun vs H Q E q => F.len vs H Q E (up _ _ _ _ q), fun A outer s H args us vs Q E hr e0 hb r q => F.run A outer s H args us vs Q E hr e0 hb r (up _ _ _ _ q)⟩, h1, h2, h3, h4⟩
end
section
variable {X : Cx} {CX : CXT} {k j : Nat} {x : Str} {E : L2.St → XK} {p pos : Pos} {e : Expr} {es : List Expr} {t : TA}
theorem pe_cal (c : CalX X.prog X.w X.K X.mg X.base CX k x dvs R) (hr : Room j X.A) (hk : k ≤ j) (hx : ∀ σ, PassesAt CX X σ (E σ)) (ha : PA X (e :: es) t) (hg : Gl X x := by rfl)
    (hdb : (x == ("__debug__" : Str)) = false := by decide) (he : starEach (e :: es) X.env = (false, eval e X.env) :: starEach es X.env := by rfl) (hpl : (backTo pos (starEach es X.env)).any (·.1) = false := by rfl) :
    PE X (.Call (.Name x p) (e :: es) [] pos) (tCallSD (spD X.K R) dvs E t) := by
  obtain ⟨f, fd, ps, ds, F, hm, kp, b, d⟩ := c.ex
  exact pe_callSD F (hr.mono hk) hg hm kp b d hx ha hdb he hpl
end
/-! what is passed on by calls that raise nothing -/
abbrev EN : L2.St → XK := fun _ => E0
theorem p0At {X : Cx} (σ : L2.St) : PassesAt CX0 X σ (EN σ) := fun _ _ _ _ _ _ h => h.elim
theorem pLAt {X : Cx} (σ : L2.St) : PassesAt (L2.CX X.prog X.w) X σ (EN σ) := fun _ _ _ _ _ _ h => by
  obtain ⟨_, _, _, _, _, _, _, _, _, _, _, _, z⟩ := h
  exact z.elim
end
end DL
set_option Elab.async false
set_option linter.all false
set_option maxRecDepth 100000
set_option maxHeartbeats 4000000
/-! DX1: operators of several kinds at once, great ints, texts and ints. -/
namespace DL
open PySem PySem.Spec L2
section
variable {X : Cx}
/-! ### either of two rules -/
def rOr (r r' : R2) : R2 := fun x y H Q => r x y H Q ∨ r' x y H Q
theorem op_or {f : Value → Value → Sem Value} {r r' : R2} (h : OpR X f r) (h' : OpR X f r') : OpR X f (rOr r r') := by
  intro pins s σ H x y v u Q I rx ry q
  rcases q with q | q
  · exact h pins s σ H x y v u Q I rx ry q
  · exact h' pins s σ H x y v u Q I rx ry q
def cOr (r r' : List V → Hp → VK → Prop) : List V → Hp → VK → Prop := fun xs H Q => r xs H Q ∨ r' xs H Q
theorem call_or {f : Value} {r r' : List V → Hp → VK → Prop} (h : CallR X f r) (h' : CallR X f r') : CallR X f (cOr r r') := by
  intro pins s σ H xs us Q I r q
  rcases q with q | q
  · exact h pins s σ H xs us Q I r q
  · exact h' pins s σ H xs us Q I r q
/-! ### + : ints, texts, lists, tuples -/
def rAddI : R2 := rI0 fun i j => .int (i + j)
def rAddS2 : R2 := fun x y H Q => ∃ i j, x = .str i ∧ y = .str j ∧ i.length + j.length ≤ sizeLine ∧ Q (.str (i ++ j)) H
def rAddU (K : PySem.W.Frag) : R2 := rOr rAddI (rOr rAddS2 (rOr rCat (rCatA K)))
theorem op_addU : OpR X (binaryOp .Add) (rAddU X.K) := op_or op_add (op_or op_add_str (op_or op_cat op_catA))
/-! ### * : great ints, a text so many times -/
def rMulS : R2 := fun x y H Q => ∃ z n, x = .str z ∧ y = .int n ∧ 0 ≤ n ∧ n ≤ 16777216 ∧ z.length * n.toNat ≤ 16777216 ∧ Q (.str ⟨(List.replicate n.toNat z.cps).foldl (· ++ ·) #[]⟩) H
theorem rep_one (a : Array Nat) : (List.replicate 1 a).foldl (· ++ ·) #[] = a := by simp
theorem rep_emp (n : Nat) : (List.replicate n (#[] : Array Nat)).foldl (· ++ ·) #[] = #[] := by
  induction n with
  | zero => rfl
  | succ n ih => rw [List.replicate_succ, List.foldl_cons]; simpa using ih
theorem op_mulS : OpR X (binaryOp .Mult) rMulS := by
  intro pins s σ H x y v u Q I rx ry h
  obtain ⟨z, n, rfl, rfl, h0, h1, hl, q⟩ := h
  obtain ⟨t, rfl⟩ := rx
  obtain ⟨t2, rfl⟩ := ry
  have hlo : ¬ n < -(2 ^ 63 : Int) := by omega
  have hhi : ¬ n ≥ (2 ^ 63 : Int) := by omega
  have hz : z.length ≤ 16777216 ∨ n.toNat = 0 := by
    by_cases e : n.toNat = 0
    · exact .inr e
    · refine .inl (Nat.le_trans ?_ hl)
      exact Nat.le_mul_of_pos_right _ (by omega)
  refine PySem.P.mul_str (by rw [decide_eq_false hlo, decide_eq_false hhi]; rfl) (fun a b => ?_) (fun a b => ?_) ?_
  · have hz' : z.length ≤ 16777216 := by
      rcases hz with hz | hz
      · exact hz
      · omega
    have hb : (549755813887 : Int) ≤ (2 ^ 63 - 1) / n := by
      refine Int.le_ediv_of_mul_le (by omega) ?_
      omega
    omega
  · unfold Builtin.Str.tooLong
    rw [decide_eq_false_iff_not]
    have := sizeLine_eq
    first
      | omega
      | (simp only [sizeLine_eq]; omega)
  · by_cases c : n < 1
    · rw [if_pos c]
      have e : n.toNat = 0 := by omega
      rw [e] at q
      exact ⟨by decide, .str _, H, I.tok _, ⟨_, rfl⟩, q⟩
    · rw [if_neg c]
      by_cases c2 : (n == 1 || z.length == 0) = true
      · rw [if_pos c2]
        have e : (⟨(List.replicate n.toNat z.cps).foldl (· ++ ·) #[]⟩ : Str) = z := by
          rcases (Bool.or_eq_true _ _).mp c2 with c3 | c3
          · have e1 : n = 1 := by simpa using c3
            subst e1
            show (⟨(List.replicate 1 z.cps).foldl (· ++ ·) #[]⟩ : Str) = z
            rw [rep_one]
          · have e1 : z.length = 0 := by simpa using c3
            have e2 : z.cps = #[] := Array.eq_empty_of_size_eq_zero e1
            rw [e2, rep_emp, ← e2]
        rw [e] at q
        exact ⟨.str z, H, I, ⟨t, rfl⟩, q⟩
      · rw [if_neg c2]
        refine ⟨?_, .str _, H, I.tok _, ⟨_, rfl⟩, q⟩
        have key : ∀ (k : Nat) (a : Array Nat), ((List.replicate k z.cps).foldl (· ++ ·) a).size = a.size + k * z.cps.size := by
          intro k
          induction k with
          | zero => intro a; simp
          | succ k ih => intro a; rw [List.replicate_succ, List.foldl_cons, ih, Array.size_append, Nat.succ_mul]; omega
        show ((List.replicate n.toNat z.cps).foldl (· ++ ·) #[]).size ≤ sizeLine
        rw [key, sizeLine_eq]
        have e : n.toNat * z.cps.size = z.length * n.toNat := Nat.mul_comm _ _
        simp only [Array.size_empty] <;> omega
def CMulX (i j : Int) : Prop := CMulW i j ∨ CMul i j
def rMulI : R2 := rI CMulX fun i j => .int (i * j)
theorem op_mulX : OpR X (binaryOp .Mult) rMulI := opI fun _ _ _ _ _ _ _ hc q => PyProof.Rows.mul_int q (hc.elim (fun h => h.ok) fun h => h.ok)
def rMulU : R2 := rOr rMulI rMulS
theorem op_mulU : OpR X (binaryOp .Mult) rMulU := op_or op_mulX op_mulS
/-! ### // and % by ints of either sign -/
def CDivX (_ j : Int) : Prop := j ≠ 0 ∧ j.natAbs.log2 < 9000
theorem op_fdivX : OpR X (binaryOp .FloorDiv) (rI CDivX fun i j => .int (i.fdiv j)) := by
  intro pins s σ H x y v u Q I rx ry h
  obtain ⟨i, j, rfl, rfl, hc, q⟩ := h
  obtain ⟨t, rfl⟩ := rx
  obtain ⟨t2, rfl⟩ := ry
  exact PyProof.Rows.floordiv_int hc.1 ⟨.int _, H, I.tok _, ⟨_, rfl⟩, q⟩ (.inl (PyProof.noPylong_of_log2 hc.2))
/-! ### str(int), int(text) beyond 1,920 bits and 640 signs -/
/-- what the written part tells of the limit of figures -/
def NoDig (K : PySem.W.Frag) : Prop := PySem.W.nsOkIn K cStatics = true ∧ PySem.W.nsIn K cStatics "sys.int_max_str_digits" = some none
theorem NoDig.at {K : PySem.W.Frag} {h : Heap} (n : NoDig K) (X : K.In h) : h.NoDigits :=
  ⟨_, .of_isNs (PySem.W.isNs_of_in X n.1), PySem.W.ns_none_of X (.of_isNs (PySem.W.isNs_of_in X n.1)) n.2⟩
def rStrI : List V → Hp → VK → Prop := fun xs H Q => ∃ i : Int, xs = [.int i] ∧ i.natAbs < 10 ^ 4300 ∧ Q (.str (toString i)) H
theorem call_strB (hc : X.calm = true) (hd : NoDig X.K) : CallR X (.type "str") rStrI := by
  intro pins s σ H xs us Q I r h
  obtain ⟨i, rfl, hz, q⟩ := h
  obtain ⟨u, rfl, t, rfl⟩ := vals1 r
  refine PyProof.Rows.str_of_int_or (I.ok.hd hc) (hd.at I.kIn) (fun _ => ⟨.str _, H, I.tok _, ⟨_, rfl⟩, q⟩) fun hge => absurd hz (Nat.not_lt.mpr hge)
end
end DL
set_option Elab.async false
set_option linter.all false
set_option maxRecDepth 100000
set_option maxHeartbeats 8000000
/-! DX2: int(text) of up to 4,300 signs. -/
namespace PySem.W
open PySem PySem.Calls PySem.NumText PyProof.Rows
namespace KIB
theorem max_digits {M : Model} {A : Around} {E : Value → Shared → Prop} {s : Shared} {Q : Nat → Shared → Prop} (hn : s.heap.NoDigits) (h : Q 4300 s) : wpAny M A Builtin.intMaxStrDigits Q E s := by
  obtain ⟨mc, hns, hnone⟩ := hn
  unfold Builtin.intMaxStrDigits
  refine wpAny_bind (wpAny_nsGet hns ?_)
  rw [hnone]
  exact wpAny_pure h
theorem text_wp {M : Model} {A : Around} {E : Value → Shared → Prop} {s : Shared} {Q : Value → Shared → Prop} {v : Value} {text : List Nat} {n : Int} (hnd : s.heap.NoDigits)
    (hs : ¬ (text.takeWhile (· != 0)).length ≤ 640) (hr : (int_private% "readNumeral") 4300 10 (text.takeWhile (· != 0)) = (int_private% "Numeral.value") n)
    (ha : ((text.takeWhile (· != 0)).length == text.length) = true) (h : Q (.int n s.toks) { s with toks := s.toks + 1 }) :
    wpAny M A ((int_private% "intFromText") v text 10) Q E s := by
  obtain ⟨hp, g, d, tk, os⟩ := s
  repeat (any_goals (first
    | assumption
    | (with_reducible refine max_digits hnd ?_)
    | (with_reducible refine wpAny_ite_false (decide_eq_false hs) ?_)
    | (with_reducible refine wpAny_ite_true (decide_eq_true ha) ?_)
    | wp_step))
  rw [hr]
  dsimp only
  repeat (any_goals (first
    | assumption
    | (with_reducible refine wpAny_ite_true (decide_eq_true ha) ?_)
    | wp_step))
structure Box (p : Prop) : Prop where
  get : p
theorem new_meets {x : PySem.Str} {u : Tok} {n : Int} (hl : x.length ≤ 4300) (h640 : ¬ (numSeenOf x).length ≤ 640) (hn : PySem.intText? x = some n) :
    Meets (Builtin.«int.__new__» ⟨[.type "int", .str x u], []⟩) (fun _ R s => s.heap.NoDigits ∧ R (.ok (.ret (.int n s.toks))) { s with toks := s.toks + 1 }) := by
  intro prog w A R s hq
  obtain ⟨hp, g, d, tk, os⟩ := s
  obtain ⟨hnd, hq⟩ := hq
  have f1 := F.conv_sub_int
  have f2 := F.madeHere_int
  have f3 := KIN.str_int
  have f4 := KIN.str_idx
  have f5 := KIN.str_trunc
  have f6 : typeOf (.str x u) = pure (.type "str") := rfl
  have hx : x.length ≤ sizeLine := by rw [sizeLine_eq]; omega
  have hk : Box (¬ (numSeenOf x).length ≤ 640 ∧ (int_private% "readNumeral") 4300 10 (numSeenOf x) = (int_private% "Numeral.value") n ∧ ((numSeenOf x).length == (numTextOf x).length) = true) := by
    refine ⟨h640, ?_⟩
    rcases read4300 x hx with ⟨m, h1, h2, h3⟩ | ⟨h1, _⟩
    · rw [hn] at h1
      injection h1 with h1
      subst h1
      exact ⟨h3, h2⟩
    · rw [hn] at h1
      cases h1
  clear h640 hl hn
  repeat (any_goals (first
    | assumption
    | ((with_reducible show wpAny _ _ ((int_private% "intFromText") _ _ _) _ _ _); refine text_wp hnd hk.get.1 hk.get.2.1 hk.get.2.2 ?_)
    | wp_step))
  all_goals first | exact ⟨_, rfl, hq⟩ | skip
section
variable {prog : Program} {w : World} {A : Around} {E : Value → Shared → Prop} {s : Shared} {Q : Value → Shared → Prop} {x : PySem.Str} {t : Tok} {n : Int}
theorem call_big (hnd : s.heap.NoDigits) (hn : PySem.intText? x = some n) (hl : x.length ≤ 4300) (hs : x.length ≤ 640 ∨ 640 < (numSeenOf x).length) (h : Q (.int n s.toks) { s with toks := s.toks + 1 }) : wpAny (model prog w) A (call (.type "int") [.str x t]) Q E s := by
  rcases hs with hs | hs
  · exact KIN.call_text hn hs h
  · exact call_int_1 (new_meets hl (Nat.not_le.mpr hs) hn) ⟨hnd, rfl, h⟩
end
end KIB
end PySem.W
namespace DL
open PySem PySem.Spec L2
def rIntT : List V → Hp → VK → Prop := fun xs H Q => ∃ a n, xs = [.str a] ∧ PySem.intText? a = some n ∧ a.length ≤ 4300 ∧ (a.length ≤ 640 ∨ 640 < (PySem.numSeenOf a).length) ∧ Q (.int n) H
def rIntV : List V → Hp → VK → Prop := fun xs H Q => (∃ i, xs = [.int i] ∧ Q (.int i) H) ∨ ∃ k, xs = [.bl k] ∧ Q (.int (if k then 1 else 0)) H
def rIntU : List V → Hp → VK → Prop := cOr rIntV rIntT
theorem call_intT {X : Cx} (hd : NoDig X.K) : CallR X (.type "int") rIntT := by
  intro pins s σ H xs us Q I rs h
  obtain ⟨a, n, rfl, hn, hl, hs, h⟩ := h
  obtain ⟨u, rfl, t, rfl⟩ := vals1 rs
  exact PySem.W.KIB.call_big (hd.at I.kIn) hn hl hs ⟨.int n, H, I.tok _, ⟨_, rfl⟩, h⟩
theorem call_intU {X : Cx} (hd : NoDig X.K) : CallR X (.type "int") rIntU := call_or call_int1 (call_intT hd)
end DL
set_option Elab.async false
set_option linter.all false
set_option maxRecDepth 100000
set_option maxHeartbeats 4000000
/-! X1: an own error class (own bases, then ValueError) whose __init__ says super().__init__('..') and then stores one or two fields. -/
namespace DL
open PySem PySem.Spec PyProof.Rows L2 PySem.W

/-- what the written part tells of the class at C and of its __init__ at fI -/
structure SupC (P : Program) (K : PySem.W.Frag) (mg : Str → Option Value) (C fI : Addr) : Prop where
  ox : OexC K C
  iC : PySem.W.findIn K (.ref C) "__init__" = some (some (.ref fI))
  tI : PySem.W.typeIn K (.ref fI) = some (.type "function")
  sB : PySem.W.subIn K (.ref C) (.type "ValueError") = some true
  sC : PySem.W.mroIn K C (.ref C) = some true
  si : PySem.W.ks_superIn K C C "__init__" = some (some (.builtin "ValueError.__init__"))
  tp : PySem.W.nsIn K cStatics "thirdparty.any" = some none
  top : (P.main.scope.names.lookup ("super" : Str)).isSome = false
  ms : mg "super" = none
/-- the code and the cell of its __init__ -/
structure SupF (P : Program) (K : PySem.W.Frag) (C fI : Addr) (qual : Str) (st : Stmt) (fd : FuncData) : Prop where
  ex : ∃ (oc : Value) (od : Option Addr) (kV doc pm ct : Value) (an : Option Addr) (cda cc : Addr) (osl : Array (Option Value)) (ccl cl : Value) (cdd cld : Option Addr) (ccs csl : Array (Option Value)) (vs : Array Value) (file : Str) (tf : Tok),
    fd = PySem.W.ksFn "__init__" qual (defArgs st) (defBody st) (defScope st) .none kV doc pm an (.ref cda) ct cc ∧
    K.lookup fI = some ⟨oc, od, .func fd, osl⟩ ∧ PySem.W.codeIn K (.ref cda) qual = true ∧ K.lookup cda = some ⟨ccl, cdd, .fields vs, ccs⟩ ∧ vs[2]? = some (.str file tf) ∧ ((P.main.file : Str) == file) = true ∧
    K.lookup cc = some ⟨cl, cld, .cell (some (.ref C)), csl⟩

section
variable {P : Program} {w : World} {K : PySem.W.Frag} {mg : Str → Option Value} {base : Heap} {A : Around} {E : Value → Shared → Prop} {s : Shared} {C fI x : Addr}
/-- the exception while it has no dict -/
abbrev ex0 (C t : Addr) : Obj := PySem.HandSPX.excO C t

/-- super().__init__('..') -/
theorem super_part {body : List Stmt} {qual msg : Str} {scope : Scope} {L cda cc t0 : Addr} {m : Str → Option Value} {p0 p1 p2 p3 p4 p5 : Pos} {j} {fd : FuncData} {oc ccl cl : Value} {od cdd cld : Option Addr} {osl ccs csl : Array (Option Value)} {vs : Array Value} {file : Str} {tf : Tok} {ar : Arg}
    {Q : Flow → Shared → Prop} (T : SupC P K mg C fI) (M : Mod K mg base) (kb : ∀ b o, base.get? b = some o → s.heap.get? b = some o)
    (hf : K.lookup fI = some ⟨oc, od, .func fd, osl⟩) (hp : (fd.params.posonlyargs ++ fd.params.args).head? = some ar)
    (hcode : K.lookup cda = some ⟨ccl, cdd, .fields vs, ccs⟩) (hvs : vs[2]? = some (.str file tf)) (hfile : ((P.main.file : Str) == file) = true)
    (hcell : K.lookup cc = some ⟨cl, cld, .cell (some (.ref C)), csl⟩)
    (hks : scope.names.lookup ("super" : Str) = some .globalImplicit) (hkc : scope.names.lookup ("__class__" : Str) = some .free) (hka : scope.names.lookup ar.arg = some .local) (hk : scope.kind = .function)
    (hi : interactive (PySem.W.ksEnv qual scope L fI (.ref cda) cc) = false)
    (hsw : swapsWith (.Call (.Attribute (.Call (.Name "super" p0) [] [] p1) "__init__" p2) [.Constant (.str msg) j p3] [] p4) none p5.line (PySem.W.ksEnv qual scope L fI (.ref cda) cc) = pure false) {pl : Sem Bool}
    (he : eval (.Call (.Attribute (.Call (.Name "super" p0) [] [] p1) "__init__" p2) [.Constant (.str msg) j p3] [] p4) (PySem.W.ksEnv qual scope L fI (.ref cda) cc) = (do
      let ov ← attributeBase (.Call (.Name "super" p0) [] [] p1) "__init__" (PySem.W.ksEnv qual scope L fI (.ref cda) cc) (eval (.Call (.Name "super" p0) [] [] p1) (PySem.W.ksEnv qual scope L fI (.ref cda) cc))
      standAt p2.atName
      let (f, first) ← holding [ov] (getMethod ov "__init__" pl)
      callWith p4 f first (backTo p4 (starEach [.Constant (.str msg) j p3] (PySem.W.ksEnv qual scope L fI (.ref cda) cc))) []))
    (hse : starEach [.Constant (.str msg) j p3] (PySem.W.ksEnv qual scope L fI (.ref cda) cc) = [(false, eval (.Constant (.str msg) j p3) (PySem.W.ksEnv qual scope L fI (.ref cda) cc))])
    (hn : s.heap.Ns L m) (hv : m ar.arg = some (.ref x)) (hx : s.heap.get? x = some (ex0 C t0))
    (hq : ∀ h' tk t1, (∀ b o, b ≠ x → s.heap.get? b = some o → h'.get? b = some o) → h'.get? x = some (ex0 C t1) → Q .next { s with heap := h', toks := tk }) :
    _root_.PySem.wpAt (model P w) A (.func body (PySem.W.ksEnv qual scope L fI (.ref cda) cc))
      (exec (.Expr (.Call (.Attribute (.Call (.Name "super" p0) [] [] p1) "__init__" p2) [.Constant (.str msg) j p3] [] p4) p5) (PySem.W.ksEnv qual scope L fI (.ref cda) cc)) Q E s := by
  have X : K.In s.heap := M.kin.keeps kb
  obtain ⟨nm, q, N, bs, bm, sn, sub, ab, col, dd, k0, k1, k2, k3, k5, hC, hbm⟩ := T.ox.cls
  have hcl : PySem.W.clsIn K C = some { name := nm, bases := bs, mro := .ref C :: bm, ns := N, qualname := q, hasDict := true, slotNames := sn, subclasses := sub, abstract := ab, collection := col, hasDel := false } := by unfold PySem.W.clsIn; rw [hC] <;> rfl
  obtain ⟨mb, hmb, hblt⟩ := M.blt
  obtain ⟨hp0, g, d, t, os⟩ := s
  have I : PySem.W.InstAt hp0 x (ex0 C t0) C none := ⟨hx, rfl, rfl, trivial⟩
  refine ks_wpAt_Expr_any ?_ hi hsw
  refine ks_wpAt_MethodCall ?_ he
  refine ks_wpAt_super_base (env := PySem.W.ksEnv qual scope L fI (.ref cda) cc) hks hkc (by decide) rfl (X _ _ hf) rfl hp rfl (X _ _ hcode) rfl hvs hfile T.top ?_
  refine PySem.W.ks_loadName_global hk hks (Calls.loadGlobal_builtin (env := PySem.W.ksEnv qual scope L fI (.ref cda) cc) (M.glob.keeps kb) T.ms (hmb.keeps kb) ((hblt "super" (by decide)).trans (by decide +kernel)) ⟨rfl, ?_⟩)
  refine wpAny_loadName_free hk hkc rfl ⟨_, X _ _ hcell, rfl⟩ ?_
  refine wpAny_loadName_local hk hka hn hv ?_
  refine ks_wpAny_isType_cls (X _ _ hC) rfl ⟨rfl, ?_⟩
  refine ks_wpAny_call_super (X _ _ hC) rfl hx rfl (fun c e => by cases e) (PySem.W.looks_mroIn X T.sC) (fun h1 e1 k1 => ?_)
  have X1 : K.In h1 := X.keeps k1
  have hx1 := k1 _ _ hx
  have I1 : PySem.W.InstAt h1 x (ex0 C t0) C none := ⟨hx1, rfl, rfl, trivial⟩
  have hm := T.si
  unfold PySem.W.ks_superIn at hm
  rw [hcl] at hm
  refine PySem.W.kxs_getMethod PySem.W.kxs_ValueError e1 (PySem.W.looks_opaque X1 T.tp) (l₀ := .ref C :: bm) (fun A Q E s k q => wpAny_bind ((PySem.W.looks_clsIn X1 hcl) A _ E s k (wpAny_pure q))) rfl X1 hm (I1.type.andThen (PySem.W.looks_subIn X1 T.sB)) (PySem.W.ks_ne X1 I1 hcl) (by decide) ?_
  have hu : (h1.push (PySem.W.kxs_mw "ValueError.__init__" x)).get? h1.objs.size = some (PySem.W.kxs_mw "ValueError.__init__" x) := Heap.get?_push_at rfl rfl
  have kk : ∀ b o, hp0.get? b = some o → (h1.push (PySem.W.kxs_mw "ValueError.__init__" x)).get? b = some o := fun b o z => Heap.get?_push_of_some _ (k1 b o z)
  generalize hH : h1.push (PySem.W.kxs_mw "ValueError.__init__" x) = h2 at hu kk ⊢
  generalize h1.objs.size = u at hu ⊢
  rw [hse]
  refine PySem.W.kxs_callWith (i := "ValueError.__init__") (x := x) rfl ?_
  refine Calls.evalArgs_plain (Calls.spliced_cons (Calls.Constant_str (pos := p3) (k := j) (Calls.spliced_nil ⟨hu, ?_⟩)))
  have X2 : K.In h2 := X.keeps kk
  have hx2 := kk _ _ hx
  have fin : ∀ h' : Heap, (∀ b o, b ≠ x → h2.get? b = some o → h'.get? b = some o) → h'.get? x = some (ex0 C h2.objs.size) → Q .next ⟨h', g, d, t + 1 + 1, os⟩ := fun h' k e => hq h' _ _ (fun b o hb z => k b o hb (kk b o z)) e
  clear hq
  refine wpAny_call (codeAny_of_tree ?_)
  show wpAny _ A.in1 (callAny (.ref u) ⟨_, []⟩) _ _ _
  simp only [callAny]
  refine wpAny_bind (wpAny_load hu ?_)
  have w1 : (Value.type "method-wrapper" == Value.type "method" || Value.type "method-wrapper" == Value.type "builtin_function_or_method" || Value.type "method-wrapper" == Value.type "method-wrapper") = true := by decide
  simp only [PySem.W.kxs_mw, w1, if_true]
  refine PySem.W.KFB.if_so (by decide) (wpAny_bind ?_)
  refine PySem.W.check_bound_init F.excBase_ValueError.toExcCallFacts (X2 _ _ hC) hx2 rfl (wpAny_bind (wpAny_pure (wpAny_pure ?_)))
  refine ⟨plainId_quiet F.excBase_ValueError.init.plain _, codeAny_builtin F.excBase_ValueError.initEntry ?_⟩
  rw [Around.under_plainId F.excBase_ValueError.init.plain _]
  exact exc_init_tree (cls := .ref C) (t0 := t0) (dv := none) (c2 := .none) (c3 := .none) (b4 := .bool false) hx2 (by show 1 ≤ sizeLine; decide) fun h' k e _ => fin h' k e

theorem ld {env : Env} {L : Addr} {m : Str → Option Value} {n : Str} {pos : Pos} {v : Value} {Q : Value → Shared → Prop} {M : Model} (hn : s.heap.Ns env.locals m) (hv : m n = some v) (h : Q v s)
    (hk : env.scope.kind = .function) (hl : env.scope.names.lookup n = some .local) (hd : (n == ("__debug__" : Str)) = false) : wpAny M A (eval (.Name n pos) env) Q E s := wpAny_Name (wpAny_loadName_local hk hl hn hv h) hd
/-- self.f = y, the first field -/
theorem store1 {qual f pn : Str} {scope : Scope} {L cda cc t0 : Addr} {m : Str → Option Value} {q1 q2 q3 q4 : Pos} {u : Value} {Q : Flow → Shared → Prop} (T : SupC P K mg C fI) (X : K.In s.heap)
    (hno : PySem.W.findIn K (.ref C) f = some none) (hk : scope.kind = .function) (hls : scope.names.lookup ("self" : Str) = some .local) (hlf : scope.names.lookup pn = some .local) (hdf : (pn == ("__debug__" : Str)) = false)
    (hsw : swapsWith (.Name pn q3) (some (.Attribute (.Name "self" q1) f q2)) q4.line (PySem.W.ksEnv qual scope L fI (.ref cda) cc) = pure false)
    (hn : s.heap.Ns L m) (hvs : m "self" = some (.ref x)) (hvf : m pn = some u) (hx : s.heap.get? x = some (ex0 C t0))
    (hq : ∀ h' tk dx, (∀ b o, b ≠ x → s.heap.get? b = some o → h'.get? b = some o) → s.heap.objs.size ≤ dx → dx ≠ x → h'.get? x = some { cls := .ref C, dict := some dx, data := .fields #[.ref t0, .none, .none, .none, .bool false, .none] } →
      h'.Ns1 dx (fun y => if y = f then some u else none) → Q .next { s with heap := h', toks := tk }) :
    wpAny (model P w) A (exec (.Assign [.Attribute (.Name "self" q1) f q2] (.Name pn q3) q4) (PySem.W.ksEnv qual scope L fI (.ref cda) cc)) Q E s := by
  obtain ⟨nm, q, N, bs, bm, sn, sub, ab, col, dd, k0, k1, k2, k3, k5, hC, hbm⟩ := T.ox.cls
  have hcl : PySem.W.clsIn K C = some { name := nm, bases := bs, mro := .ref C :: bm, ns := N, qualname := q, hasDict := true, slotNames := sn, subclasses := sub, abstract := ab, collection := col, hasDel := false } := by unfold PySem.W.clsIn; rw [hC] <;> rfl
  refine plainObj_wpAny_Assign_Attribute (ld (L := L) hn hvf (ld (L := L) hn hvs ?_ hk hls (by decide)) hk hlf hdf) hsw
  obtain ⟨hp0, g, d, t, os⟩ := s
  refine PySem.W.set_plain X (ox := ex0 C t0) (od := none) ⟨hx, rfl, rfl, trivial⟩ T.ox.sa ?_
  exact PySem.HandSPX.exc_osa X hx hcl (show PySem.HandSPX.refsVE (.ref C :: bm) = true from hbm) rfl hno fun h' tk dx k dn dne e1 e2 => hq h' tk dx k dn dne e1 e2
/-- self.g = z, a further one -/
theorem store2 {qual f pn : Str} {scope : Scope} {L cda cc dx : Addr} {m mA : Str → Option Value} {q1 q2 q3 q4 : Pos} {u : Value} {fv : Array Value} {nl : List Str} {Q : Flow → Shared → Prop} (T : SupC P K mg C fI) (X : K.In s.heap)
    (hno : PySem.W.findIn K (.ref C) f = some none) (hk : scope.kind = .function) (hls : scope.names.lookup ("self" : Str) = some .local) (hlf : scope.names.lookup pn = some .local) (hdf : (pn == ("__debug__" : Str)) = false)
    (hsw : swapsWith (.Name pn q3) (some (.Attribute (.Name "self" q1) f q2)) q4.line (PySem.W.ksEnv qual scope L fI (.ref cda) cc) = pure false)
    (hn : s.heap.Ns L m) (hvs : m "self" = some (.ref x)) (hvf : m pn = some u) (hx : s.heap.get? x = some { cls := .ref C, dict := some dx, data := .fields fv }) (hnd : s.heap.Ns1 dx mA) (hw : Within mA nl) (hz : nl.length ≤ 1000)
    (hq : ∀ h' tk, (∀ b o, b ≠ dx → s.heap.get? b = some o → h'.get? b = some o) → h'.Ns1 dx (fun y => if y = f then some u else mA y) → Q .next { s with heap := h', toks := tk }) :
    wpAny (model P w) A (exec (.Assign [.Attribute (.Name "self" q1) f q2] (.Name pn q3) q4) (PySem.W.ksEnv qual scope L fI (.ref cda) cc)) Q E s := by
  obtain ⟨nm, q, N, bs, bm, sn, sub, ab, col, dd, k0, k1, k2, k3, k5, hC, hbm⟩ := T.ox.cls
  have hcl : PySem.W.clsIn K C = some { name := nm, bases := bs, mro := .ref C :: bm, ns := N, qualname := q, hasDict := true, slotNames := sn, subclasses := sub, abstract := ab, collection := col, hasDel := false } := by unfold PySem.W.clsIn; rw [hC] <;> rfl
  refine plainObj_wpAny_Assign_Attribute (ld (L := L) hn hvf (ld (L := L) hn hvs ?_ hk hls (by decide)) hk hlf hdf) hsw
  obtain ⟨hp0, g, d, t, os⟩ := s
  obtain ⟨oD, _, _, hoD, _, _⟩ := hnd.count hw
  refine PySem.W.set_plain X (ox := { cls := .ref C, dict := some dx, data := .fields fv }) (od := some oD) ⟨hx, rfl, rfl, hoD⟩ T.ox.sa ?_
  exact PySem.OEX.osa_old X hx hnd hw hz hcl (show PySem.HandSPX.refsVE (.ref C :: bm) = true from hbm) rfl hno fun h' tk k e => hq h' tk k e
end

/-! ### the abstract heap behind it -/
section
variable {P : Program} {w : World} {H : Hp} {h h' : Heap} {a dx C : Addr} {fs : List Addr} {fl : List (Str × V)}
theorem exc_end (hok : HOk P w H h) (e : H a = some (exo a C none)) (k : ∀ b o, b ≠ a → h.get? b = some o → h'.get? b = some o) (dn : h.objs.size ≤ dx) (dne : dx ≠ a) {t1 : Addr}
    (hx : h'.get? a = some ({ cls := .ref C, dict := some dx, data := .fields #[.ref t1, .none, .none, .none, .bool false, .none] } : Obj)) {mA : Str → Option Value} (hn : h'.Ns1 dx mA) (r : ∀ g, RelO (fl.lookup g) (mA g)) :
    Un fs [] H (upd (upd H dx (exd dx fl)) a (exo a C (some dx))) h h' ∧ HOk P w (upd (upd H dx (exd dx fl)) a (exo a C (some dx))) h' := by
  have hnd : H dx = none := hok.fresh dn
  have mu : Mut (H a) := by rw [e]; exact True.intro
  have ok1 : HOk P w (upd H a (exo a C (some dx))) h' := hok.write mu (.inl rfl) k ⟨_, hx⟩ (exo_ok hx)
  have un1 : Un fs [] H (upd H a (exo a C (some dx))) h h' := Un.write mu (.inl rfl) k ⟨_, hx⟩
  have hsw : upd (upd H dx (exd dx fl)) a (exo a C (some dx)) = upd (upd H a (exo a C (some dx))) dx (exd dx fl) := by
    funext b
    unfold upd
    by_cases h1 : b = a
    · subst h1; rw [if_pos rfl, if_neg (Ne.symm dne), if_pos rfl]
    · rw [if_neg h1, if_neg h1]
  have hn1 : upd H a (exo a C (some dx)) dx = none := by rw [upd_ne dne]; exact hnd
  rw [hsw]
  refine ⟨⟨un1.keep, un1.slot, fun b o q n x => ?_, un1.there, fun b xs q => ?_, fun b o u q => ?_, fun b ps q => ?_⟩, fun b u q => ?_⟩
  · rw [upd_ne (Nat.ne_of_lt (Nat.lt_of_lt_of_le (Heap.lt_size q) dn))]; exact un1.free b o q n x
  · rw [upd_ne (ne_of_none (un1.tups b xs q) hn1)]; exact un1.tups b xs q
  · rw [upd_ne (ne_of_none (un1.frzs b o u q) hn1)]; exact un1.frzs b o u q
  · obtain ⟨more, z⟩ := un1.tbls b ps q
    exact ⟨more, by rw [upd_ne (ne_of_none z hn1)]; exact z⟩
  · by_cases hb : b = dx
    · subst hb
      rw [upd_same] at q
      cases q
      exact exd_ok hn r
    · rw [upd_ne hb] at q
      exact (ok1 b u q).stay (fun _ _ _ z => z) (fun c hc => by rw [upd_ne (ne_of_none hc hn1)]; exact hc) fun c xs hc => by rw [upd_ne (ne_of_none hc hn1)]; exact hc
end

/-- what __init__(self, f) promises: the fresh exception gets its dict with the one field | the two fields -/
def spI1 (C : Addr) (f : Str) : Sp := fun vs H Q _ => ∃ (a : Addr) (y : V), vs = [.ref a, y] ∧ H a = some (exo a C none) ∧ ∀ d, H d = none → d ≠ a → Q .non (upd (upd H d (exd d [(f, y)])) a (exo a C (some d)))
def spI2 (C : Addr) (f g : Str) : Sp := fun vs H Q _ => ∃ (a : Addr) (y z : V), vs = [.ref a, y, z] ∧ H a = some (exo a C none) ∧ ∀ d, H d = none → d ≠ a → Q .non (upd (upd H d (exd d [(g, z), (f, y)])) a (exo a C (some d)))
theorem ns_keep {h h' : Heap} {L x : Addr} {m : Str → Option Value} (hn : h.Ns L m) (hx : L ≠ x) (k : ∀ b o, b ≠ x → h.get? b = some o → h'.get? b = some o) : h'.Ns L m := by
  obtain ⟨o, es, ep, ho, r⟩ := hn
  exact ⟨o, es, ep, k _ _ hx ho, r⟩
section
variable {P : Program} {w : World} {K : PySem.W.Frag} {mg : Str → Option Value} {base : Heap} {C fI : Addr} {st : Stmt} {qual f g msg : Str} {fd : FuncData} {j : _} {p0 p1 p2 p3 p4 p5 q1 q2 q3 q4 r1 r2 r3 r4 : Pos} {CX : CXT} {k : Nat}
/-- what is read off the text of __init__ (all by rfl) -/
structure InitText (st : Stmt) (qual : Str) (fI : Addr) (msg : Str) (j : Nat) (p0 p1 p2 p3 p4 p5 : Pos) (names : List Str) (rest : List Stmt) (pl : Sem Bool) : Prop where
  body : defBody st = .Expr (.Call (.Attribute (.Call (.Name "super" p0) [] [] p1) "__init__" p2) [.Constant (.str msg) j p3] [] p4) p5 :: rest
  kind : (defScope st).kind = .function
  co : (defScope st).isCoroutine = false
  gen : (defScope st).isGenerator = false
  cells : ∀ x ∈ (defScope st).names, x.2 ≠ .cell
  loc : ∀ x ∈ names, (defScope st).names.lookup x = some .local
  self : ("self" : Str) ∈ names
  sup : (defScope st).names.lookup ("super" : Str) = some .globalImplicit
  cls : (defScope st).names.lookup ("__class__" : Str) = some .free
  hp : ∃ ar, ((defArgs st).posonlyargs ++ (defArgs st).args).head? = some ar ∧ ar.arg = "self"
  hi : ∀ L cda cc, interactive (PySem.W.ksEnv qual (defScope st) L fI (.ref cda) cc) = false
  hsw : ∀ L cda cc, swapsWith (.Call (.Attribute (.Call (.Name "super" p0) [] [] p1) "__init__" p2) [.Constant (.str msg) j p3] [] p4) none p5.line (PySem.W.ksEnv qual (defScope st) L fI (.ref cda) cc) = pure false
  he : ∀ L cda cc, eval (.Call (.Attribute (.Call (.Name "super" p0) [] [] p1) "__init__" p2) [.Constant (.str msg) j p3] [] p4) (PySem.W.ksEnv qual (defScope st) L fI (.ref cda) cc) = (do
      let ov ← attributeBase (.Call (.Name "super" p0) [] [] p1) "__init__" (PySem.W.ksEnv qual (defScope st) L fI (.ref cda) cc) (eval (.Call (.Name "super" p0) [] [] p1) (PySem.W.ksEnv qual (defScope st) L fI (.ref cda) cc))
      standAt p2.atName
      let (f, first) ← holding [ov] (getMethod ov "__init__" pl)
      callWith p4 f first (backTo p4 (starEach [.Constant (.str msg) j p3] (PySem.W.ksEnv qual (defScope st) L fI (.ref cda) cc))) [])
  hse : ∀ L cda cc, starEach [.Constant (.str msg) j p3] (PySem.W.ksEnv qual (defScope st) L fI (.ref cda) cc) = [(false, eval (.Constant (.str msg) j p3) (PySem.W.ksEnv qual (defScope st) L fI (.ref cda) cc))]
/-- .. and of a store -/
structure StoreText (st : Stmt) (qual : Str) (fI : Addr) (f pn : Str) (q1 q2 q3 q4 : Pos) : Prop where
  lf : (defScope st).names.lookup pn = some .local
  df : (pn == ("__debug__" : Str)) = false
  sw : ∀ L cda cc, swapsWith (.Name pn q3) (some (.Attribute (.Name "self" q1) f q2)) q4.line (PySem.W.ksEnv qual (defScope st) L fI (.ref cda) cc) = pure false
theorem init1_ok {pl : Sem Bool} (T : SupC P K mg C fI) (S : SupF P K C fI qual st fd) (hno : PySem.W.findIn K (.ref C) f = some none)
    (I : InitText st qual fI msg j p0 p1 p2 p3 p4 p5 ["self", f] [.Assign [.Attribute (.Name "self" q1) f q2] (.Name f q3) q4] pl) (St1 : StoreText st qual fI f f q1 q2 q3 q4) (hne : f ≠ "self") : FnOk P w K mg base CX k fI fd ["self", f] (spI1 C f) := by
  obtain ⟨oc, od, kV, doc, pm, ct, an, cda, cc, osl, ccl, cl, cdd, cld, ccs, csl, vs0, file, tf, rfl, lk, hcd, hcode, hvs, hfile, hcell⟩ := S.ex
  refine ⟨fun vs H Q E h => by obtain ⟨a, y, rfl, _⟩ := h; rfl, fun A outer s H args us vs Q E hr e0 hb r hsp => ?_⟩
  obtain ⟨a, y, rfl, ha, hq⟩ := hsp
  obtain ⟨u1, u2, rfl, ra, ry⟩ := vals2 r
  obtain rfl : u1 = Value.ref a := ra
  have kb := fun b o (e : base.get? b = some o) => (e0.bs b o e).1
  have KX : K.In s.heap := e0.mod.kin.keeps kb
  have lim : s.heap.NoLimit := e0.mod.nolimit.keeps kb
  obtain ⟨t1, hx⟩ := exo_at e0.hok ha
  obtain ⟨ar, har, harg⟩ := I.hp
  have hroom : A.depth < recursionLimit := by have := hr.dp; omega
  refine ks_codeAny_call_defAt (body := defBody st) hroom (KX _ _ lk) rfl lim (PySem.W.codeRec_of KX hcd) rfl hb I.cells (fun z hz => I.loc _ (List.of_mem_zip hz).1) (fun h0 hns hk0 => ?_) I.co I.gen I.kind
  have hxL : s.heap.objs.size ≠ a := Nat.ne_of_gt (Heap.lt_size hx)
  rw [I.body]
  have mv1 : ((["self", f] : List Str).zip [Value.ref a, u2]).reverse.lookup ("self" : Str) = some (.ref a) := by
    have e : (("self" : Str) == f) = false := by simpa using fun z => hne z.symm
    simp [List.lookup, e]
  have mv2 : ((["self", f] : List Str).zip [Value.ref a, u2]).reverse.lookup f = some u2 := by simp [List.lookup]
  refine ks_wpAt_execs_cons (super_part (x := a) (t0 := t1) T e0.mod (fun b o e => hk0 _ _ (kb b o e)) lk har hcode hvs hfile hcell I.sup I.cls (by rw [harg]; exact I.loc _ I.self) I.kind (I.hi _ _ _) (I.hsw _ _ _) (I.he _ _ _) (I.hse _ _ _) hns (by rw [harg]; exact mv1) (hk0 _ _ hx) fun h1 tk t2 k1 hx1 => ?_)
  have nK : ∀ {b : Addr} {o : Obj}, K.lookup b = some o → b ≠ a := fun {b o} e z => by
    have q1 := (e0.bs b o (e0.mod.kin b o e)).2
    rw [z, ha] at q1; cases q1
  have k01 : ∀ b o, b ≠ a → s.heap.get? b = some o → h1.get? b = some o := fun b o hb e => k1 b o hb (hk0 b o e)
  have X1 : K.In h1 := fun b o e => k01 b o (nK e) (KX b o e)
  have hn1 := ns_keep hns hxL k1
  have hsz : s.heap.objs.size < h1.objs.size := hn1.lt
  refine wpAt_of_wpAny (wpAny_execs_cons (store1 (x := a) (t0 := t2) T X1 hno I.kind (I.loc _ I.self) St1.lf St1.df (St1.sw _ _ _) hn1 mv1 mv2 hx1 fun h2 tk2 dx k2 dn dne hx2 hn2 => ?_))
  have dn' : h1.objs.size ≤ dx := dn
  refine wpAny_execs_nil ?_
  obtain ⟨un, hok⟩ := exc_end (fs := frs outer) (fl := [(f, y)]) e0.hok ha (fun b o hb e => k2 b o hb (k01 b o hb e)) (by omega) dne hx2 hn2 (relO_put (fs := []) ry fun _ => True.intro)
  exact ⟨.non, _, rfl, e0.bare, un, hok, rfl, hq dx (e0.hok.fresh (by omega)) dne⟩
theorem init2_ok {pl : Sem Bool} (T : SupC P K mg C fI) (S : SupF P K C fI qual st fd) (hno : PySem.W.findIn K (.ref C) f = some none) (hng : PySem.W.findIn K (.ref C) g = some none)
    (I : InitText st qual fI msg j p0 p1 p2 p3 p4 p5 ["self", f, g] [.Assign [.Attribute (.Name "self" q1) f q2] (.Name f q3) q4, .Assign [.Attribute (.Name "self" r1) g r2] (.Name g r3) r4] pl)
    (St1 : StoreText st qual fI f f q1 q2 q3 q4) (St2 : StoreText st qual fI g g r1 r2 r3 r4) (hne : f ≠ "self") (hne2 : g ≠ "self") (hfg : f ≠ g) : FnOk P w K mg base CX k fI fd ["self", f, g] (spI2 C f g) := by
  obtain ⟨oc, od, kV, doc, pm, ct, an, cda, cc, osl, ccl, cl, cdd, cld, ccs, csl, vs0, file, tf, rfl, lk, hcd, hcode, hvs, hfile, hcell⟩ := S.ex
  refine ⟨fun vs H Q E h => by obtain ⟨a, y, z, rfl, _⟩ := h; rfl, fun A outer s H args us vs Q E hr e0 hb r hsp => ?_⟩
  obtain ⟨a, y, z, rfl, ha, hq⟩ := hsp
  obtain ⟨u1, us', rfl, ra, rr⟩ : ∃ u1 us', us = u1 :: us' ∧ RelV (.ref a) u1 ∧ Vals [y, z] us' := by
    cases r with
    | cons r1 r2 => exact ⟨_, _, rfl, r1, r2⟩
  obtain ⟨u2, u3, rfl, ry, rz⟩ := vals2 rr
  obtain rfl : u1 = Value.ref a := ra
  have kb := fun b o (e : base.get? b = some o) => (e0.bs b o e).1
  have KX : K.In s.heap := e0.mod.kin.keeps kb
  have lim : s.heap.NoLimit := e0.mod.nolimit.keeps kb
  obtain ⟨t1, hx⟩ := exo_at e0.hok ha
  obtain ⟨ar, har, harg⟩ := I.hp
  have hroom : A.depth < recursionLimit := by have := hr.dp; omega
  refine ks_codeAny_call_defAt (body := defBody st) hroom (KX _ _ lk) rfl lim (PySem.W.codeRec_of KX hcd) rfl hb I.cells (fun z hz => I.loc _ (List.of_mem_zip hz).1) (fun h0 hns hk0 => ?_) I.co I.gen I.kind
  have hxL : s.heap.objs.size ≠ a := Nat.ne_of_gt (Heap.lt_size hx)
  rw [I.body]
  have e1 : (("self" : Str) == f) = false := by simpa using fun z => hne z.symm
  have e2 : (("self" : Str) == g) = false := by simpa using fun z => hne2 z.symm
  have e3 : (f == g) = false := by simpa using hfg
  have mv1 : ((["self", f, g] : List Str).zip [Value.ref a, u2, u3]).reverse.lookup ("self" : Str) = some (.ref a) := by simp [List.lookup, e1, e2]
  have mv2 : ((["self", f, g] : List Str).zip [Value.ref a, u2, u3]).reverse.lookup f = some u2 := by simp [List.lookup, e3]
  have mv3 : ((["self", f, g] : List Str).zip [Value.ref a, u2, u3]).reverse.lookup g = some u3 := by simp [List.lookup]
  refine ks_wpAt_execs_cons (super_part (x := a) (t0 := t1) T e0.mod (fun b o e => hk0 _ _ (kb b o e)) lk har hcode hvs hfile hcell I.sup I.cls (by rw [harg]; exact I.loc _ I.self) I.kind (I.hi _ _ _) (I.hsw _ _ _) (I.he _ _ _) (I.hse _ _ _) hns (by rw [harg]; exact mv1) (hk0 _ _ hx) fun h1 tk t2 k1 hx1 => ?_)
  have nK : ∀ {b : Addr} {o : Obj}, K.lookup b = some o → b ≠ a := fun {b o} e z => by
    have q1 := (e0.bs b o (e0.mod.kin b o e)).2
    rw [z, ha] at q1; cases q1
  have k01 : ∀ b o, b ≠ a → s.heap.get? b = some o → h1.get? b = some o := fun b o hb e => k1 b o hb (hk0 b o e)
  have X1 : K.In h1 := fun b o e => k01 b o (nK e) (KX b o e)
  have hn1 := ns_keep hns hxL k1
  have hsz : s.heap.objs.size < h1.objs.size := hn1.lt
  refine wpAt_of_wpAny (wpAny_execs_cons (store1 (x := a) (t0 := t2) T X1 hno I.kind (I.loc _ I.self) St1.lf St1.df (St1.sw _ _ _) hn1 mv1 mv2 hx1 fun h2 tk2 dx k2 dn dne hx2 hn2 => ?_))
  have dn' : h1.objs.size ≤ dx := dn
  have k02 : ∀ b o, b ≠ a → s.heap.get? b = some o → h2.get? b = some o := fun b o hb e => k2 b o hb (k01 b o hb e)
  have X2 : K.In h2 := fun b o e => k02 b o (nK e) (KX b o e)
  have rel1 : ∀ h, RelO (([(f, y)] : List (Str × V)).lookup h) (if h = f then some u2 else none) := relO_put (fs := []) ry fun _ => True.intro
  refine wpAny_execs_cons (store2 (x := a) (fv := #[.ref t2, .none, .none, .none, .bool false, .none]) (nl := [f]) T X2 hng I.kind (I.loc _ I.self) St2.lf St2.df (St2.sw _ _ _) (ns_keep hn1 hxL k2) mv1 mv3 hx2 hn2 (within_of rel1) (by simp) fun h3 tk3 k3 hn3 => ?_)
  refine wpAny_execs_nil ?_
  have nd : ∀ {b : Addr} {o : Obj}, s.heap.get? b = some o → b ≠ dx := fun {b o} e z => by
    have q1 : b < s.heap.objs.size := Heap.lt_size e
    have q2 : s.heap.objs.size < dx := Nat.lt_of_lt_of_le hsz dn'
    rw [z] at q1
    exact absurd q1 (Nat.lt_asymm q2)
  obtain ⟨un, hok⟩ := exc_end (fs := frs outer) (fl := [(g, z), (f, y)]) e0.hok ha (fun b o hb e => k3 b o (nd e) (k02 b o hb e)) (by omega) dne (k3 _ _ (Ne.symm dne) hx2) hn3 (relO_put (fs := [(f, y)]) rz rel1)
  exact ⟨.non, _, rfl, e0.bare, un, hok, rfl, hq dx (e0.hok.fresh (by omega)) dne⟩
end

/-! ### raise C(x), raise C(x, y) as data -/
section
variable {K : PySem.W.Frag} {W : WX} {δ : Dn} {C : Addr} {f g : Str} {ta : TA} {x y : PyData}
theorem upd_del {H : Hp} {a d : Addr} {o u v u2 : HO} (hd : H d = none) (ha : H a = none) (hn : d ≠ a) : upd (del (upd (upd (upd H a u) d v) a u2) a) d o = upd H d o := by
  funext b
  by_cases h1 : b = d
  · subst h1; rw [upd_same, upd_same]
  · rw [upd_ne h1, upd_ne h1]
    by_cases h2 : b = a
    · subst h2; rw [del_same, ha]
    · rw [del_ne h2, upd_ne h2, upd_ne h1, upd_ne h2]
theorem rn_raise1 (h : EvA K W ta δ (.ok [x])) : Rn K W (fun _ σ H => tMkO C (spI1 C f) [] ta σ H fun cls d H' => W cls d σ H') δ (.ex δ ⟨C, [(f, x)]⟩) := fun D F0 H0 F H σ s E q =>
  h H0 F H σ _ s.c E fun vs F1 H1 e1 d1 => by
    cases d1 with
    | @cons v _ _ _ dv dn =>
      cases dn
      refine ⟨(by show 1 ≤ 1000; decide), fun a ha => ⟨a, v, rfl, upd_same, fun d hd hne => ⟨rfl, d, _, upd_same, by rw [upd_ne hne, upd_same], ?_, ?_⟩⟩⟩
      · rw [upd_ne hne] at hd; exact hd
      · rw [upd_ne hne] at hd
        rw [upd_del hd ha hne]
        exact q _ _ σ F1 _ ((s.trans e1).trans (Ext.side e1.c hd)) (E.mono (e1.trans (Ext.side e1.c hd))) ⟨rfl, d, [v], rfl, upd_same, .cons dv .nil⟩
theorem rn_raise2 (h : EvA K W ta δ (.ok [x, y])) : Rn K W (fun _ σ H => tMkO C (spI2 C f g) [] ta σ H fun cls d H' => W cls d σ H') δ (.ex δ ⟨C, [(g, y), (f, x)]⟩) := fun D F0 H0 F H σ s E q =>
  h H0 F H σ _ s.c E fun vs F1 H1 e1 d1 => by
    cases d1 with
    | @cons v _ _ _ dv dn =>
      cases dn with
      | @cons u _ _ _ du dn =>
        cases dn
        refine ⟨(by show 2 ≤ 1000; decide), fun a ha => ⟨a, v, u, rfl, upd_same, fun d hd hne => ⟨rfl, d, _, upd_same, by rw [upd_ne hne, upd_same], ?_, ?_⟩⟩⟩
        · rw [upd_ne hne] at hd; exact hd
        · rw [upd_ne hne] at hd
          rw [upd_del hd ha hne]
          exact q _ _ σ F1 _ ((s.trans e1).trans (Ext.side e1.c hd)) (E.mono (e1.trans (Ext.side e1.c hd))) ⟨rfl, d, [u, v], rfl, upd_same, .cons du (.cons dv .nil)⟩
end
end DL
set_option Elab.async false
set_option linter.all false
set_option maxRecDepth 100000
set_option maxHeartbeats 4000000
/-! DX3: operators and built-ins on data. -/
namespace DL
open PySem L2

/-- a ratio as a pair -/
abbrev rat (p : Int × Int) : PyData := .tuple [.int p.1, .int p.2]
section
variable {K : PySem.W.Frag} {W : WX} {δ : Dn} {ta tb te tc : TE} {t u : TT} {x y z d : PyData} {r r' : R2} {e : Exn}
theorem rd_l (h : RD K r x y z) : RD K (rOr r r') x y z := fun F H u v Q s du dv q => .inl (h F H u v Q s du dv q)
theorem rd_r (h : RD K r' x y z) : RD K (rOr r r') x y z := fun F H u v Q s du dv q => .inr (h F H u v Q s du dv q)
theorem rd_addI {i j : Int} : RD K (rAddU K) (.int i) (.int j) (.int (i + j)) := rd_l rd_I0
theorem rd_addS {i j : Str} (h : i.length + j.length ≤ sizeLine) : RD K (rAddU K) (.str i) (.str j) (.str (i ++ j)) := rd_r (rd_l fun F H u v Q s du dv q => by
  cases du; cases dv
  exact ⟨i, j, rfl, rfl, h, q _ F H (Ext.refl s) (.str _)⟩)
theorem rd_catT {l m : List PyData} (h : l.length + m.length ≤ sizeLine) : RD K (rCatA K) (.tuple l) (.tuple m) (.tuple (l ++ m)) := fun F H u v Q s du dv q => by
  cases du with
  | @tup a xs _ hs ha =>
    cases dv with
    | @tup b ys _ hs2 ha2 =>
      refine ⟨a, b, xs, ys, rfl, rfl, sqT_mono s hs, sqT_mono s hs2, by rw [dpa_len ha, dpa_len ha2]; exact h, fun e1 => ?_, fun _ e2 => ?_, fun _ _ p hp => ?_⟩
      · subst e1; cases ha
        exact q _ F H (Ext.refl s) (.tup hs2 ha2)
      · subst e2; cases ha2
        rw [List.append_nil] at q
        exact q _ F H (Ext.refl s) (.tup hs ha)
      · refine q _ (upd F p (.tup (xs ++ ys))) _ (Ext.new s hp) (.tup (SqT.of upd_same) (dpAll_mono (same_upd (Same.refl _) (s.free hp)) _ _ (dpa_append ha ha2)))
theorem rd_addT {l m : List PyData} (h : l.length + m.length ≤ sizeLine) : RD K (rAddU K) (.tuple l) (.tuple m) (.tuple (l ++ m)) := rd_r (rd_r (rd_r (rd_catT h)))
theorem rd_sub {i j : Int} : RD K (rI0 fun i j => .int (i - j)) (.int i) (.int j) (.int (i - j)) := rd_I0
theorem rd_mulI {i j : Int} (h : CMulW i j) : RD K rMulU (.int i) (.int j) (.int (i * j)) := rd_l (rd_I (.inl h))
theorem rd_mulL {i j : Int} (h1 : -(2 ^ 64) < j) (h2 : j < 2 ^ 64) : RD K rMulU (.int i) (.int j) (.int (i * j)) := rd_l (rd_I (.inr (.inr ⟨h1, h2⟩)))
theorem rd_mulS {z : Str} {n : Int} (h0 : 0 ≤ n) (h1 : n ≤ 16777216) (h2 : z.length * n.toNat ≤ 16777216) : RD K rMulU (.str z) (.int n) (.str ⟨(List.replicate n.toNat z.cps).foldl (· ++ ·) #[]⟩) := rd_r fun F H u v Q s du dv q => by
  cases du; cases dv
  exact ⟨z, n, rfl, rfl, h0, h1, h2, q _ F H (Ext.refl s) (.str _)⟩
theorem rd_fdiv {i j : Int} (h : j ≠ 0) (h2 : j.natAbs.log2 < 9000) : RD K (rI CDivX fun i j => .int (i.fdiv j)) (.int i) (.int j) (.int (i.fdiv j)) := rd_I ⟨h, h2⟩
theorem rd_mod {C : Int → Int → Prop} {i j : Int} (h : C i j) : RD K (rI C fun i j => .int (i.fmod j)) (.int i) (.int j) (.int (i.fmod j)) := rd_I h
/-! == over all kinds -/
def rEqU (K : PySem.W.Frag) : R2 := rOr rEq (rEqD K)
def rNeU (K : PySem.W.Frag) : R2 := rOr rNe (rNeD K)
theorem op_eqU {X : Cx} (hu : X.A.units + 64 < cLine) : OpR X (compareOp .Eq) (rEqU X.K) := op_or op_eq (op_eqD hu)
theorem op_neU {X : Cx} (hu : X.A.units + 64 < cLine) : OpR X (compareOp .NotEq) (rNeU X.K) := op_or op_ne (op_neD hu)
theorem hu64 {A : Around} {k : Nat} (hr : Room k A) : A.units + 64 < cLine := by have := hr.un; omega
theorem rd_eqS (h : scalD x y = true) : RD K (rEqU K) x y (.bool (sameD x y)) := rd_l (rd_eq h)
theorem rd_neS (h : scalD x y = true) : RD K (rNeU K) x y (.bool (!sameD x y)) := rd_l (rd_ne h)
theorem rd_eqI {i j : Int} : RD K (rEqU K) (.int i) (.int j) (.bool (decide (i = j))) := rd_eqS (x := .int i) (y := .int j) rfl
theorem rd_neI {i j : Int} : RD K (rNeU K) (.int i) (.int j) (.bool (!decide (i = j))) := rd_neS (x := .int i) (y := .int j) rfl
theorem rd_eqT {i j : Str} : RD K (rEqU K) (.str i) (.str j) (.bool (decide (i = j))) := rd_eqS (x := .str i) (y := .str j) rfl
theorem rd_neT {i j : Str} : RD K (rNeU K) (.str i) (.str j) (.bool (!decide (i = j))) := rd_neS (x := .str i) (y := .str j) rfl
theorem rd_eqB {i j : Bool} : RD K (rEqU K) (.bool i) (.bool j) (.bool (decide (i = j))) := rd_eqS (x := .bool i) (y := .bool j) rfl
theorem rd_eqX (h1 : SeqAt.shaped x = true) (h2 : SeqAt.shaped y = true) : RD K (rEqU K) x y (.bool (PyData.eqv x y)) := rd_r (rd_eqD h1 h2)
theorem rd_neX (h1 : SeqAt.shaped x = true) (h2 : SeqAt.shaped y = true) : RD K (rNeU K) x y (.bool (!PyData.eqv x y)) := rd_r (rd_neD h1 h2)
/-! one sign in a text -/
abbrev rInC : R2 := fun x y H Q => ∃ (c : Nat) (z : Str), x = .str ⟨#[c]⟩ ∧ y = .str z ∧ Q (.bl (decide (c ∈ z.cps.toList))) H
abbrev rNiC : R2 := fun x y H Q => ∃ (c : Nat) (z : Str), x = .str ⟨#[c]⟩ ∧ y = .str z ∧ Q (.bl (!decide (c ∈ z.cps.toList))) H
theorem rd_inC {c : Nat} {z : Str} : RD K rInC (.str ⟨#[c]⟩) (.str z) (.bool (decide (c ∈ z.cps.toList))) := fun F H u v Q s du dv q => by
  cases du; cases dv
  exact ⟨c, z, rfl, rfl, q _ F H (Ext.refl s) (.bl _)⟩
theorem rd_niC {c : Nat} {z : Str} : RD K rNiC (.str ⟨#[c]⟩) (.str z) (.bool (!decide (c ∈ z.cps.toList))) := fun F H u v Q s du dv q => by
  cases du; cases dv
  exact ⟨c, z, rfl, rfl, q _ F H (Ext.refl s) (.bl _)⟩

/-! built-in calls -/
theorem rc1 {f : V → Hp → VK → Prop} {rc : List V → Hp → VK → Prop} (h : RU1 K f x z) (hf : ∀ v H Q, f v H Q → rc [v] H Q) : RC K rc [x] z := fun F H us Q s du q => by
  cases du with
  | cons a b =>
    cases b
    exact hf _ H Q (h F H _ Q s a q)
theorem rc_len_s {z : Str} (h : z.length ≤ sizeLine) : RC K (fun xs H Q => ∃ x n, xs = [x] ∧ LenV K x H n ∧ Q (.int n) H) [.str z] (.int z.length) := fun F H us Q s du q => by
  cases du with
  | cons a b =>
    cases b; cases a
    exact ⟨_, _, rfl, ⟨h, rfl⟩, q _ F H (Ext.refl s) (.int _)⟩
theorem rc_len_t {l : List PyData} : RC K (fun xs H Q => ∃ x n, xs = [x] ∧ LenV K x H n ∧ Q (.int n) H) [.tuple l] (.int l.length) := fun F H us Q s du q => by
  cases du with
  | cons a b =>
    cases b
    cases a with
    | tup hs ha => exact ⟨_, _, rfl, .inr ⟨_, sqT_mono s hs, rfl⟩, by rw [dpa_len ha]; exact q _ F H (Ext.refl s) (.int _)⟩
theorem rc_len_l {l : List PyData} : RC K (fun xs H Q => ∃ x n, xs = [x] ∧ LenV K x H n ∧ Q (.int n) H) [.list l] (.int l.length) := fun F H us Q s du q => by
  cases du with
  | cons a b =>
    cases b
    cases a with
    | lst hs ha => exact ⟨_, _, rfl, .inl ⟨_, s.seq hs, rfl⟩, by rw [dpa_len ha]; exact q _ F H (Ext.refl s) (.int _)⟩
/-- len of an own list -/
theorem ev_lenO {i : Nat} {l : List PyData} (hi : δ[i]? = some (Sl.own l)) : EvD K W (tCB (fun xs H Q => ∃ x n, xs = [x] ∧ LenV K x H n ∧ Q (.int n) H) (tCons (tVar i) tNil)) δ (.ok (.int l.length)) := fun H0 F H σ Q s E q => by
  obtain ⟨p, vs, h1, h2, h3, h4, h5⟩ := E.own i l hi
  exact ⟨_, h1, _, _, rfl, .inl ⟨_, SqL.of h2, rfl⟩, by rw [dpa_len h5]; exact q _ F H (Ext.refl s) (.int _)⟩
theorem rc_abs {i : Int} : RC K (fun xs H Q => ∃ i, xs = [.int i] ∧ Q (.int (if i < 0 then -i else i)) H) [.int i] (.int (if i < 0 then -i else i)) := fun F H us Q s du q => by
  cases du with
  | cons a b =>
    cases b; cases a
    exact ⟨_, rfl, q _ F H (Ext.refl s) (.int _)⟩
theorem rc_max2 {i j : Int} : RC K (fun xs H Q => ∃ i j, xs = [.int i, .int j] ∧ Q (.int (if j > i then j else i)) H) [.int i, .int j] (.int (if j > i then j else i)) := fun F H us Q s du q => by
  cases du with
  | cons a b =>
    cases b with
    | cons c d =>
      cases d; cases a; cases c
      exact ⟨_, _, rfl, q _ F H (Ext.refl s) (.int _)⟩
theorem rc_gcd {i j : Int} : RC K rGcd [.int i, .int j] (.int (Nat.gcd i.natAbs j.natAbs : Nat)) := fun F H us Q s du q => by
  cases du with
  | cons a b =>
    cases b with
    | cons c d =>
      cases d; cases a; cases c
      exact ⟨_, _, rfl, q _ F H (Ext.refl s) (.int _)⟩
theorem rc_intV {i : Int} : RC K rIntU [.int i] (.int i) := fun F H us Q s du q => by
  cases du with
  | cons a b =>
    cases b; cases a
    exact .inl (.inl ⟨_, rfl, q _ F H (Ext.refl s) (.int _)⟩)
theorem rc_intB {k : Bool} : RC K rIntU [.bool k] (.int (if k then 1 else 0)) := fun F H us Q s du q => by
  cases du with
  | cons a b =>
    cases b; cases a
    exact .inl (.inr ⟨_, rfl, q _ F H (Ext.refl s) (.int _)⟩)
theorem rc_intT {a : Str} {n : Int} (h1 : PySem.intText? a = some n) (h2 : a.length ≤ 4300) (h3 : a.length ≤ 640 ∨ 640 < (PySem.numSeenOf a).length) : RC K rIntU [.str a] (.int n) := fun F H us Q s du q => by
  cases du with
  | cons a b =>
    cases b; cases a
    exact .inr ⟨_, _, rfl, h1, h2, h3, q _ F H (Ext.refl s) (.int _)⟩
theorem rc_str {i : Int} (h : i.natAbs < 10 ^ 4300) : RC K rStrI [.int i] (.str (toString i)) := fun F H us Q s du q => by
  cases du with
  | cons a b =>
    cases b; cases a
    exact ⟨_, rfl, h, q _ F H (Ext.refl s) (.str _)⟩
theorem rc_sum {ns : List Int} : RC K (rSum K) [.list (ns.map .int)] (.int ns.sum) := fun F H us Q s du q => by
  cases du with
  | cons a b =>
    cases b
    cases a with
    | lst hs ha =>
      have e := dpAll_ints ha
      subst e
      exact ⟨_, ns, rfl, s.seq hs, q _ F H (Ext.refl s) (.int _)⟩
theorem rc_max {ns : List Int} {m : Int} (h0 : 0 < ns.length) (hm : m ∈ ns) (hx : ∀ y ∈ ns, y ≤ m) : RC K (rMax K) [.list (ns.map .int)] (.int m) := fun F H us Q s du q => by
  cases du with
  | cons a b =>
    cases b
    cases a with
    | lst hs ha =>
      have e := dpAll_ints ha
      subst e
      refine ⟨_, ns, rfl, s.seq hs, h0, fun m' h1 h2 => ?_⟩
      have e2 : m' = m := Int.le_antisymm (hx m' h1) (h2 m hm)
      subst e2
      exact q _ F H (Ext.refl s) (.int _)
/-- tuple(xs), list(xs) -/
abbrev rTupOf (K : PySem.W.Frag) : List V → Hp → VK → Prop := fun xs H Q => ∃ p ys, xs = [.ref p] ∧ ((SqL K H p ys ∧ ∀ l, H l = none → Q (.ref l) (upd H l (.tup ys))) ∨ (SqT K H p ys ∧ Q (.ref p) H))
abbrev rListOf (K : PySem.W.Frag) : List V → Hp → VK → Prop := fun xs H Q => ∃ p ys, xs = [.ref p] ∧ (SqL K H p ys ∨ SqT K H p ys) ∧ ∀ l, H l = none → Q (.ref l) (upd H l (.lst ys))
theorem rc_tup_l {l : List PyData} : RC K (rTupOf K) [.list l] (.tuple l) := fun F H us Q s du q => by
  cases du with
  | cons a b =>
    cases b
    cases a with
    | @lst p ys _ hs ha => exact ⟨_, ys, rfl, .inl ⟨s.seq hs, fun m hm => q _ (upd F m (.tup ys)) _ (Ext.new s hm) (.tup (SqT.of upd_same) (dpAll_mono (same_upd (Same.refl _) (s.free hm)) _ _ ha))⟩⟩
theorem rc_tup_t {l : List PyData} : RC K (rTupOf K) [.tuple l] (.tuple l) := fun F H us Q s du q => by
  cases du with
  | cons a b =>
    cases b
    cases a with
    | @tup p ys _ hs ha => exact ⟨_, ys, rfl, .inr ⟨sqT_mono s hs, q _ F H (Ext.refl s) (.tup hs ha)⟩⟩
theorem rc_list_l {l : List PyData} : RC K (rListOf K) [.list l] (.list l) := fun F H us Q s du q => by
  cases du with
  | cons a b =>
    cases b
    cases a with
    | @lst p ys _ hs ha => exact ⟨_, ys, rfl, .inl (s.seq hs), fun m hm => q _ (upd F m (.lst ys)) _ (Ext.new s hm) (.lst (SqL.of upd_same) (dpAll_mono (same_upd (Same.refl _) (s.free hm)) _ _ ha))⟩
theorem rc_list_t {l : List PyData} : RC K (rListOf K) [.tuple l] (.list l) := fun F H us Q s du q => by
  cases du with
  | cons a b =>
    cases b
    cases a with
    | @tup p ys _ hs ha => exact ⟨_, ys, rfl, .inr (sqT_mono s hs), fun m hm => q _ (upd F m (.lst ys)) _ (Ext.new s hm) (.lst (SqL.of upd_same) (dpAll_mono (same_upd (Same.refl _) (s.free hm)) _ _ ha))⟩

/-! isinstance(x, T), T a built-in type -/
def tyD : PyData → String
  | .none => "NoneType" | .bool _ => "bool" | .int _ => "int" | .str _ => "str" | .list _ => "list" | .tuple _ => "tuple" | .dict _ => "dict"
/-- no instance, class or type in it -/
def notNone : PyData → Bool
  | .none => false
  | _ => true
mutual
def okD : PyData → Bool
  | .list l => okAll l
  | .tuple l => okAll l
  | .dict kvs => okKvs kvs
  | _ => true
def okAll : List PyData → Bool
  | [] => true
  | d :: ds => okD d && okAll ds
def okKvs : List (PyData × PyData) → Bool
  | [] => true
  | (k, d) :: r => notNone k && (okD d && okKvs r)
end
theorem okAll_at : ∀ {l : List PyData} {i : Nat} {d : PyData}, okAll l = true → l[i]? = some d → okD d = true
  | [], i, d, _, h => by simp at h
  | x :: r, 0, d, h, e => by
    simp at e
    subst e
    have h' : (okD x && okAll r) = true := h
    exact (Bool.and_eq_true_iff.mp h').1
  | x :: r, i + 1, d, h, e => by
    have h' : (okD x && okAll r) = true := h
    exact okAll_at (Bool.and_eq_true_iff.mp h').2 (i := i) (by simpa using e)
theorem okAll_mem {l : List PyData} (h : okAll l = true) {d : PyData} (hd : d ∈ l) : okD d = true := by
  obtain ⟨i, hi⟩ := List.getElem?_of_mem hd
  exact okAll_at h hi
theorem okAll_of : ∀ {l : List PyData}, (∀ d ∈ l, okD d = true) → okAll l = true
  | [], _ => rfl
  | x :: r, h => by
    show (okD x && okAll r) = true
    rw [h x List.mem_cons_self, okAll_of fun d hd => h d (List.mem_cons_of_mem _ hd)]; rfl
theorem tyx_of {F H : Hp} {v : V} (s : Same F H) (h : Dq K F v x) (ok : okD x = true) : TyX K H v (.type (tyD x)) := by
  cases h with
  | non => exact .base .non
  | bl b => exact .base (.bl b)
  | int i => exact .base (.int i)
  | str z => exact .base (.str z)
  | lst hs _ =>
    rcases s.seq hs with (q | ⟨o, q⟩) | ⟨o, its, n, q, c, _⟩
    · exact .base (.lst q)
    · exact .base (.frz q)
    · exact .kList q c
  | tup hs _ =>
    rcases sqT_mono s hs with (q | ⟨o, q⟩) | ⟨o, its, n, q, c, _⟩
    · exact .base (.tup q)
    · exact .fTuple q
    · exact .kTuple q c
  | ins _ _ _ => exact absurd ok (by simp [objD, okD, okKvs, notNone])
  | dic h _ _ => exact .base (.dK (s _ _ h))
  | cls C => exact absurd ok (by simp [clsD, okD, okKvs, notNone])
  | ty n => exact absurd ok (by simp [typD, okD, okKvs, notNone])
theorem ev_isi {n : String} {b : Bool} (h : EvD K W ta δ (.ok x)) (hb : kitB (tyD x) n = some b) (ok : okD x = true) : EvD K W (tCB (rIsi K) (tCons ta (tCons (tC (.ty n)) tNil))) δ (.ok (.bool b)) := fun H0 F H σ Q s E q =>
  h H0 F H σ _ s E fun v F1 H1 e1 d1 => ⟨v, .ty n, _, _, b, rfl, .ty n, tyx_of e1.c d1 ok, kit_ty hb, q _ F1 H1 e1 (.bl b)⟩

/-! slices -/
def EvP (K : PySem.W.Frag) (W : WX) (to : TO) (δ : Dn) (o : Option Int) : Prop :=
  ∀ (H0 F H : Hp) (σ : L2.St) (Q : Option Int → Hp → Prop), Same F H → EnvR K H0 F H σ δ → (∀ F' H', Ext F F' H H' → Q o H') → to σ H Q
theorem ep_no : EvP K W tNoPart δ none := fun H0 F H σ Q s E q => q F H (Ext.refl s)
theorem ep_some {i : Int} (h : EvD K W te δ (.ok (.int i))) : EvP K W (tPart te) δ (some i) := fun H0 F H σ Q s E q =>
  h H0 F H σ _ s E fun v F1 H1 e1 d1 => by
    cases d1
    exact ⟨i, rfl, q F1 H1 e1⟩
def RSl (K : PySem.W.Frag) (r : V → Option Int → Option Int → Hp → VK → Prop) (x : PyData) (lo hi : Option Int) (z : PyData) : Prop :=
  ∀ (F H : Hp) (u : V) (Q : VK), Same F H → Dq K F u x → (∀ w F' H', Ext F F' H H' → Dq K F' w z → Q w H') → r u lo hi H Q
theorem ev_sl {r : V → Option Int → Option Int → Hp → VK → Prop} {tl th : TO} {lo hi : Option Int} (h : EvD K W te δ (.ok x)) (h1 : EvP K W tl δ lo) (h2 : EvP K W th δ hi) (hr : RSl K r x lo hi z) : EvD K W (tSl r te tl th) δ (.ok z) := fun H0 F H σ Q s E q =>
  h H0 F H σ _ s E fun v F1 H1 e1 d1 => h1 H0 F1 H1 σ _ e1.c (E.mono e1) fun F2 H2 e2 => h2 H0 F2 H2 σ _ e2.c (E.mono (e1.trans e2)) fun F3 H3 e3 =>
    hr F3 H3 v Q e3.c (dp_mono (e2.trans e3).a _ _ d1) fun w F4 H4 e4 d4 => q w F4 H4 (e1.trans ((e2.trans e3).trans e4)) d4
def slOr (r r' : V → Option Int → Option Int → Hp → VK → Prop) : V → Option Int → Option Int → Hp → VK → Prop := fun x lo hi H Q => r x lo hi H Q ∨ r' x lo hi H Q
def rSlU (K : PySem.W.Frag) : V → Option Int → Option Int → Hp → VK → Prop := slOr (rSlL K) (slOr rSlS (rSlA K))
theorem sl_U {X : Cx} : SlR X (rSlU X.K) := SlR.or sl_list (SlR.or sl_str sl_tupA)
def cutD (l : List PyData) (lo hi : Option Int) : List PyData := (l.drop (HT.sIx l.length 0 lo)).take (HT.sIx l.length l.length hi - HT.sIx l.length 0 lo)
theorem dpa_cut {F : Hp} {vs : List V} {l : List PyData} (h : DqAll K F vs l) (lo hi : Option Int) : DqAll K F (cutV vs lo hi) (cutD l lo hi) := by
  unfold cutV cutD
  rw [dpa_len h]
  exact dpa_take _ (dpa_drop _ h)
theorem rs_l {l : List PyData} {lo hi : Option Int} : RSl K (rSlU K) (.list l) lo hi (.list (cutD l lo hi)) := fun F H u Q s du q => .inl (by
  cases du with
  | @lst p ys _ hs ha => exact ⟨_, ys, rfl, s.seq hs, fun m hm => q _ (upd F m (.lst (cutV ys lo hi))) _ (Ext.new s hm) (.lst (SqL.of upd_same) (dpAll_mono (same_upd (Same.refl _) (s.free hm)) _ _ (dpa_cut ha lo hi)))⟩)
theorem rs_s {w : Str} {lo hi : Option Int} (h : w.length ≤ sizeLine) : RSl K (rSlU K) (.str w) lo hi (.str (cutS w lo hi)) := fun F H u Q s du q => .inr (.inl (by
  cases du
  exact ⟨w, rfl, h, q _ F H (Ext.refl s) (.str _)⟩))
theorem rs_t {l : List PyData} {lo hi : Option Int} : RSl K (rSlU K) (.tuple l) lo hi (.tuple (cutD l lo hi)) := fun F H u Q s du q => .inr (.inr (by
  cases du with
  | @tup p ys _ hs ha =>
    refine ⟨_, ys, rfl, sqT_mono s hs, fun hw => ?_, fun _ m hm => q _ (upd F m (.tup (cutV ys lo hi))) _ (Ext.new s hm) (.tup (SqT.of upd_same) (dpAll_mono (same_upd (Same.refl _) (s.free hm)) _ _ (dpa_cut ha lo hi)))⟩
    have e : cutD l lo hi = l := by
      unfold cutD
      rw [← dpa_len ha, hw.1, hw.2, List.drop_zero, Nat.sub_zero, dpa_len ha, List.take_length]
    rw [e] at q
    exact q _ F H (Ext.refl s) (.tup hs ha)))
/-! methods of texts -/
theorem ev_bm {rm : V → List V → Hp → VK → Prop} {w : Str} {ds : List PyData} {tA : TA} (h : EvD K W te δ (.ok (.str w))) (ha : EvA K W tA δ (.ok ds))
    (hr : ∀ (F H : Hp) (us : List V) (Q : VK), Same F H → DqAll K F us ds → (∀ w F' H', Ext F F' H H' → Dq K F' w z → Q w H') → rm (.str w) us H Q) : EvD K W (tBM K "str" rm te tA) δ (.ok z) := fun H0 F H σ Q s E q =>
  h H0 F H σ _ s E fun v F1 H1 e1 d1 => by
    cases d1
    exact ⟨rfl, ha H0 F1 H1 σ _ e1.c (E.mono e1) fun us F2 H2 e2 d2 => hr F2 H2 us Q e2.c d2 fun w F3 H3 e3 d3 => q w F3 H3 ((e1.trans e2).trans e3) d3⟩
abbrev rSplit : V → List V → Hp → VK → Prop := fun x xs H Q => ∃ a b, x = .str a ∧ xs = [.str b] ∧ (b.length == 0) = false ∧ a.length + 2 ≤ sizeLine ∧ rNewStrs (Txt.split a b) H Q
theorem ev_split {a b : Str} (h : EvD K W te δ (.ok (.str a))) (hb : EvD K W tb δ (.ok (.str b))) (h1 : (b.length == 0) = false) (h2 : a.length + 2 ≤ sizeLine) : EvD K W (tBM K "str" rSplit te (tCons tb tNil)) δ (.ok (.list ((Txt.split a b).map .str))) :=
  ev_bm h (ea_cons hb ea_nil) fun F H us Q s du q => by
    cases du with
    | cons c d =>
      cases d; cases c
      exact ⟨a, b, rfl, rfl, h1, h2, fun p hp => q _ (upd F p (.lst ((Txt.split a b).map V.str))) _ (Ext.new s hp) (.lst (SqL.of upd_same) (strs_dpAll _))⟩
abbrev rJoin (K : PySem.W.Frag) : V → List V → Hp → VK → Prop := fun x xs H Q => ∃ a p, ∃ ys : List Str, x = .str a ∧ xs = [.ref p] ∧ (SqL K H p (ys.map V.str) ∨ SqT K H p (ys.map V.str)) ∧
    (ys.map (·.length)).sum + ys.length * a.length ≤ 16777216 ∧ Q (.str (Txt.join a ys)) H
theorem ev_join {a : Str} {ys : List Str} (h : EvD K W te δ (.ok (.str a))) (hb : EvD K W tb δ (.ok (.list (ys.map .str)))) (hz : (ys.map (·.length)).sum + ys.length * a.length ≤ 16777216) : EvD K W (tBM K "str" (rJoin K) te (tCons tb tNil)) δ (.ok (.str (Txt.join a ys))) :=
  ev_bm h (ea_cons hb ea_nil) fun F H us Q s du q => by
    cases du with
    | cons c d =>
      cases d
      cases c with
      | lst hs ha =>
        have e := dpAll_strs ha
        subst e
        exact ⟨a, _, ys, rfl, rfl, .inl (s.seq hs), hz, q _ F H (Ext.refl s) (.str _)⟩
abbrev rStripC : V → List V → Hp → VK → Prop := fun x xs H Q => ∃ a b, x = .str a ∧ xs = [.str b] ∧ a.length ≤ sizeLine ∧ Q (.str (Txt.stripChars a b)) H
theorem ev_strip {a b : Str} (h : EvD K W te δ (.ok (.str a))) (hb : EvD K W tb δ (.ok (.str b))) (h2 : a.length ≤ sizeLine) : EvD K W (tBM K "str" rStripC te (tCons tb tNil)) δ (.ok (.str (Txt.stripChars a b))) :=
  ev_bm h (ea_cons hb ea_nil) fun F H us Q s du q => by
    cases du with
    | cons c d =>
      cases d; cases c
      exact ⟨a, b, rfl, rfl, h2, q _ F H (Ext.refl s) (.str _)⟩
end
end DL
set_option Elab.async false
set_option linter.all false
set_option maxRecDepth 100000
set_option maxHeartbeats 4000000
/-! DX4: several except clauses with names; own errors raised with an empty context; defs called in an except suite. -/
namespace DL
open PySem PySem.Spec PyProof.Rows L2

/-! ### the statement -/
/-- a clause: its class, its name's slot, its suite -/
abbrev Clause := Value × Nat × (Addr → Value → Option Addr → TS)
def gone (i : Nat) (D : Ends) : Ends where
  nx := fun σ H => D.nx (σ.set i none) H
  rt := D.rt
  bk := fun σ H => D.bk (σ.set i none) H
  ct := fun σ H => D.ct (σ.set i none) H
def wTry (K : PySem.W.Frag) (Wout : WX) (D : Ends) : List Clause → WX
  | [] => Wout
  | cl :: rest => fun k d σ H => ∃ b, PySem.W.exmOne K k cl.1 = some b ∧ (b = true → ∀ z, H z = none → cl.2.2 z k d (gone cl.2.1 D) (σ.set cl.2.1 (some (.ref z))) H) ∧ (b = false → wTry K Wout D rest k d σ H)
inductive Clauses (X : Cx) : List ExceptHandler → List Clause → Prop
  | nil : Clauses X [] []
  | cons {x n : Str} {c : Value} {i : Nat} {u : Addr → Value → Option Addr → TS} {s1 : Stmt} {more : List Stmt} {p q : Pos} {hs : List ExceptHandler} {cs : List Clause} (nm : Names X x c) (at_ : X.N[i]? = some n) (lc : X.env.kindOf n = some .local)
      (run : ∀ (z : Addr) (o : Obj) (k : Value) (d : Option Addr) (pn : List (Addr × Obj)), L2N.Zn k d o → (∃ fs, o.data = .fields fs) → PSs (X.suite z ((z, o) :: pn)) (s1 :: more) (u z k d)) (tl : Clauses X hs cs) :
      Clauses X (.ExceptHandler (some (.Name x p)) (some n) (s1 :: more) q :: hs) ((c, i, u) :: cs)
def tTry (K : PySem.W.Frag) (Wout : WX) (cs : List Clause) (tb : WX → TS) : TS := fun D σ H => tb (wTry K Wout D cs) D σ H
section
variable {X : Cx} {body : List Stmt} {h0 : ExceptHandler} {hs : List ExceptHandler} {cs : List Clause} {pos : Pos} {tb : WX → TS} {Wout : WX}
theorem ps_try (st : X.stack = X.env :: X.outer) (fr : X.env.frame = some X.env.locals) (nd : X.N.Nodup) (tk : L2N.Takes X Wout)
    (hb : ∀ (W : WX) (pn : List (Addr × Obj)) (xe : Value → Shared → Prop), L2N.Takes (X.tr pn xe) W → PassesOwn (model X.prog X.w) X.A X.env xe → PSs (X.tr pn xe) body (tb W)) (hc : Clauses X (h0 :: hs) cs) :
    PS X (.Try body (h0 :: hs) [] [] pos) (tTry X.K Wout cs tb) := by
  constructor
  intro pins s σ H D I want
  have xok := I.ok
  have afr : X.A.frames = some (X.env :: X.outer) := by rw [xok.frames, st]
  apply wpAny_Try_except
  refine wpAny_mono ((hb (wTry X.K Wout D cs) (X.pn ++ pins) (fun e s1 => wpAny (model X.prog X.w) X.A (noteFrame e X.env) (fun _ s2 => wpAny (model X.prog X.w) X.A (setFlight e none) (fun _ s3 => wpAny (model X.prog X.w) X.A (handleBy e X.env (h0 :: hs)) (SP X pins D) X.xe s3) X.xe s2) X.xe s1)
    (fun u s1 got => ?caught) PassesOwn.looking).run [] s σ H D (I.toTry _) want) (fun fl s1 ended => ?fine) fun e s1 z => z
  case caught =>
    obtain ⟨z, B, sI, pins1, σ1, H1, k, d, rfl, I', newB, ups, inSky, Hz, eos, allB, wish⟩ := got
    have I1 : Inv X pins σ1 H1 sI := I'.ofTry xok
    have inSky1 : Sky B (X.env :: X.outer) z (L2N.Zn k d) X.env.locals s1.heap := by rw [← st]; exact inSky
    show wpAny (model X.prog X.w) X.A (noteFrame (.ref z) X.env) _ _ _
    refine L2N.Sky.land L2N.Zn.steady afr fr inSky1 fun g fl1 ups1 => ?_
    have I3 : Inv X pins σ1 H1 { s1 with heap := g } := I1.landed newB fl1.1 (ups.trans ups1) eos allB
    obtain ⟨o3, v3, get3, z3, dat3⟩ := fl1.there
    have noFrame : z ∉ frs (X.env :: X.outer) := fun hm => by
      obtain ⟨_, o', e', hnf⟩ := fl1.2.2.1.mem hm
      rw [get3] at e'; cases e'; exact hnf _ dat3
    have zL : z ≠ X.env.locals := fun e => noFrame (List.mem_filterMap.mpr ⟨X.env, List.mem_cons_self, by rw [fr, e]⟩)
    have zF : z ∉ X.fs := fun hm => by
      obtain ⟨e, he, q⟩ := List.mem_filterMap.mp hm
      exact noFrame (List.mem_filterMap.mpr ⟨e, List.mem_cons_of_mem _ he, q⟩)
    have inSuite := I3.suite get3 dat3 Hz zL zF
    have each : ∀ {l1 : List ExceptHandler} {l2 : List Clause}, Clauses X l1 l2 → wTry X.K Wout D l2 k d σ1 H1 → wpAny (model X.prog X.w) X.A (handleBy (.ref z) X.env l1) (SP X pins D) X.xe { s1 with heap := g } := by
      intro l1 l2 c
      induction c with
      | nil =>
        intro out
        apply wpAny_handleBy_nil
        obtain ⟨-, -, -, oe, vs, T, oT, ts1, he, hz, hd, h1, hr⟩ := id fl1
        unfold PySem.passOn
        refine wpAny_bind (wpAny_field he hd h1 ?_)
        rw [if_neg (show ¬ ((Value.ref T == Value.none) = true) by simp)]
        have up : wpAny (model X.prog X.w) X.A (setFlight (.ref z) X.env.frame) (fun _ s4 => wpAny (model X.prog X.w) X.A (throw (.ref z) : Sem Flow) (SP X pins D) X.xe s4) X.xe { s1 with heap := g } := by
          rw [fr]
          exact HandSPX.setFlight_upZ fl1 fun g4 hh4 ups4 => wpAny_throw (tk _ _ ⟨z, B, sI, pins, σ1, H1, k, d, rfl, I1, newB, (ups.trans ups1).trans ups4, .inr (.inr (by rw [st]; exact hh4)), Hz, eos, allB, out⟩)
        first | exact wpAny_bind up | exact wpAny_bind (wpAny_pure (wpAny_bind up))
      | @cons x n c i u s1' more p q hs' cs' nm at_ lc run tl ih =>
        intro ⟨b, isB, onYes, onNo⟩
        refine wpAny_handleBy_cons (codeAny_handlers_test ?_) (fun q => by cases q)
        have look : PySem.W.Looks (model X.prog X.w) g (typeOf (.ref z)) k := fun A Q E s kp q => wpAny_typeOf_ref (kp _ _ get3) (by rw [z3.1]; exact q)
        have one := PySem.W.exm_one (M := model X.prog X.w) I3.kIn look isB
        have named : ∀ {Q : Value → Shared → Prop} {E : Value → Shared → Prop}, Q c { s1 with heap := g } → wpAny (model X.prog X.w) (X.A.mark (some (.ref z))) (eval (.Name x p) X.env) Q E { s1 with heap := g } := by
          intro Q E q
          obtain ⟨gl, nodbg, own | ⟨own, blt, nn⟩⟩ := nm
          · exact ld_glob (X := X.suite z ((z, o3) :: (X.pn ++ pins))) inSuite gl own q nodbg
          · exact ld_blt (X := X.suite z ((z, o3) :: (X.pn ++ pins))) inSuite gl own blt q nn nodbg
        refine named (one.here ?_)
        cases b
        · show wpAny _ X.A (handleBy (.ref z) X.env hs') _ _ _
          exact ih (onNo rfl)
        · refine codeAny_handlers_suite_as (HandSPX.lands_againZ fl1 fun g4 fl4 ups4 => ?_)
          have I4 : Inv X pins σ1 H1 { s1 with heap := g4 } := I1.landed newB fl4.1 ((ups.trans ups1).trans ups4) eos allB
          obtain ⟨o4, v4, get4, z4, dat4⟩ := fl4.there
          refine store_ok (X := X.suite z ((z, o4) :: (X.pn ++ pins))) (v := .ref z) (I4.suite get4 dat4 Hz zL zF) nd at_ (.inl lc) rfl (fun s5 I5 => ?_) (.inr lc)
          refine wpAny_mono ((run z o4 k d (X.pn ++ pins) z4 ⟨_, dat4⟩).run [] s5 _ H1 _ I5 (onYes rfl z Hz)) (fun fl s6 got6 => ?_) fun _ _ f => False.elim f
          have away : ∀ {σ6 : L2.St} {H6 : Hp} {Q : Shared → Prop}, Inv (X.suite z ((z, o4) :: (X.pn ++ pins))) [] σ6 H6 s6 → (∀ s7, Inv X pins (σ6.set i none) H6 s7 → Q s7) →
              wpAny (model X.prog X.w) X.A (do bindName X.env n .none; unbindBehindTheSuite X.env n q) (fun _ s7 => Q s7) X.xe s6 := fun I6 hq => gone_ok (I6.unsuite xok) nd at_ lc hq
          cases fl with
          | ret r =>
            obtain ⟨w6, σ6, H6, I6, rel6, q6⟩ := got6
            exact away I6 fun _ I7 => ⟨_, _, _, I7, rel6, q6⟩
          | next =>
            obtain ⟨σ6, H6, I6, q6⟩ := got6
            exact away I6 fun _ I7 => ⟨_, _, I7, q6⟩
          | brk =>
            obtain ⟨σ6, H6, I6, q6⟩ := got6
            exact away I6 fun _ I7 => ⟨_, _, I7, q6⟩
          | cont =>
            obtain ⟨σ6, H6, I6, q6⟩ := got6
            exact away I6 fun _ I7 => ⟨_, _, I7, q6⟩
    exact each hc wish
  case fine =>
    cases fl with
    | ret r =>
      obtain ⟨w, σ1, H1, I1, rel, q⟩ := ended
      exact ⟨w, σ1, H1, I1.ofTry xok, rel, q⟩
    | next =>
      obtain ⟨σ1, H1, I1, q⟩ := ended
      exact wpAny_execs_nil ⟨σ1, H1, I1.ofTry xok, q⟩
    | brk =>
      obtain ⟨σ1, H1, I1, q⟩ := ended
      exact ⟨σ1, H1, I1.ofTry xok, q⟩
    | cont =>
      obtain ⟨σ1, H1, I1, q⟩ := ended
      exact ⟨σ1, H1, I1.ofTry xok, q⟩
end
end DL
set_option Elab.async false
set_option linter.all false
set_option maxRecDepth 100000
set_option maxHeartbeats 4000000
/-! DX5: own errors made with an empty context; try, raise and caught fields as data; defs called within a suite. -/
namespace DL
open PySem PySem.Spec PyProof.Rows L2

section
variable {X : Cx} {e : Expr} {es : List Expr} {ta : TA} {p pos : Pos}
theorem pmk_made {CX : CXT} {x : Str} {C fI : Addr} {k : Nat} {fd : FuncData} {ps : List Str} {sp : Sp} {ds : List Value} {dvs : List V} (T : OexC X.K C) (iC : PySem.W.findIn X.K (.ref C) "__init__" = some (some (.ref fI))) (tI : PySem.W.typeIn X.K (.ref fI) = some (.type "function"))
    (F1 : FnOk X.prog X.w X.K X.mg X.base CX k fI fd ps sp) (hr : Room (k + 1) X.A) (hb : Binds X.K fd ps ds) (hdv : Vals dvs ds) (hx : Passes CX X (fun _ _ _ => False)) (hg : Gl X x) (hm : X.mg x = some (.ref C)) (ha : PA X (e :: es) ta)
    (hdb : (x == ("__debug__" : Str)) = false := by decide) (he : starEach (e :: es) X.env = (false, eval e X.env) :: starEach es X.env := by rfl) (hpl : (backTo pos (starEach es X.env)).any (·.1) = false := by rfl) :
    L2N.PMk X (.Call (.Name x p) (e :: es) [] pos) (tMkO C sp dvs ta) := by
  intro pins s σ H Q I want
  obtain ⟨nm, qn, N, bs, bm, sn, sub, ab, col, dd, k0, k1, k2, k3, k5, isC, hasB⟩ := T.cls
  refine wpAny_Call_Name_kw (ld_glob I hg hm (PySem.W.callWith_K (h₀ := X.base) I.ok.mod.kin T.kC (thn (ha.run pos pins s σ H _ I want) fun us s1 ⟨vs, H1, I1, rel, few, q1⟩ => ⟨I1.kIn, ?_⟩) he hpl) hdb)
  show wpAny _ _ (call (.ref C) us) _ _ _
  obtain ⟨hp, g, dr, tk, os⟩ := s1
  have big : hp.objs.size ≤ hp.objs.size + 1 := Nat.le_succ _
  have q2 := q1 (hp.objs.size + 1) (I1.hok.fresh big)
  have old : ∀ b o, hp.get? b = some o → ((hp.push (PySem.W.kdv_tup us)).push (PySem.HandSPX.excO C hp.objs.size)).get? b = some o := fun b o z => Heap.get?_push_of_some _ (Heap.get?_push_of_some _ z)
  have here : ((hp.push (PySem.W.kdv_tup us)).push (PySem.HandSPX.excO C hp.objs.size)).get? (hp.objs.size + 1) = some (PySem.HandSPX.excO C hp.objs.size) := by heap_get
  have I2 : Inv X pins σ (upd H1 (hp.objs.size + 1) (exo (hp.objs.size + 1) C none)) ⟨(hp.push (PySem.W.kdv_tup us)).push (PySem.HandSPX.excO C hp.objs.size), g, dr, tk, os⟩ :=
    I1.laid (t' := tk) (a := hp.objs.size + 1) (o := exo (hp.objs.size + 1) C none) (h' := (hp.push (PySem.W.kdv_tup us)).push (PySem.HandSPX.excO C hp.objs.size)) old big (exo_ok here)
  have rel2 : Vals (V.ref (hp.objs.size + 1) :: (vs ++ dvs)) (Value.ref (hp.objs.size + 1) :: (us ++ ds)) := .cons rfl (rel.append hdv)
  have len2 : (Value.ref (hp.objs.size + 1) :: us ++ ds).length = ps.length := by
    rw [← F1.len _ _ _ _ q2]; exact rel2.length.symm
  have fewU : us.length ≤ sizeLine := by
    rw [← Paired.length rel, sizeLine_eq]; omega
  refine wpAny_call (PySem.HandSPX.call_own F.excBase_ValueError (fun Y => PySem.HandSPX.refsVE_contains Y bm hasB) (I1.kIn _ _ isC) (PySem.W.looks_findIn I1.kIn iC) (fun self => PySem.W.bind_fn I1.kIn self tI) fewU
    (codeAny_mono (F1.run _ X.stack _ _ ⟨Value.ref (hp.objs.size + 1) :: us, []⟩ (Value.ref (hp.objs.size + 1) :: (us ++ ds)) _ _ (fun _ _ _ => False) (hr.make C us []) (I2.env0.make C us []) (hb _ (Value.ref (hp.objs.size + 1) :: us) I2.kIn len2) rel2 q2) fun r s2 ended => ?_))
  cases r with
  | error er => exact hx pins σ _ _ er s2 I2 ended
  | ok fl =>
    cases fl with
    | ret u =>
      obtain ⟨v, H2, sameOs, bare2, un2, hok2, relV, isN, d, fs, atA, atD, freeD, q3⟩ := ended
      subst isN
      obtain ⟨h2, g2, d2, t2, os2⟩ := s2
      obtain ⟨t0, G, J, kG, ge, hoe, na⟩ := mk_end0 (d2 := d2) (t2 := t2) I1 big old un2 hok2 sameOs bare2 atA atD freeD
      exact ⟨relV, hp.objs.size + 1, _, _, ⟨G, g2, d2, t2, os2⟩, _, .ref C, some d, rfl, J, kG, ge, hoe, ⟨rfl, rfl, fun vs z => by cases z; rfl⟩, rfl, rfl, na, rfl, bare2, raises_own T.exC T.tyC, q3⟩
    | next => exact False.elim ended
    | brk => exact False.elim ended
    | cont => exact False.elim ended
end

/-! ### try and raise as data -/
section
variable {K : PySem.W.Frag} {W Wout : WX} {δ δ1 : Dn} {cs : List Clause} {tb : WX → TS} {te : TE} {o : Out} {x : Exn} {d y : PyData}
theorem rn_try (h : ∀ W1, Rn K W1 (tb W1) δ o) (ho : ∀ δ' x, o ≠ .ex δ' x) : Rn K W (tTry K Wout cs tb) δ o := fun D F0 H0 F H σ s E q =>
  h _ D F0 H0 F H σ s E (by
    cases o with
    | ex δ' x => exact absurd rfl (ho δ' x)
    | _ => exact q)
/-- which clause takes it -/
def outGone (i : Nat) : Out → Out
  | .nx δ => .nx (δ.set i .no)
  | .bk δ => .bk (δ.set i .no)
  | .ct δ => .ct (δ.set i .no)
  | o => o
def Takes1 (K : PySem.W.Frag) (x : Exn) (δ : Dn) (o : Out) : List Clause → Prop
  | [] => False
  | cl :: rest => ∃ b, PySem.W.exmOne K (.ref x.c) cl.1 = some b ∧ (b = true → ∃ o1, (∀ (z dd : Addr) (W1 : WX), Rn K W1 (cl.2.2 z (.ref x.c) (some dd)) (δ.set cl.2.1 (.exc (.ref z) dd x.fs)) o1) ∧ (∀ δ' x', o1 ≠ .ex δ' x') ∧ outGone cl.2.1 o1 = o) ∧ (b = false → Takes1 K x δ o rest)
theorem takes_go {D : Ends} {F0 F H0 H : Hp} {σ : L2.St} {c : Value} {d : Option Addr} (s : Ext F0 F H0 H) (E : EnvR K H0 F H σ δ) (hx : XAt K F H x c d) (q : Fin K W D F0 H0 o) : ∀ {cs : List Clause}, Takes1 K x δ o cs → wTry K Wout D cs c d σ H
  | [], h => h.elim
  | cl :: rest, ⟨b, h1, h2, h3⟩ => by
    obtain ⟨rfl, dd, vs, rfl, hd, hv⟩ := hx
    refine ⟨b, h1, fun hb z hz => ?_, fun hb => takes_go s E ⟨rfl, dd, vs, rfl, hd, hv⟩ q (h3 hb)⟩
    obtain ⟨o1, g1, g2, rfl⟩ := h2 hb
    refine g1 z dd (fun _ _ _ _ => False) _ F0 H0 F H _ s (E.setX hd hv) ?_
    cases o1 with
    | ex δ' x' => exact absurd rfl (g2 δ' x')
    | rt d => exact q
    | nx δ' => exact fun F1 H1 σ1 s1 E1 => q F1 H1 _ s1 (E1.wipe1 _)
    | bk δ' => exact fun F1 H1 σ1 s1 E1 => q F1 H1 _ s1 (E1.wipe1 _)
    | ct δ' => exact fun F1 H1 σ1 s1 E1 => q F1 H1 _ s1 (E1.wipe1 _)
theorem rn_tryX (h : ∀ W1, Rn K W1 (tb W1) δ (.ex δ1 x)) (ht : Takes1 K x δ1 o cs) : Rn K W (tTry K Wout cs tb) δ o := fun D F0 H0 F H σ s E q =>
  h _ D F0 H0 F H σ s E fun c d σ1 F1 H1 s1 E1 x1 => takes_go s1 E1 x1 q ht
/-- the caught error's field -/
theorem ev_xf {z dd C : Addr} {i : Nat} {f : Str} {fs : List (Str × PyData)} (hi : δ[i]? = some (.exc (.ref z) dd fs)) (hl : fs.lookup f = some y) : EvD K W (tXf z (.ref C) (some dd) C f (tVar i)) δ (.ok y) := fun H0 F H σ Q s E q => by
  obtain ⟨h1, vs, h2, h3⟩ := E.exc i _ _ _ hi
  have key : ∀ (fs : List (Str × PyData)) (vs : List V), DqAll K F vs (fs.map (·.2)) → fs.lookup f = some y → ∃ v, ((fs.map (·.1)).zip vs).lookup f = some v ∧ Dq K F v y := by
    intro fs
    induction fs with
    | nil => intro vs _ h; cases h
    | cons p r ih =>
      intro vs h hl
      cases h with
      | @cons v _ vr _ a b =>
        rw [List.lookup] at hl
        refine (?_ : ∃ v', List.lookup f ((p.1, v) :: (r.map (·.1)).zip _) = some v' ∧ Dq K F v' y)
        rw [List.lookup]
        cases e : f == p.1 with
        | true =>
          rw [e] at hl
          cases hl
          exact ⟨v, rfl, a⟩
        | false =>
          rw [e] at hl
          exact ih _ b hl
  obtain ⟨v, k1, k2⟩ := key fs vs h3 hl
  exact ⟨.ref z, h1, rfl, rfl, dd, _, v, rfl, h2, k1, q v F H (Ext.refl s) k2⟩
end

/-! ### defs called within a suite -/
structure CalH (P : Program) (w : World) (K : PySem.W.Frag) (mg : Str → Option Value) (base : Heap) (k : Nat) (x : Str) (R : List PyData → Res PyData → Prop) : Prop where
  ex : ∃ (f : Addr) (fd : FuncData) (ps : List Str), L2H.FnH P w K mg base CX0 k f fd ps (spD K R) ∧ mg x = some (.ref f) ∧ PySem.W.keepIn K (.ref f) = true ∧ Binds K fd ps []
section
variable {P : Program} {w : World} {K : PySem.W.Frag} {mg : Str → Option Value} {base : Heap} {x : Str} {st : Stmt} {N ps : List Str} {k : Nat} {R : List PyData → Res PyData → Prop}
theorem okH (D : DefAt K mg x st []) (b : BindH K x st ps [] []) (S : FnScope N ps (defScope st)) (len : ∀ ds r, R ds r → ds.length = ps.length)
    (hb : ∀ (f : Addr) (cdv : Value) (A : Around) (outer : List Env) (s : Shared) (H : Hp) (Ex : XK) (p : Addr × Obj), L2H.Hot1 A p → L2H.RoomH k (A.deeper (PyProof.Rows.envOfC x (defScope st) s.heap.objs.size f cdv)) →
      ∃ t, PSs (L2H.cxH CX0 P w K mg base N x (defScope st) f cdv A outer s H Ex p) (defBody st) t ∧ ∀ ds r, R ds r → ∃ o, Rn K (fun cls d _ H => Ex cls d H) t (dn N ds) o ∧ endsAs o r) : CalH P w K mg base (k + 1) x R := by
  obtain ⟨f, fd, F, hm⟩ := D.ex
  obtain ⟨ws, hw, hB⟩ := b f fd F
  cases hw
  have hpl : ps.length ≤ N.length := by have := congrArg List.length S.pre; rw [List.length_take] at this; omega
  refine ⟨f, fd, ps, ?_, hm, F.kp, hB⟩
  obtain ⟨oc, od, dV, kV, doc, pm, an, cdv, ct, osl, rfl, lk, hcd, _, _⟩ := F.ex
  refine L2H.fn_ofH lk hcd S (fun vs H Q E h => ?_) fun A outer s H vs Q E p hot hr h => ?_
  · obtain ⟨_, ds, r, _, hd, hR, _⟩ := h
    rw [dpa_len hd]; exact len ds r hR
  · obtain ⟨t, h1, h2⟩ := hb f cdv A outer s H E p hot hr
    exact ⟨t, h1, fn_read (fun ds r hR => by rw [len ds r hR]; exact hpl) h h2⟩
end
section
variable {X : Cx} {k j : Nat} {x : Str} {p pos : Pos} {e : Expr} {es : List Expr} {t : TA} {R : List PyData → Res PyData → Prop}
theorem pe_calH (c : CalH X.prog X.w X.K X.mg X.base k x R) (hr : L2H.RoomH j X.A) (hk : k ≤ j) (hc : L2H.HotC X) (ha : PA X (e :: es) t) (hg : Gl X x := by rfl)
    (hdb : (x == ("__debug__" : Str)) = false := by decide) (he : starEach (e :: es) X.env = (false, eval e X.env) :: starEach es X.env := by rfl) (hpl : (backTo pos (starEach es X.env)).any (·.1) = false := by rfl) :
    PE X (.Call (.Name x p) (e :: es) [] pos) (tCallS (spD X.K R) EN t) := by
  obtain ⟨f, fd, ps, F, hm, kp, b⟩ := c.ex
  exact L2H.pe_callH F (hr.mono hk) hc hg hm kp b p0At ha hdb he hpl
theorem hot_suite {z : Addr} {o : Obj} {kc : Value} {d : Option Addr} {pn : List (Addr × Obj)} (hz : L2N.Zn kc d o) (hf : ∃ fs, o.data = .fields fs) : L2H.HotC (X.suite z ((z, o) :: pn)) := by
  obtain ⟨fs, hf⟩ := hf
  exact ⟨(z, o), ⟨rfl, fs, hf, hz.2.2 fs hf⟩, List.mem_cons_self⟩
end
theorem hot_def {P : Program} {w : World} {K : PySem.W.Frag} {mg : Str → Option Value} {base : Heap} {N : List Str} {qual : Str} {scope : Scope} {f : Addr} {cd : Value} {A : Around} {outer : List Env} {s : Shared} {H : Hp} {E : XK} {p : Addr × Obj} (h : L2H.Hot1 A p) :
    L2H.HotC (L2H.cxH CX0 P w K mg base N qual scope f cd A outer s H E p) := ⟨p, h, List.mem_cons_self⟩
section
variable {K : PySem.W.Frag} {W : WX} {δ : Dn} {tA : TA} {ds : List PyData} {d : PyData} {E : L2.St → XK} {R : List PyData → Res PyData → Prop}
theorem ev_callS (h : EvA K W tA δ (.ok ds)) (hR : R ds (.ok d)) : EvD K W (tCallS (spD K R) E tA) δ (.ok d) := fun H0 F H σ Q s En q =>
  h H0 F H σ _ s En fun vs F1 H1 e1 d1 => ⟨F1, ds, .ok d, e1.c, d1, hR, fun v F2 H2 e2 d2 => q v F2 H2 (e1.trans e2) d2⟩
end
end DL
set_option Elab.async false
set_option linter.all false
set_option maxRecDepth 100000
set_option maxHeartbeats 4000000
/-! DX6: sizes; errors by name; the reading tactics. -/
namespace DL
open PySem PySem.Spec PyProof.Rows L2

/-! ### sizes -/
/-- i has at most n bits -/
def Sz (n : Nat) (i : Int) : Prop := i.natAbs < 2 ^ n
section
variable {m n : Nat} {i j : Int}
theorem Sz.mono (h : Sz m i) (e : m ≤ n) : Sz n i := Nat.lt_of_lt_of_le h (Nat.pow_le_pow_right (by decide) e)
theorem Sz.self : Sz (i.natAbs.log2 + 1) i := by
  unfold Sz
  by_cases h : i.natAbs = 0
  · rw [h]; exact Nat.pow_pos (by decide)
  · exact (Nat.log2_lt h).mp (Nat.lt_succ_self _)
theorem Sz.neg (h : Sz m i) : Sz m (-i) := by unfold Sz at *; rw [Int.natAbs_neg]; exact h
theorem Sz.mul (h : Sz m i) (k : Sz n j) : Sz (m + n) (i * j) := by
  unfold Sz at *
  rw [Int.natAbs_mul, Nat.pow_add]
  exact Nat.mul_lt_mul'' h k
theorem two_max (m n : Nat) : 2 ^ m + 2 ^ n ≤ 2 ^ (max m n + 1) := by
  rw [Nat.pow_succ]
  have h1 : 2 ^ m ≤ 2 ^ max m n := Nat.pow_le_pow_right (by decide) (Nat.le_max_left ..)
  have h2 : 2 ^ n ≤ 2 ^ max m n := Nat.pow_le_pow_right (by decide) (Nat.le_max_right ..)
  omega
theorem Sz.add (h : Sz m i) (k : Sz n j) : Sz (max m n + 1) (i + j) := by
  unfold Sz at *
  have := Int.natAbs_add_le i j
  have := two_max m n
  omega
theorem Sz.sub (h : Sz m i) (k : Sz n j) : Sz (max m n + 1) (i - j) := by
  rw [Int.sub_eq_add_neg]; exact h.add k.neg
theorem Sz.log (h : Sz m i) : i.natAbs.log2 ≤ m := by
  unfold Sz at h
  by_cases e : i.natAbs = 0
  · rw [e]; exact Nat.zero_le _
  · exact Nat.le_of_lt ((Nat.log2_lt e).mpr h)
theorem Sz.le (h : Sz m i) (e : j.natAbs ≤ i.natAbs) : Sz m j := Nat.lt_of_le_of_lt e h
theorem cmulW_of (h1 : Sz m i) (h2 : Sz n j) (h3 : m + n < 1000000) : CMulW i j := by
  have := h1.log; have := h2.log
  unfold CMulW; omega
theorem fdiv_abs_le (i j : Int) (hd : j ∣ i) : (i.fdiv j).natAbs ≤ i.natAbs := by
  obtain ⟨c, rfl⟩ := hd
  by_cases h : j = 0
  · subst h; simp
  · rw [Int.mul_fdiv_cancel_left _ h, Int.natAbs_mul]
    exact Nat.le_mul_of_pos_left _ (by omega)
end

/-! ### errors by name -/
/-- an own error class with one field | two fields -/
structure Err1 (P : Program) (w : World) (K : PySem.W.Frag) (mg : Str → Option Value) (base : Heap) (x : Str) (C : Addr) (f : Str) : Prop where
  ox : OexC K C
  xf : XfC K C
  nf : PySem.W.findIn K (.ref C) f = some none
  gl : mg x = some (.ref C)
  ex : ∃ (fI : Addr) (fd : FuncData), PySem.W.findIn K (.ref C) "__init__" = some (some (.ref fI)) ∧ PySem.W.typeIn K (.ref fI) = some (.type "function") ∧ FnOk P w K mg base CX0 0 fI fd ["self", f] (spI1 C f) ∧ Binds K fd ["self", f] []
structure Err2 (P : Program) (w : World) (K : PySem.W.Frag) (mg : Str → Option Value) (base : Heap) (x : Str) (C : Addr) (f g : Str) : Prop where
  ox : OexC K C
  xf : XfC K C
  nf : PySem.W.findIn K (.ref C) f = some none
  ng : PySem.W.findIn K (.ref C) g = some none
  gl : mg x = some (.ref C)
  ex : ∃ (fI : Addr) (fd : FuncData), PySem.W.findIn K (.ref C) "__init__" = some (some (.ref fI)) ∧ PySem.W.typeIn K (.ref fI) = some (.type "function") ∧ FnOk P w K mg base CX0 0 fI fd ["self", f, g] (spI2 C f g) ∧ Binds K fd ["self", f, g] []
section
variable {X : Cx} {j : Nat} {x f g : Str} {C : Addr} {p pos : Pos} {e : Expr} {es : List Expr} {t : TA}
theorem pmk_e1 (c : Err1 X.prog X.w X.K X.mg X.base x C f) (hr : Room j X.A) (hk : 1 ≤ j) (ha : PA X (e :: es) t) (hg : Gl X x := by rfl)
    (hdb : (x == ("__debug__" : Str)) = false := by decide) (he : starEach (e :: es) X.env = (false, eval e X.env) :: starEach es X.env := by rfl) (hpl : (backTo pos (starEach es X.env)).any (·.1) = false := by rfl) :
    L2N.PMk X (.Call (.Name x p) (e :: es) [] pos) (tMkO C (spI1 C f) [] t) := by
  obtain ⟨fI, fd, i1, i2, F, b⟩ := c.ex
  exact pmk_made c.ox i1 i2 F (hr.mono hk) b .nil pass0 hg c.gl ha hdb he hpl
theorem pmk_e2 (c : Err2 X.prog X.w X.K X.mg X.base x C f g) (hr : Room j X.A) (hk : 1 ≤ j) (ha : PA X (e :: es) t) (hg : Gl X x := by rfl)
    (hdb : (x == ("__debug__" : Str)) = false := by decide) (he : starEach (e :: es) X.env = (false, eval e X.env) :: starEach es X.env := by rfl) (hpl : (backTo pos (starEach es X.env)).any (·.1) = false := by rfl) :
    L2N.PMk X (.Call (.Name x p) (e :: es) [] pos) (tMkO C (spI2 C f g) [] t) := by
  obtain ⟨fI, fd, i1, i2, F, b⟩ := c.ex
  exact pmk_made c.ox i1 i2 F (hr.mono hk) b .nil pass0 hg c.gl ha hdb he hpl
end
/-- what a raising call lets out goes on -/
theorem passN {X : Cx} {W : WX} (tk : L2N.Takes X W) (σ : L2.St) : PassesAt (L2N.CX X.prog X.w) X σ (WE W σ) := L2N.passAt tk σ
theorem pLN {X : Cx} (σ : L2.St) : PassesAt (L2N.CX X.prog X.w) X σ (EN σ) := fun _ _ _ _ _ _ h => by
  obtain ⟨_, _, _, _, _, _, _, _, _, _, _, _, z⟩ := h
  exact z.elim
section
variable {K : PySem.W.Frag} {W : WX} {δ : Dn} {tt : TT} {t u : TS} {o : Out} {b : Bool}
theorem rn_ifT' (h : EvT K W tt δ (.ok b)) (e : b = true) (h1 : Rn K W t δ o) : Rn K W (tIfS tt t u) δ o := rn_ifT (e ▸ h) h1
theorem rn_ifF' (h : EvT K W tt δ (.ok b)) (e : b = false) (h1 : Rn K W u δ o) : Rn K W (tIfS tt t u) δ o := rn_ifF (e ▸ h) h1
end
/-! ### displays, their length asked last -/
section
variable {K : PySem.W.Frag} {W : WX} {δ : Dn} {ta : TA} {ds : List PyData}
theorem ev_tupH (h : EvA K W ta δ (.ok ds)) (hl : ds.length ≤ sizeLine) : EvD K W (tTup ta) δ (.ok (.tuple ds)) := ev_tup h hl
theorem ev_lstH (h : EvA K W ta δ (.ok ds)) (hl : ds.length ≤ sizeLine) : EvD K W (tLst ta) δ (.ok (.list ds)) := ev_lst h hl
end
/-! ### the same, the written part told apart (for matching by letters) -/
section
variable {K K' : PySem.W.Frag} {W : WX} {δ : Dn} {ta te : TE} {tA : TA} {ds : List PyData} {x d : PyData} {E : L2.St → XK} {R : List PyData → Res PyData → Prop}
theorem ev_isiE {n : String} {b : Bool} (h : EvD K W ta δ (.ok x)) (hb : kitB (tyD x) n = some b) (ok : okD x = true) (e : K' = K) : EvD K W (tCB (rIsi K') (tCons ta (tCons (tC (.ty n)) tNil))) δ (.ok (.bool b)) := by
  subst e; exact ev_isi h hb ok
theorem ev_callE (h : EvA K W tA δ (.ok ds)) (hR : R ds (.ok d)) (e : K' = K) : EvD K W (tCallSD (spD K' R) [] E tA) δ (.ok d) := by
  subst e; exact ev_call0 h hR
theorem ev_callSE (h : EvA K W tA δ (.ok ds)) (hR : R ds (.ok d)) (e : K' = K) : EvD K W (tCallS (spD K' R) E tA) δ (.ok d) := by
  subst e; exact ev_callS h hR
end
/-! ### ways through a test that need not be gone to the end -/
section
variable {K : PySem.W.Frag} {W : WX} {δ : Dn} {t u : TT} {a : Bool}
theorem et_orT (h : EvT K W t δ (.ok a)) (e : a = true) : EvT K W (tOr t u) δ (.ok true) := by
  subst e
  exact et_is (et_or (b := true) h fun z => nomatch z) rfl
theorem et_andF (h : EvT K W t δ (.ok a)) (e : a = false) : EvT K W (tAnd t u) δ (.ok false) := by
  subst e
  exact et_is (et_and (b := true) h fun z => nomatch z) rfl
end
/-! ### knowing less -/
section
variable {K : PySem.W.Frag} {W : WX} {δ δ1 δ2 : Dn} {s : Sl} {t : TS} {te : TE} {o : Out} {d : PyData}
theorem less_nil : Less [] [] := ⟨rfl, fun i s h => by simp at h⟩
theorem less_same (h : Less δ1 δ) : Less (s :: δ1) (s :: δ) := ⟨by simp [h.1], fun i u hu => by
  cases i with
  | zero => exact .inr hu
  | succ i => exact h.2 i u hu⟩
theorem less_no (h : Less δ1 δ) : Less (.no :: δ1) (s :: δ) := ⟨by simp [h.1], fun i u hu => by
  cases i with
  | zero => exact .inl (by simpa using hu.symm)
  | succ i => exact h.2 i u hu⟩
theorem rn_at (e : δ1 = δ) (h : Rn K W t δ o) : Rn K W t δ1 o := e ▸ h
theorem rn_asgE {i : Nat} (h : EvD K W te δ (.ok d)) (e : δ.set i (.val d) = δ1) : Rn K W (tAsg te (gName i)) δ (.nx δ1) := e ▸ rn_asg h
theorem rn_nxE (h : Rn K W t δ (.nx δ1)) (e : δ1 = δ2) : Rn K W t δ (.nx δ2) := e ▸ h
end
section
variable {P : Program} {w : World} {K : PySem.W.Frag} {mg : Str → Option Value} {base : Heap} {x : Str} {st : Stmt} {N ps : List Str} {k : Nat} {dvs dv2 : List V} {R : List PyData → Res PyData → Prop}
/-- a def that may raise, its errors' context told -/
theorem okR (D : DefAt K mg x st dvs) (b : BindH K x st ps dvs dv2) (S : FnScope N ps (defScope st)) (len : ∀ ds r, R ds r → ds.length = ps.length)
    (hb : ∀ (f : Addr) (cdv : Value) (A : Around) (outer : List Env) (s : Shared) (H : Hp) (Ex : XK), Room k (A.deeper (PyProof.Rows.envOfC x (defScope st) s.heap.objs.size f cdv)) →
      ∃ t, PSs (cxOf (L2N.CX P w) P w K mg base N x (defScope st) f cdv A outer s H Ex) (defBody st) t ∧ ∀ ds r, R ds r → ∃ o, Rn K (fun cls d _ H => Ex cls d H) t (dn N ds) o ∧ endsAs o r) : CalX P w K mg base (L2N.CX P w) (k + 1) x dv2 R := by
  obtain ⟨f, fd, F, hm⟩ := D.ex
  obtain ⟨ws, hw, hB⟩ := b f fd F
  have hpl : ps.length ≤ N.length := by have := congrArg List.length S.pre; rw [List.length_take] at this; omega
  refine ⟨f, fd, ps, ws, F.ok S (fun vs H Q E h => ?_) fun cdv A outer s H vs Q E hr h => ?_, hm, F.kp, hB, hw⟩
  · obtain ⟨_, ds, r, _, hd, hR, _⟩ := h
    rw [dpa_len hd]; exact len ds r hR
  · obtain ⟨t, h1, h2⟩ := hb f cdv A outer s H E hr
    exact ⟨t, h1, fn_read (fun ds r hR => by rw [len ds r hR]; exact hpl) h h2⟩
end
/-! ### constants of the module -/
def CI (mg : Str → Option Value) (x : Str) (i : Int) : Prop := ∃ t, mg x = some (.int i t)
def CS (mg : Str → Option Value) (x : Str) (z : Str) : Prop := ∃ t, mg x = some (.str z t)
structure CT (K : PySem.W.Frag) (mg : Str → Option Value) (x : Str) (Z : Addr) (d : PyData) : Prop where
  m : mg x = some (.ref Z)
  d : ∀ F : Hp, Dq K F (.ref Z) d
section
variable {X : Cx} {x : Str} {pos : Pos}
theorem pe_cI {i : Int} (c : CI X.mg x i) (hg : Gl X x := by rfl) (hd : (x == ("__debug__" : Str)) = false := by decide) : PE X (.Name x pos) (tC (.int i)) := by
  obtain ⟨t, c⟩ := c
  exact pe_glob hg c ⟨t, rfl⟩ hd
theorem pe_cS {z : Str} (c : CS X.mg x z) (hg : Gl X x := by rfl) (hd : (x == ("__debug__" : Str)) = false := by decide) : PE X (.Name x pos) (tC (.str z)) := by
  obtain ⟨t, c⟩ := c
  exact pe_glob hg c ⟨t, rfl⟩ hd
theorem pe_cT {Z : Addr} {d : PyData} (c : CT X.K X.mg x Z d) (hg : Gl X x := by rfl) (hd : (x == ("__debug__" : Str)) = false := by decide) : PE X (.Name x pos) (tC (.ref Z)) := pe_glob hg c.m rfl hd
end
theorem ev_cT {K : PySem.W.Frag} {W : WX} {δ : Dn} {mg : Str → Option Value} {x : Str} {Z : Addr} {d : PyData} (c : CT K mg x Z d) : EvD K W (tC (.ref Z)) δ (.ok d) := ev_glob c.d
end DL
set_option Elab.async false
set_option linter.all false
set_option maxRecDepth 100000
set_option maxHeartbeats 4000000
/-! DX7: loops that only look. -/
namespace DL
open PySem PySem.Spec PyProof.Rows L2
theorem rd_mulR {K : PySem.W.Frag} {i j : Int} (h1 : -(2 ^ 64) < i) (h2 : i < 2 ^ 64) : RD K rMulU (.int i) (.int j) (.int (i * j)) := rd_l (rd_I (.inr (.inl ⟨h1, h2⟩)))
theorem rd_pow {K : PySem.W.Frag} {i j : Int} (h : CPow i j) : RD K (rI CPow fun i j => .int (i ^ j.toNat)) (.int i) (.int j) (.int (i ^ j.toNat)) := rd_I h
theorem Sz.fmod {n : Nat} {i j : Int} (h : 0 < j) (hj : Sz n j) : Sz n (i.fmod j) := by
  have h1 := Int.fmod_nonneg_of_pos i h
  have h2 := Int.fmod_lt_of_pos i h
  exact hj.le (by omega)
theorem at_int {ns : List Int} {i : Nat} (h : i < ns.length) : atI (ns.map PyData.int) (i : Int) = some (.int (ns.getD i 0)) := by
  unfold atI ixN
  rw [if_pos (by omega), if_pos (by rw [List.length_map]; omega)]
  show (ns.map PyData.int)[(i : Int).toNat]? = _
  rw [show (i : Int).toNat = i by omega, List.getElem?_map, List.getElem?_eq_getElem h, List.getD_eq_getElem?_getD, List.getElem?_eq_getElem h]; rfl
theorem cut_from (l : List PyData) (k : Nat) : cutD l (some (k : Int)) none = l.drop k := by
  unfold cutD
  rw [HT.sIx_none, HT.sIx_nat]
  by_cases h : k ≤ l.length
  · rw [Nat.min_eq_left h]
    exact List.take_of_length_le (by simp)
  · rw [Nat.min_eq_right (by omega), List.drop_eq_nil_of_le (Nat.le_refl _), List.drop_eq_nil_of_le (by omega)]
    simp
theorem cut_to (l : List PyData) (k : Nat) : cutD l none (some (k : Int)) = l.take k := by
  unfold cutD
  rw [HT.sIx_none, HT.sIx_nat]
  rw [List.drop_zero, Nat.sub_zero]
  by_cases h : k ≤ l.length
  · rw [Nat.min_eq_left h]
  · rw [Nat.min_eq_right (by omega), List.take_of_length_le (Nat.le_refl _), List.take_of_length_le (by omega)]
theorem atI_zero {α : Type} {c : α} {l : List α} : atI (c :: l) 0 = some c := by
  unfold atI ixN
  rw [if_pos (Int.le_refl 0), if_pos (by simp)]
  rfl
theorem at_nat {α : Type} {l : List α} {i : Nat} : atI l (i : Int) = l[i]? := by
  unfold atI ixN
  rw [if_pos (by omega)]
  by_cases h : i < l.length
  · rw [if_pos (by omega)]; rfl
  · rw [if_neg (by omega)]
    exact (List.getElem?_eq_none (by omega)).symm
section
variable {K : PySem.W.Frag} {W : WX} {δ : Dn} {wi : TI} {g : TG} {t : TS} {js : List Nat} {r : PyData}
/-- a loop that leaves at the first bad one -/
theorem rn_all {l : List PyData} (bad : PyData → Bool) (h : SrcD K wi δ l)
    (good : ∀ (i : Nat) d, l[i]? = some d → bad d = false → ∃ δ1 δ2, AsD K g js d δ δ1 ∧ Rn K W t δ1 (.nx δ2) ∧ Less δ δ2)
    (leave : ∀ (i : Nat) d, l[i]? = some d → bad d = true → ∃ δ1, AsD K g js d δ δ1 ∧ Rn K W t δ1 (.rt r)) : Rn K W (tFor wi g t) δ (if l.any bad then .rt r else .nx δ) := by
  have step : ∀ i d, i < l.findIdx bad → l[i]? = some d → ∃ δ' ob, AsD K g js d δ δ' ∧ bodyEnd ob (.nx δ) ∧ Rn K W t δ' ob := fun i d hi hd => by
    have hb : bad d = false := by
      obtain ⟨hl, he⟩ := List.getElem?_eq_some_iff.mp hd
      have := List.not_of_lt_findIdx hi
      subst he
      simpa using this
    obtain ⟨δ1, δ2, g1, g2, g3⟩ := good i d hd hb
    exact ⟨δ1, .nx δ, g1, rfl, rn_weak g3 g2⟩
  by_cases ha : l.any bad = true
  · rw [if_pos ha]
    have hlt : l.findIdx bad < l.length := List.findIdx_lt_length.mpr (by simpa using ha)
    obtain ⟨d, hd⟩ : ∃ d, l[l.findIdx bad]? = some d := ⟨_, List.getElem?_eq_getElem hlt⟩
    have hb : bad d = true := by
      obtain ⟨hl, he⟩ := List.getElem?_eq_some_iff.mp hd
      subst he
      exact List.findIdx_getElem
    obtain ⟨δ1, g1, g2⟩ := leave _ d hd hb
    exact rn_for (fun _ => δ) (l.findIdx bad) (Nat.le_of_lt hlt) h step (.inr ⟨d, δ1, .rt r, hd, g1, rfl, g2⟩)
  · rw [if_neg ha]
    have e : l.findIdx bad = l.length := by
      rw [List.findIdx_eq_length]
      intro x hx
      cases hb : bad x with
      | false => rfl
      | true => exact absurd (List.any_eq_true.mpr ⟨x, hx, hb⟩) ha
    exact rn_for (fun _ => δ) l.length (Nat.le_refl _) h (fun i d hi hd => step i d (by rw [e]; exact hi) hd) (.inl ⟨rfl, rfl⟩)
/-- a loop that finds nothing bad -/
theorem rn_none {l : List PyData} (h : SrcD K wi δ l) (good : ∀ (i : Nat) d, l[i]? = some d → ∃ δ1 δ2, AsD K g js d δ δ1 ∧ Rn K W t δ1 (.nx δ2) ∧ Less δ δ2) : Rn K W (tFor wi g t) δ (.nx δ) :=
  rn_for (fun _ => δ) l.length (Nat.le_refl _) h (fun i d _ hd => by
    obtain ⟨δ1, δ2, g1, g2, g3⟩ := good i d hd
    exact ⟨δ1, .nx δ, g1, rfl, rn_weak g3 g2⟩) (.inl ⟨rfl, rfl⟩)
/-- the errors' calls -/
theorem ev_callXE {K' : PySem.W.Frag} {tA : TA} {ds : List PyData} {e : Exn} {R : List PyData → Res PyData → Prop} (h : EvA K W tA δ (.ok ds)) (hR : R ds (.error e)) (q : K' = K) : EvD K W (tCallSD (spD K' R) [] (WE W) tA) δ (.error e) := by
  subst q; exact ev_callX0 h hR
end
theorem ev_callWE {K K' : PySem.W.Frag} {W : WX} {δ : Dn} {tA : TA} {ds : List PyData} {d : PyData} {E : L2.St → XK} {R : List PyData → Res PyData → Prop} (h : EvA K W tA δ (.ok ds)) (hR : R ds (.ok d)) (q : K' = K) : EvD K W (tCallSD (spD K' R) [] E tA) δ (.ok d) := ev_callE h hR q
/-- xs + [..], xs a list of its own -/
theorem ev_catO {K : PySem.W.Frag} {W : WX} {δ : Dn} {ta : TA} {i : Nat} {l ds : List PyData} (hi : δ[i]? = some (Sl.own l)) (h : EvA K W ta δ (.ok ds)) (hz : l.length + ds.length ≤ sizeLine) : EvD K W (tOp (rAddU K) (tVar i) (tLst ta)) δ (.ok (.list (l ++ ds))) := fun H0 F H σ Q s E q => by
  obtain ⟨p, vs, h1, h2, h3, h4, h5⟩ := E.own i l hi
  refine ⟨_, h1, h H0 F H σ _ s E fun us F1 H1 e1 d1 => ⟨by rw [dpa_len d1]; omega, fun p2 hp2 => ?_⟩⟩
  have e2 := e1.trans (Ext.side e1.c hp2 (o := HO.lst us))
  have hp : H1 p = some (HO.lst vs) := e1.b _ _ h2
  refine .inr (.inr (.inl ⟨p, p2, vs, us, rfl, rfl, by rw [upd_ne (ne_of_none hp hp2)]; exact hp, upd_same, by rw [dpa_len h5, dpa_len d1]; exact hz, fun p3 hp3 => ?_⟩))
  exact q _ (upd F1 p3 (.lst (vs ++ us))) _ (e2.trans (Ext.new e2.c hp3)) (.lst (SqL.of upd_same) (dpAll_mono (same_upd (Same.refl _) (e2.c.free hp3)) _ _ (dpa_append (dpAll_mono e1.a _ _ h5) d1)))
theorem et_orF {K : PySem.W.Frag} {W : WX} {δ : Dn} {t u : TT} {a b : Bool} (h : EvT K W t δ (.ok a)) (e : a = false) (h2 : EvT K W u δ (.ok b)) : EvT K W (tOr t u) δ (.ok b) := by
  subst e
  exact et_is (et_or h fun _ => h2) rfl
theorem et_andT {K : PySem.W.Frag} {W : WX} {δ : Dn} {t u : TT} {a b : Bool} (h : EvT K W t δ (.ok a)) (e : a = true) (h2 : EvT K W u δ (.ok b)) : EvT K W (tAnd t u) δ (.ok b) := by
  subst e
  exact et_is (et_and h fun _ => h2) rfl
/-! ### within a comprehension: the written part by its own name -/
section
variable {X : Cx} {K : PySem.W.Frag}
theorem op_addK (e : X.K = K) : OpR X (binaryOp .Add) (rAddU K) := by subst e; exact op_addU
theorem op_eqK (hu : X.A.units + 64 < cLine) (e : X.K = K) : OpR X (compareOp .Eq) (rEqU K) := by subst e; exact op_eqU hu
theorem op_neK (hu : X.A.units + 64 < cLine) (e : X.K = K) : OpR X (compareOp .NotEq) (rNeU K) := by subst e; exact op_neU hu
theorem sl_K (e : X.K = K) : SlR X (rSlU K) := by subst e; exact sl_U
theorem ix_K (e : X.K = K) : IxR X (rIx K) := by subst e; exact ix_seq
theorem call_lenK (e : X.K = K) : CallR X (.builtin "len") (fun xs H Q => ∃ x n, xs = [x] ∧ LenV K x H n ∧ Q (.int n) H) := by subst e; exact call_len
theorem call_isiK (e : X.K = K) : CallR X (.builtin "isinstance") (rIsi K) := by subst e; exact call_isi
theorem pe_calK {CX : CXT} {k j : Nat} {x : Str} {E : L2.St → XK} {p pos : Pos} {e : Expr} {es : List Expr} {t : TA} {R : List PyData → Res PyData → Prop} {dvs : List V} (q : X.K = K) (c : CalX X.prog X.w X.K X.mg X.base CX k x dvs R) (hr : Room j X.A) (hk : k ≤ j) (hx : ∀ σ, PassesAt CX X σ (E σ)) (ha : PA X (e :: es) t) (hg : Gl X x := by rfl)
    (hdb : (x == ("__debug__" : Str)) = false := by decide) (he : starEach (e :: es) X.env = (false, eval e X.env) :: starEach es X.env := by rfl) (hpl : (backTo pos (starEach es X.env)).any (·.1) = false := by rfl) :
    PE X (.Call (.Name x p) (e :: es) [] pos) (tCallSD (spD K R) dvs E t) := by
  subst q; exact pe_cal c hr hk hx ha hg hdb he hpl
theorem pe_bmK {T : String} {name : Str} {id : String} {r : V → List V → Hp → VK → Prop} {o e : Expr} {es : List Expr} {to : TE} {t : TA} {apos cpos : Pos} (q : X.K = K) (pa : PlainAttrs T) (slot : Slot T name id) (hty : typeOf (.builtin id) = pure (.type "method_descriptor")) (hm : MtR X id r) (ho : PE X o to) (ha : PA X (e :: es) t)
    (hbase : attributeBase o name X.env (eval o X.env) = eval o X.env := by rfl)
    (hfew : ((backTo cpos (starEach (e :: es) X.env)).all (fun x => !x.1) && (backToKw cpos (keywordEach [] X.env)).all (fun x => x.1.isSome) && decide ((e :: es).length + ([] : List Keyword).length + (if ([] : List Keyword).isEmpty then 0 else 1) < 30)) = true := by rfl)
    (hline : (apos.endLine == cpos.line) = true := by rfl) (hs : starEach (e :: es) X.env = (false, eval e X.env) :: starEach es X.env := by rfl) (hplain : (backTo cpos (starEach es X.env)).any (·.1) = false := by rfl) :
    PE X (.Call (.Attribute o name apos) (e :: es) [] cpos) (tBM K T r to t) := by
  subst q; exact pe_bm pa slot hty hm ho ha hbase hfew hline hs hplain
end
theorem pe_calHK {X : Cx} {K : PySem.W.Frag} {k j : Nat} {x : Str} {p pos : Pos} {e : Expr} {es : List Expr} {t : TA} {R : List PyData → Res PyData → Prop} (q : X.K = K) (c : CalH X.prog X.w X.K X.mg X.base k x R) (hr : L2H.RoomH j X.A) (hk : k ≤ j) (hc : L2H.HotC X) (ha : PA X (e :: es) t) (hg : Gl X x := by rfl)
    (hdb : (x == ("__debug__" : Str)) = false := by decide) (he : starEach (e :: es) X.env = (false, eval e X.env) :: starEach es X.env := by rfl) (hpl : (backTo pos (starEach es X.env)).any (·.1) = false := by rfl) :
    PE X (.Call (.Name x p) (e :: es) [] pos) (tCallS (spD K R) EN t) := by
  subst q; exact pe_calH c hr hk hc ha hg hdb he hpl
theorem takesN0 {X : Cx} : L2N.Takes X (fun _ _ _ _ => False) := fun _ _ h => by
  obtain ⟨_, _, _, _, _, _, _, _, _, _, _, _, _, _, _, _, w⟩ := h
  exact w.elim
theorem hu64H {A : Around} {k : Nat} (hr : L2H.RoomH k A) : A.units + 64 < cLine := by have := hr.un; omega
/-- nothing is promised yet -/
theorem cal_none {P : Program} {w : World} {K : PySem.W.Frag} {mg : Str → Option Value} {base : Heap} {CX : CXT} {x : Str} {st : Stmt} {ps : List Str} {dvs dv2 : List V} {R : List PyData → Res PyData → Prop} (D : DefAt K mg x st dvs) (b : BindH K x st ps dvs dv2) (h : ∀ ds r, ¬ R ds r) (k : Nat) : CalX P w K mg base CX k x dv2 R := by
  obtain ⟨f, fd, F, hm⟩ := D.ex
  obtain ⟨ws, hw, hB⟩ := b f fd F
  have no : ∀ vs H Q E, ¬ spD K R vs H Q E := fun vs H Q E ⟨_, ds, r, _, _, hR, _⟩ => h ds r hR
  exact ⟨f, fd, ps, ws, ⟨fun vs H Q E q => absurd q (no _ _ _ _), fun A outer s H args us vs Q E _ _ _ _ q => absurd q (no _ _ _ _)⟩, hm, F.kp, hB, hw⟩
theorem calh_none {P : Program} {w : World} {K : PySem.W.Frag} {mg : Str → Option Value} {base : Heap} {x : Str} {st : Stmt} {ps : List Str} {R : List PyData → Res PyData → Prop} (D : DefAt K mg x st []) (b : BindH K x st ps [] []) (h : ∀ ds r, ¬ R ds r) (k : Nat) : CalH P w K mg base k x R := by
  obtain ⟨f, fd, F, hm⟩ := D.ex
  obtain ⟨ws, hw, hB⟩ := b f fd F
  cases hw
  have no : ∀ vs H Q E, ¬ spD K R vs H Q E := fun vs H Q E ⟨_, ds, r, _, _, hR, _⟩ => h ds r hR
  exact ⟨f, fd, ps, ⟨fun vs H Q E q => absurd q (no _ _ _ _), fun A outer s H args us vs Q E p _ _ _ _ _ _ q => absurd q (no _ _ _ _)⟩, hm, F.kp, hB⟩
/-! ### step by step -/
section
variable {K : PySem.W.Frag} {W : WX} {δ δ1 : Dn} {t u : TS} {o : Out} {r : Res PyData} {d : PyData} {x : Exn}
/-- what is left to be shown of a body -/
def Ends (K : PySem.W.Frag) (W : WX) (t : TS) (δ : Dn) (r : Res PyData) : Prop := ∃ o, Rn K W t δ o ∧ endsAs o r
theorem en_seq (h : Rn K W t δ (.nx δ1)) (q : Ends K W u δ1 r) : Ends K W (tSeq t u) δ r := by
  obtain ⟨o, h1, h2⟩ := q
  exact ⟨o, rn_seq h h1, h2⟩
theorem en_R (h : Rn K W t δ (.rt d)) (e : Except.ok d = r) : Ends K W (tSeq t u) δ r := ⟨_, rn_seqR h, e.symm⟩
theorem en_X (h : Rn K W t δ (.ex δ1 x)) (e : Except.error x = r) : Ends K W (tSeq t u) δ r := ⟨_, rn_seqX h, e.symm⟩
theorem rn_frzE {i : Nat} {l : List PyData} (hi : δ[i]? = some (Sl.own l)) (h : Ends K W t (δ.set i (.val (.list l))) r) : Ends K W t δ r := by
  obtain ⟨o, h1, h2⟩ := h
  exact ⟨o, rn_frz hi h1, h2⟩
theorem okB {a b : Bool} (h : a = b) : (Except.ok (PyData.bool a) : Res PyData) = Except.ok (PyData.bool b) := by rw [h]
theorem okS {a b : Str} (h : a = b) : (Except.ok (PyData.str a) : Res PyData) = Except.ok (PyData.str b) := by rw [h]
theorem okI {a b : Int} (h : a = b) : (Except.ok (PyData.int a) : Res PyData) = Except.ok (PyData.int b) := by rw [h]
theorem en_rt (h : Rn K W t δ (.rt d)) (e : Except.ok d = r) : Ends K W t δ r := ⟨_, h, e.symm⟩
theorem en_ex (h : Rn K W t δ (.ex δ1 x)) (e : Except.error x = r) : Ends K W t δ r := ⟨_, h, e.symm⟩
end
end DL
set_option Elab.async false
set_option linter.all false
set_option maxRecDepth 100000
set_option maxHeartbeats 4000000
/-! DH: the head: facts by names, own errors with super().__init__ among them. -/
namespace DL
open PySem PySem.Spec PyProof.Rows L2 He
/-! ### a method that stands in a cell's sight -/
abbrev FnC : Type := Option (Str × Str × Arguments × FuncBody × Scope × Addr × List Str × Addr)
def fnC (K : PySem.W.Frag) (p : Str × Option Str) : FnC := match K.lookup (fAd K p) with
  | some ⟨_, _, .func fd, _⟩ => some (fd.name, fd.qualname, fd.params, fd.body, fd.scope, fd.globals, fd.closure.map (·.1), fd.builtins)
  | _ => none
/-- an own error's __init__: the class, its qualified name, its text -/
structure SupD where
  C : Str
  qual : Str
  st : Stmt
def SupD.val (d : SupD) : FnC := some ("__init__", d.qual, defArgs d.st, .stmts (defBody d.st), defScope d.st, mainGlobals, ["__class__"], builtinsNs)
def oexB (K : PySem.W.Frag) (C : Addr) : Bool := PySem.W.excInitIn K C veBase "ValueError.__new__" && (match K.lookup C with
  | some ⟨_, _, .cls cd, _⟩ => cd.hasDict && (match cd.mro with
    | _ :: bm => decide (PySem.HandSPX.refsVE bm = true)
    | _ => false)
  | _ => false) && (eqO (PySem.W.findIn K (.ref C) "__setattr__") (some (some (.builtin "object.__setattr__"))) && (decide (PySem.W.subIn K (.ref C) (.type "BaseException") = some true) && (decide (PySem.W.typeIn K (.ref C) = some (.type "type")) && PySem.W.keepIn K (.ref C))))
theorem oexB_ok {K : PySem.W.Frag} {C : Addr} (h : oexB K C = true) : OexC K C := by
  obtain ⟨h0, h⟩ := ba h
  obtain ⟨h0, h1⟩ := ba h0
  obtain ⟨h2, h⟩ := ba h
  obtain ⟨h3, h⟩ := ba h
  obtain ⟨h4, h5⟩ := ba h
  refine ⟨?_, eqO_ok h2, of_decide_eq_true h3, of_decide_eq_true h4, h5⟩
  unfold PySem.W.excInitIn at h0
  split at h0
  · rename_i dd cd sl ho
    rw [ho] at h1
    split at h0
    · rename_i C' bm k0 k1 k2 k3 n k5 hm hs
      simp only [Bool.and_eq_true, beq_iff_eq, Bool.not_eq_true'] at h0
      obtain ⟨⟨⟨rfl, rfl⟩, hdel⟩, ht⟩ := h0
      obtain ⟨nm, bs, mro, ns, qn, hd, sn, sub, ab, col, del⟩ := cd
      dsimp only at hm hdel
      subst hm hdel
      have hsl : sl = #[k0, k1, k2, k3, some (.builtin "ValueError.__new__"), k5] := by
        obtain ⟨l⟩ := sl
        simp only at hs
        rw [hs]
      obtain ⟨g1, g2⟩ := ba h1
      have g1' : hd = true := g1
      subst g1' hsl
      exact ⟨nm, qn, ns, bs, bm, sn, sub, ab, col, dd, k0, k1, k2, k3, k5, ho, of_decide_eq_true g2⟩
    · cases h0
  · cases h0
def supFB (K : PySem.W.Frag) (C : Addr) (file qual : Str) : Bool := match K.lookup (ma K C "__init__") with
  | some ⟨_, _, .func fd, _⟩ => (match fd.defaults with
    | .none => true
    | _ => false) && (PySem.W.codeIn K fd.code qual && ((match fd.code with
    | .ref cda => (match K.lookup cda with
      | some ⟨_, _, .fields vs, _⟩ => (match (vs[2]? : Option Value) with
        | some (.str f _) => file == f
        | _ => false)
      | _ => false)
    | _ => false) && (match fd.closure with
    | [(_, cc)] => (match K.lookup cc with
      | some ⟨_, _, .cell (some (.ref a)), _⟩ => decide (a = C)
      | _ => false)
    | _ => false)))
  | _ => false
theorem supF_of {P : Program} {K : PySem.W.Frag} {d : SupD} (e : fnC K (d.C, some "__init__") = d.val) (c : supFB K (ga K d.C) P.main.file d.qual = true) : ∃ fd, SupF P K (ga K d.C) (ma K (ga K d.C) "__init__") d.qual d.st fd := by
  unfold fnC at e
  have ef : fAd K (d.C, some "__init__") = ma K (ga K d.C) "__init__" := rfl
  rw [ef] at e
  unfold supFB at c
  cases q : K.lookup (ma K (ga K d.C) "__init__") with
  | none =>
    rw [q] at c
    cases c
  | some o =>
    obtain ⟨oc, od, dt, osl⟩ := o
    rw [q] at c e
    cases dt with
    | func fd =>
      obtain ⟨n1, n2, n3, n4, n5, n6, n7, n8, n9, n10, n11, n12, n13, n14, n15⟩ := fd
      have e2 : (some (n1, n2, n3, n4, n5, n6, n7.map (·.1), n15) : FnC) = (some (("__init__" : Str), d.qual, defArgs d.st, .stmts (defBody d.st), defScope d.st, mainGlobals, ["__class__"], builtinsNs) : FnC) := e
      simp only [Option.some.injEq, Prod.mk.injEq] at e2
      obtain ⟨h1, h2, h3, h4, h5, h6, h7, h8⟩ := e2
      subst h1 h2 h3 h4 h5 h6 h8
      obtain ⟨c1, c⟩ := ba c
      obtain ⟨c2, c⟩ := ba c
      obtain ⟨c3, c4⟩ := ba c
      have d1 : n8 = .none := by
        cases n8 with
        | none => rfl
        | _ => cases c1
      subst d1
      cases n13 with
      | ref cda =>
        have c3' : (match K.lookup cda with
          | some ⟨_, _, .fields vs, _⟩ => (match (vs[2]? : Option Value) with
            | some (.str f _) => P.main.file == f
            | _ => false)
          | _ => false) = true := c3
        cases q2 : K.lookup cda with
        | none =>
          rw [q2] at c3'
          cases c3'
        | some o2 =>
          obtain ⟨oc2, od2, dt2, osl2⟩ := o2
          rw [q2] at c3'
          cases dt2 with
          | fields vs =>
            have c3'' : (match (vs[2]? : Option Value) with
              | some (.str f _) => P.main.file == f
              | _ => false) = true := c3'
            cases q3 : vs[2]? with
            | none =>
              rw [q3] at c3''
              cases c3''
            | some v =>
              rw [q3] at c3''
              cases v with
              | str f tf =>
                cases n7 with
                | nil => cases h7
                | cons p r =>
                  cases r with
                  | nil =>
                    obtain ⟨pn, cc⟩ := p
                    have e7 : pn = "__class__" := by simpa using h7
                    subst e7
                    have c4' : (match K.lookup cc with
                      | some ⟨_, _, .cell (some (.ref a)), _⟩ => decide (a = ga K d.C)
                      | _ => false) = true := c4
                    cases q4 : K.lookup cc with
                    | none =>
                      rw [q4] at c4'
                      cases c4'
                    | some o4 =>
                      obtain ⟨oc4, od4, dt4, osl4⟩ := o4
                      rw [q4] at c4'
                      cases dt4 with
                      | cell cv =>
                        cases cv with
                        | none => cases c4'
                        | some v4 =>
                          cases v4 with
                          | ref a =>
                            have ea : a = ga K d.C := of_decide_eq_true c4'
                            subst ea
                            exact ⟨_, oc, od, n9, n10, n11, n14, n12, cda, cc, osl, oc2, oc4, od2, od4, osl2, osl4, vs, f, tf, rfl, q, c2, q2, q3, c3'', q4⟩
                          | _ => cases c4'
                      | _ => cases c4'
                  | cons _ _ => simp at h7
              | _ => cases c3''
          | _ => cases c3'
      | _ => cases c3
    | _ => cases c
def supCB (K : PySem.W.Frag) (C : Addr) : Bool := oexB K C && (eqO (PySem.W.findIn K (.ref C) "__init__") (some (some (.ref (ma K C "__init__")))) && (decide (PySem.W.typeIn K (.ref (ma K C "__init__")) = some (.type "function")) && (decide (PySem.W.subIn K (.ref C) (.type "ValueError") = some true) && (decide (PySem.W.mroIn K C (.ref C) = some true) && (eqO (PySem.W.ks_superIn K C C "__init__") (some (some (.builtin "ValueError.__init__"))) && eqO (PySem.W.nsIn K cStatics "thirdparty.any") (some none))))))
theorem supC_of {P : Program} {K : PySem.W.Frag} {mg : Str → Option Value} {C : Addr} (h : supCB K C = true) (top : (P.main.scope.names.lookup ("super" : Str)).isSome = false) (ms : mg "super" = none) : SupC P K mg C (ma K C "__init__") := by
  obtain ⟨h1, h⟩ := ba h
  obtain ⟨h2, h⟩ := ba h
  obtain ⟨h3, h⟩ := ba h
  obtain ⟨h4, h⟩ := ba h
  obtain ⟨h5, h⟩ := ba h
  obtain ⟨h6, h7⟩ := ba h
  exact ⟨oexB_ok h1, eqO_ok h2, of_decide_eq_true h3, of_decide_eq_true h4, of_decide_eq_true h5, eqO_ok h6, eqO_ok h7, top, ms⟩
def noDigB (K : PySem.W.Frag) : Bool := PySem.W.nsOkIn K cStatics && eqO (PySem.W.nsIn K cStatics "sys.int_max_str_digits") (some none)
theorem noDigB_ok {K : PySem.W.Frag} (h : noDigB K = true) : NoDig K := ⟨(ba h).1, eqO_ok (ba h).2⟩
/-! ### constants -/
def bltB (K : PySem.W.Frag) (x : Str) (id : String) : Bool := eqO (PySem.W.nsIn K mainGlobals x) (some (some (.builtin id)))
theorem bltB_ok {K : PySem.W.Frag} {h : Heap} {mg : Str → Option Value} {x : Str} {id : String} (X : K.In h) (G : h.Ns mainGlobals mg) (c : bltB K x id = true) : mg x = some (.builtin id) := PySem.W.mg_of X G (eqO_ok c)
/-- a tuple of the module, of plain leaves -/
theorem ct_of {K : PySem.W.Frag} {h : Heap} {mg : Str → Option Value} {x : Str} {vs : List Dv} {ds : List PyData} (X : K.In h) (G : h.Ns mainGlobals mg) (g : (Fa.glo x).ok K = true) (t : tupB K x vs = true) (hd : ∀ F : Hp, DqAll K F (vs.map (Dv.v K)) ds) : CT K mg x (ga K x) (.tuple ds) :=
  ⟨glo_ok X G g, fun F => .tup (tupB_ok t F) (hd F)⟩
theorem cl_of {K : PySem.W.Frag} {h : Heap} {mg : Str → Option Value} {x : Str} {vs : List Dv} {ds : List PyData} (X : K.In h) (G : h.Ns mainGlobals mg) (g : (Fa.glo x).ok K = true) (t : lstB K x vs = true) (hd : ∀ F : Hp, DqAll K F (vs.map (Dv.v K)) ds) : CT K mg x (ga K x) (.list ds) :=
  ⟨glo_ok X G g, fun F => .lst (lstB_ok t F) (hd F)⟩
/-! ### the Hook -/
abbrev AlY : Type := AlD × (Bool × List FnC)
def obsY (fa : List Fa) (fn : List DefD) (sd : List SupD) (ex : PySem.W.Frag → Bool) (K : PySem.W.Frag) : AlY := (obsD fa fn K, (ex K, sd.map fun d => fnC K (d.C, some "__init__")))
def valY (fn : List DefD) (sd : List SupD) : AlY := (valD fn, (true, sd.map SupD.val))
def SaysY (fa : List Fa) (fn : List DefD) (sd : List SupD) (ex : PySem.W.Frag → Bool) (K : PySem.W.Frag) : Prop := obsY fa fn sd ex K = valY fn sd
def asY (g : Addr → Option Obj) (n : Nat) : List Addr := cStatics :: asD g n
def obsYG (n : Nat) (fa : List Fa) (fn : List DefD) (sd : List SupD) (ex : PySem.W.Frag → Bool) (g : Addr → Option Obj) : AlY := obsY fa fn sd ex (frG g (asY g n))
def hookY (n : Nat) (fa : List Fa) (fn : List DefD) (sd : List SupD) (ex : PySem.W.Frag → Bool) : PySem.W.Hook where
  α := AlY
  obs := fun s => obsYG n fa fn sd ex s.heap.get?
  val := fun _ => valY fn sd
  says := fun _ h => ∃ K : PySem.W.Frag, K.In h ∧ SaysY fa fn sd ex K
  of := fun _ _ e => ⟨_, frG_in, e⟩
  keeps := fun _ _ _ ⟨K, hK, c⟩ k => ⟨K, PySem.W.Frag.In.keeps hK k, c⟩
theorem obsYG_eq {n : Nat} {fa : List Fa} {fn : List DefD} {sd : List SupD} {ex : PySem.W.Frag → Bool} {g : Addr → Option Obj} {s : Shared} (h : ∀ a, g a = s.heap.get? a) : obsYG n fa fn sd ex g = (hookY n fa fn sd ex).obs s := by
  have e : g = s.heap.get? := funext h
  rw [e] <;> rfl
section
variable {fa : List Fa} {fn : List DefD} {sd : List SupD} {ex : PySem.W.Frag → Bool} {K : PySem.W.Frag}
theorem SaysY.d (c : SaysY fa fn sd ex K) : SaysD fa fn K := congrArg (fun z : AlY => z.1) c
theorem SaysY.more (c : SaysY fa fn sd ex K) : ex K = true := congrArg (fun z : AlY => z.2.1) c
theorem SaysY.sup (c : SaysY fa fn sd ex K) (i : Nat) {d : SupD} (h : sd[i]? = some d := by rfl) : fnC K (d.C, some "__init__") = d.val := by
  have e : sd.map (fun d => fnC K (d.C, some "__init__")) = sd.map SupD.val := congrArg (fun z : AlY => z.2.2) c
  have e2 : (sd.map fun d => fnC K (d.C, some "__init__"))[i]? = (sd.map SupD.val)[i]? := by rw [e]
  rw [List.getElem?_map, List.getElem?_map, h] at e2
  exact Option.some.inj e2
end
/-! ### defs -/
def dD (x : Str) (st : Stmt) (dfl : List Dv) : DefD := ⟨(x, none), x, x, defArgs st, defBody st, defScope st, dfl, []⟩
theorem defat {fa : List Fa} {fn : List DefD} {K : PySem.W.Frag} {h : Heap} {mg : Str → Option Value} (c : SaysD fa fn K) (X : K.In h) (G : h.Ns mainGlobals mg) {x : Str} {st : Stmt} {dfl : List Dv} (i j : Nat) (hd : fn[i]? = some (dD x st dfl) := by rfl) (hg : fa[j]? = some (.glo x) := by rfl) : DefAt K mg x st (dfl.map (Dv.v K)) := by
  obtain ⟨fd, F⟩ := c.def_ i hd
  exact ⟨_, fd, F, glo_ok X G (c.fact j hg)⟩
/-- the class's __init__ statement -/
def initOf (st : Stmt) : Stmt := match st with
  | .ClassDef _ _ _ body _ _ _ _ _ _ _ => body.getD 0 (.Pass ⟨0, 0, 0, 0⟩)
  | _ => .Pass ⟨0, 0, 0, 0⟩
/-- the law's own def, its parameter told -/
structure LawX (P : Program) (w : World) (K : PySem.W.Frag) (mg : Str → Option Value) (base : Heap) (k : Nat) (st : Stmt) (R : List PyData → Res PyData → Prop) : Prop where
  ex : ∃ (f : Addr) (fd : FuncData), FunD K "law" "law" (defArgs st) (defBody st) (defScope st) [] [] f fd ∧ mg "law" = some (.ref f) ∧ FnOk P w K mg base CX0 k f fd ["script"] (spD K R)
theorem okL {P : Program} {w : World} {K : PySem.W.Frag} {mg : Str → Option Value} {base : Heap} {st : Stmt} {N : List Str} {k : Nat} {R : List PyData → Res PyData → Prop} (D : DefAt K mg "law" st []) (S : FnScope N ["script"] (defScope st)) (len : ∀ ds r, R ds r → ds.length = (["script"] : List Str).length)
    (hb : ∀ (f : Addr) (cdv : Value) (A : Around) (outer : List Env) (s : Shared) (H : Hp) (Ex : XK), Room k (A.deeper (PyProof.Rows.envOfC "law" (defScope st) s.heap.objs.size f cdv)) →
      ∃ t, PSs (cxOf CX0 P w K mg base N "law" (defScope st) f cdv A outer s H Ex).nox (defBody st) t ∧ ∀ ds r, R ds r → ∃ o, Rn K (fun cls d _ H => Ex cls d H) t (dn N ds) o ∧ endsAs o r) : LawX P w K mg base (k + 1) st R := by
  obtain ⟨f, fd, F, hm⟩ := D.ex
  have hpl : (["script"] : List Str).length ≤ N.length := by have := congrArg List.length S.pre; rw [List.length_take] at this; omega
  refine ⟨f, fd, F, hm, F.ok S (fun vs H Q E h => ?_) fun cdv A outer s H vs Q E hr h => ?_⟩
  · obtain ⟨_, ds, r, _, hd, hR, _⟩ := h
    rw [dpa_len hd]; exact len ds r hR
  · obtain ⟨t, h1, h2⟩ := hb f cdv A outer s H E hr
    exact ⟨t, h1.nox, fn_read (fun ds r hR => by rw [len ds r hR]; exact hpl) h h2⟩
/-! ### own errors by name -/
section
variable {P : Program} {w : World} {K : PySem.W.Frag} {mg : Str → Option Value} {base : Heap} {C fI : Addr} {st : Stmt} {qual x f g msg : Str} {fd : FuncData} {j : Nat} {p0 p1 p2 p3 p4 p5 q1 q2 q3 q4 r1 r2 r3 r4 : Pos}
theorem supF_binds {ps : List Str} (S : SupF P K C fI qual st fd) (hb : ∀ (kV doc pm ct : Value) (an : Option Addr) (cda cc : Addr) (us : List Value), us.length = ps.length → bindArgs (PySem.W.ksFn "__init__" qual (defArgs st) (defBody st) (defScope st) .none kV doc pm an (.ref cda) ct cc) ⟨us, []⟩ = pure (ps.zip us)) : Binds K fd ps [] := by
  obtain ⟨oc, od, kV, doc, pm, ct, an, cda, cc, osl, ccl, cl, cdd, cld, ccs, csl, vs0, file, tf, rfl, _⟩ := S.ex
  exact .all (hb kV doc pm ct an cda cc)
theorem err1_of {pl : Sem Bool} (T : SupC P K mg C fI) (S : SupF P K C fI qual st fd) (xf : XfC K C) (nf : PySem.W.findIn K (.ref C) f = some none) (gl : mg x = some (.ref C))
    (I : InitText st qual fI msg j p0 p1 p2 p3 p4 p5 ["self", f] [.Assign [.Attribute (.Name "self" q1) f q2] (.Name f q3) q4] pl) (St1 : StoreText st qual fI f f q1 q2 q3 q4) (hne : f ≠ "self")
    (hb : ∀ (kV doc pm ct : Value) (an : Option Addr) (cda cc : Addr) (us : List Value), us.length = (["self", f] : List Str).length → bindArgs (PySem.W.ksFn "__init__" qual (defArgs st) (defBody st) (defScope st) .none kV doc pm an (.ref cda) ct cc) ⟨us, []⟩ = pure ((["self", f] : List Str).zip us)) : Err1 P w K mg base x C f :=
  ⟨T.ox, xf, nf, gl, fI, fd, T.iC, T.tI, init1_ok T S nf I St1 hne, supF_binds S hb⟩
theorem err2_of {pl : Sem Bool} (T : SupC P K mg C fI) (S : SupF P K C fI qual st fd) (xf : XfC K C) (nf : PySem.W.findIn K (.ref C) f = some none) (ng : PySem.W.findIn K (.ref C) g = some none) (gl : mg x = some (.ref C))
    (I : InitText st qual fI msg j p0 p1 p2 p3 p4 p5 ["self", f, g] [.Assign [.Attribute (.Name "self" q1) f q2] (.Name f q3) q4, .Assign [.Attribute (.Name "self" r1) g r2] (.Name g r3) r4] pl)
    (St1 : StoreText st qual fI f f q1 q2 q3 q4) (St2 : StoreText st qual fI g g r1 r2 r3 r4) (hne : f ≠ "self") (hne2 : g ≠ "self") (hfg : f ≠ g)
    (hb : ∀ (kV doc pm ct : Value) (an : Option Addr) (cda cc : Addr) (us : List Value), us.length = (["self", f, g] : List Str).length → bindArgs (PySem.W.ksFn "__init__" qual (defArgs st) (defBody st) (defScope st) .none kV doc pm an (.ref cda) ct cc) ⟨us, []⟩ = pure ((["self", f, g] : List Str).zip us)) : Err2 P w K mg base x C f g :=
  ⟨T.ox, xf, nf, ng, gl, fI, fd, T.iC, T.tI, init2_ok T S nf ng I St1 St2 hne hne2 hfg, supF_binds S hb⟩
end
/-- the law's end: from the law's contract -/
theorem law_of {l : PySem.W.OpenLaw} {k : Nat} {q : Program} {loose : List Str} {XP : (Str → Option Value) → Heap → Prop} {YP : World → Heap → Prop} {d : DefRec} {st : Stmt} {R : List PyData → Res PyData → Prop}
    (hn : l.most = some 63) (hdf : d.params.defaults = []) (hr : Room k callerA) (hnm : d.name = ("law" : Str))
    (hR : ∀ ns : List Int, ns.length ≤ 63 → R [.list (ns.map .int)] (.ok (.bool true)))
    (hb : ∀ (kV doc pm : Value) (an : Option Addr) (cdv ct : Value) (us : List Value), us.length = (["script"] : List Str).length → bindArgs (PySem.W.fnOf "law" "law" (defArgs st) (defBody st) (defScope st) .none kV doc pm an cdv ct) ⟨us, []⟩ = pure ((["script"] : List Str).zip us))
    (F : ∀ (w : World) (mg : Str → Option Value) (h : Heap), YP w h → h.Ns mainGlobals mg → ∃ K : PySem.W.Frag, K.In h ∧ DefAt K mg "law" st [] ∧ ∀ base : Heap, K.In base → base.Ns mainGlobals mg → LawX l.prog w K mg base k st R) :
    PySem.W.WalkO q loose XP YP l.row.toRowW d [] (fun f vs => PySem.call f vs) := by
  refine L2.walk_ofE (l := l) (n := 63) (k := k) (x := "script") (CX := L2.CX0) hn (by decide) hdf hr ?F (fun _ _ _ _ z => z)
  intro w mg fa h Y G hmg
  rw [hnm] at hmg
  obtain ⟨K, KX, D, C⟩ := F w mg h Y G
  obtain ⟨f0, fd0, F0, hm0⟩ := D.ex
  have e := hmg.symm.trans hm0
  cases e
  refine ⟨K, fd0, spD K R, KX, fun s v => FunD.bindsA (ps := ["script"]) F0 hb s [v] rfl, fun H a ns hl _ hS => ⟨H, _, _, Same.refl _, .cons (.lst hS (ints_dpAll ns)) .nil, hR ns hl, fun v F' H' _ dv => by cases dv; rfl⟩, fun base X1 G1 => ?_⟩
  obtain ⟨f, fd, Fd, hm, hF⟩ := (C base X1 G1).ex
  rw [hm0] at hm
  cases hm
  have same : fd = fd0 := by
    obtain ⟨oc, od, dV, kV, doc, pm, an, cdv, ct, osl, e1, lk, _⟩ := Fd.ex
    obtain ⟨oc', od', dV', kV', doc', pm', an', cdv', ct', osl', e2, lk', _⟩ := F0.ex
    rw [lk] at lk'
    have z := Option.some.inj lk'
    injection z with _ _ z3 _
    injection z3
  rw [← same]
  exact hF
end DL
set_option Elab.async false
set_option linter.all false
set_option maxRecDepth 100000
set_option maxHeartbeats 4000000
/-! DY1: dicts, lists of lists of one's own, instances. -/
namespace DL
open PySem PySem.Spec PyProof.Rows L2

/-! ### dicts -/
section
variable {α β γ : Type} [DecidableEq α]
def valD (kd : List (α × PyData)) (k : α) : Option PyData := (kd.find? fun p => decide (p.1 = k)).map (·.2)
def putD (kd : List (α × PyData)) (k : α) (d : PyData) : List (α × PyData) := if kd.any (fun p => decide (p.1 = k)) then kd.map fun p => if p.1 = k then (p.1, d) else p else kd ++ [(k, d)]
end
/-- a dict of its own -/
def atK (kd : List (Key × PyData)) (K : PySem.W.Frag) (F H : Hp) (v : V) (fp : List Addr) : Prop := ∃ (p : Addr) (kv : List (Key × V)), v = .ref p ∧ fp = [p] ∧ H p = some (.dK kv) ∧ kv.map (·.1) = kd.map (·.1) ∧ DqAll K F (kv.map (·.2)) (kd.map (·.2))
def ownK (kd : List (Key × PyData)) : Own where
  pred := atK kd
  mono := fun {K F F' H H' v fp} ⟨p, vs, h1, h2, h3, h5, h4⟩ e k => ⟨p, vs, h1, h2, by rw [k p (by rw [h2]; exact List.mem_cons_self)]; exact h3, h5, dqAll_mono0 e h4⟩
  live := fun {K F H v fp} ⟨p, vs, h1, h2, h3, _, h4⟩ a ha => by
    rw [h2, List.mem_singleton] at ha
    exact ⟨.dK vs, by rw [ha]; exact h3, fun fs z => by cases z⟩
/-- an instance under construction -/
def atI1 (a C : Addr) (fd : List (Str × PyData)) (K : PySem.W.Frag) (F H : Hp) (v : V) (fp : List Addr) : Prop := ∃ (dx : Addr) (fv : List (Str × V)), v = .ref a ∧ fp = [a, dx] ∧ H a = some (.ins C dx fv) ∧ H dx = some (.own a) ∧ fv.map (·.1) = fd.map (·.1) ∧ DqAll K F (fv.map (·.2)) (fd.map (·.2))
def ownI (a C : Addr) (fd : List (Str × PyData)) : Own where
  pred := atI1 a C fd
  mono := fun {K F F' H H' v fp} ⟨dx, fv, h1, h2, h3, h4, h5, h6⟩ e k => ⟨dx, fv, h1, h2, by rw [k a (by rw [h2]; simp)]; exact h3, by rw [k dx (by rw [h2]; simp)]; exact h4, h5, dqAll_mono0 e h6⟩
  live := fun {K F H v fp} ⟨dx, fv, h1, h2, h3, h4, _⟩ b hb => by
    rw [h2] at hb
    rcases List.mem_cons.mp hb with e | hb
    · exact ⟨.ins C dx fv, by rw [e]; exact h3, fun fs z => by cases z⟩
    · rw [List.mem_singleton.mp hb]
      exact ⟨.own a, h4, fun fs z => by cases z⟩
variable {K : PySem.W.Frag}
theorem dqa_cons {F : Hp} {v : V} {vs : List V} {d : PyData} {ds : List PyData} (h : DqAll K F (v :: vs) (d :: ds)) : Dq K F v d ∧ DqAll K F vs ds := by
  cases h with
  | cons a b => exact ⟨a, b⟩
theorem valD_dq {κ : Type} [DecidableEq κ] {F : Hp} (k : κ) : ∀ {kv : List (κ × V)} {kd : List (κ × PyData)}, kv.map (·.1) = kd.map (·.1) → DqAll K F (kv.map (·.2)) (kd.map (·.2)) →
    (∀ d, valD kd k = some d → ∃ v, valV kv k = some v ∧ Dq K F v d) ∧ (valV kv k).isSome = (valD kd k).isSome
  | [], [], _, _ => ⟨fun d h => (nomatch h), rfl⟩
  | [], _ :: _, h, _ => by cases h
  | _ :: _, [], h, _ => by cases h
  | (a, v) :: kv, (b, d) :: kd, h, q => by
    have e : a = b := (List.cons.inj h).1
    have h' : kv.map (·.1) = kd.map (·.1) := (List.cons.inj h).2
    subst e
    obtain ⟨q1, q2⟩ := dqa_cons q
    obtain ⟨i1, i2⟩ := valD_dq k h' q2
    by_cases c : a = k
    · subst c
      have e1 : valV ((a, v) :: kv) a = some v := valV_pos rfl
      have e2 : valD ((a, d) :: kd) a = some d := by simp [valD, List.find?_cons]
      rw [e1, e2]
      exact ⟨fun d' hd => by cases hd; exact ⟨v, rfl, q1⟩, rfl⟩
    · have e1 : valV ((a, v) :: kv) k = valV kv k := valV_neg c
      have e2 : valD ((a, d) :: kd) k = valD kd k := by simp [valD, List.find?_cons, c]
      rw [e1, e2]
      exact ⟨i1, i2⟩
theorem map_keys {κ : Type} [DecidableEq κ] {α : Type} (k : κ) (x : α) : ∀ l : List (κ × α), (l.map fun p => if p.1 = k then (p.1, x) else p).map (·.1) = l.map (·.1)
  | [] => rfl
  | p :: r => by
    rw [List.map_cons, List.map_cons, List.map_cons, map_keys k x r]
    split <;> rfl
theorem map_vals {κ : Type} [DecidableEq κ] {F : Hp} {v : V} {d : PyData} (k : κ) (h : Dq K F v d) : ∀ {kv : List (κ × V)} {kd : List (κ × PyData)}, kv.map (·.1) = kd.map (·.1) → DqAll K F (kv.map (·.2)) (kd.map (·.2)) →
    DqAll K F ((kv.map fun p => if p.1 = k then (p.1, v) else p).map (·.2)) ((kd.map fun p => if p.1 = k then (p.1, d) else p).map (·.2))
  | [], [], _, _ => .nil
  | [], _ :: _, h, _ => by cases h
  | _ :: _, [], h, _ => by cases h
  | (a, w) :: kv, (b, e) :: kd, hk, q => by
    have ee : a = b := (List.cons.inj hk).1
    subst ee
    obtain ⟨q1, q2⟩ := dqa_cons q
    have ih := map_vals k h (List.cons.inj hk).2 q2
    by_cases c : a = k
    · simp only [List.map_cons, if_pos c]; exact .cons h ih
    · simp only [List.map_cons, if_neg c]; exact .cons q1 ih
theorem any_keys {κ : Type} [DecidableEq κ] (k : κ) : ∀ {kv : List (κ × V)} {kd : List (κ × PyData)}, kv.map (·.1) = kd.map (·.1) → (kv.any fun p => decide (p.1 = k)) = kd.any fun p => decide (p.1 = k)
  | [], [], _ => rfl
  | [], _ :: _, h => by cases h
  | _ :: _, [], h => by cases h
  | (a, w) :: kv, (b, e) :: kd, hk => by
    have ee : a = b := (List.cons.inj hk).1
    subst ee
    rw [List.any_cons, List.any_cons, any_keys k (List.cons.inj hk).2]
theorem putD_dq {κ : Type} [DecidableEq κ] {F : Hp} {v : V} {d : PyData} {kv : List (κ × V)} {kd : List (κ × PyData)} (k : κ) (h : Dq K F v d) (hk : kv.map (·.1) = kd.map (·.1)) (hq : DqAll K F (kv.map (·.2)) (kd.map (·.2))) :
    (putK kv k v).map (·.1) = (putD kd k d).map (·.1) ∧ DqAll K F ((putK kv k v).map (·.2)) ((putD kd k d).map (·.2)) := by
  have ha := any_keys k hk
  unfold putK putD
  rw [ha]
  by_cases c : (kd.any fun p => decide (p.1 = k)) = true
  · rw [if_pos c, if_pos c]
    exact ⟨by rw [map_keys, map_keys]; exact hk, map_vals k h hk hq⟩
  · rw [if_neg c, if_neg c]
    refine ⟨by rw [List.map_append, List.map_append, hk]; rfl, ?_⟩
    rw [List.map_append, List.map_append]
    exact dpa_append hq (.cons h .nil)
/-- a key as data -/
theorem key_v {F : Hp} {v : V} {k : Key} (h : Dq K F v (keyD k)) : v = kV k := by
  cases k with
  | inl i => cases h; rfl
  | inr x => cases h; rfl
theorem keys_len {κ : Type} {kv : List (κ × V)} {kd : List (κ × PyData)} (h : kv.map (·.1) = kd.map (·.1)) : kv.length = kd.length := by
  have := congrArg List.length h
  simpa using this
section
variable {W : WX} {δ : Dn} {ta tb te tc : TE} {x y z d : PyData} {kd : List (Key × PyData)} {k : Key} {i : Nat}
/-- x = {} -/
theorem rn_asgK : Rn K W (tAsg tDNewK (gName i)) δ (.nx (δ.set i (.gen (ownK [])))) := fun D F0 H0 F H σ s E q => fun p hp => by
  have h0 : H0 p = none := s.b.free hp
  have hf : F p = none := s.c.free hp
  refine q F _ _ ⟨s.a, same_upd s.b h0, same_upd s.c hf, s.n⟩ (E.setG (fp := [p]) (same_upd (Same.refl _) hp) (fun a ha => by rw [List.mem_singleton.mp ha]; exact ⟨hp, hf, h0⟩) ⟨p, [], rfl, rfl, upd_same, rfl, .nil⟩)
/-- what stands at a key of a dict of its own | of a known one -/
theorem ev_dgetO (hi : δ[i]? = some (.gen (ownK kd))) (hk : EvD K W ta δ (.ok (keyD k))) (e : valD kd k = some d) : EvD K W (tDGet (tVar i) ta) δ (.ok d) := fun H0 F H σ Q s E q => by
  obtain ⟨v, fp, h1, _⟩ := E.at_ hi
  refine ⟨v, h1, hk H0 F H σ _ s E fun y F1 H1 e1 d1 => ?_⟩
  obtain ⟨v', fp', h1', ⟨p, kv, rfl, rfl, h3, h4, h5⟩, _⟩ := (E.mono e1).at_ hi
  rw [h1] at h1'
  cases h1'
  obtain ⟨w, g1, g2⟩ := (valD_dq k h4 h5).1 d e
  refine ⟨p, w, rfl, ?_, q w F1 H1 e1 g2⟩
  rw [key_v d1, ← g1]
  exact DGet.k h3
theorem ev_dget (hd : EvD K W tb δ (.ok (dicD kd))) (hk : EvD K W ta δ (.ok (keyD k))) (e : valD kd k = some d) : EvD K W (tDGet tb ta) δ (.ok d) := fun H0 F H σ Q s E q =>
  hd H0 F H σ _ s E fun v F1 H1 e1 d1 => hk H0 F1 H1 σ _ e1.c (E.mono e1) fun y F2 H2 e2 d2 => by
    obtain ⟨a, kv, rfl, g1, g2, g3⟩ := dq_dic (dp_mono e2.a _ _ d1)
    obtain ⟨w, q1, q2⟩ := (valD_dq k g2 g3).1 d e
    refine ⟨a, w, rfl, ?_, q w F2 H2 (e1.trans e2) q2⟩
    rw [key_v d2, ← q1]
    exact DGet.k (e2.c _ _ g1)
/-- k in | k not in a dict of its own | a known one -/
theorem ev_dinO (hi : δ[i]? = some (.gen (ownK kd))) (hk : EvD K W ta δ (.ok (keyD k))) : EvD K W (tDIn ta (tVar i)) δ (.ok (.bool (valD kd k).isSome)) := fun H0 F H σ Q s E q =>
  hk H0 F H σ _ s E fun y F1 H1 e1 d1 => by
    obtain ⟨v, fp, h1, ⟨p, kv, rfl, rfl, h3, h4, h5⟩, _⟩ := (E.mono e1).at_ hi
    refine ⟨_, h1, p, valV kv k, rfl, by rw [key_v d1]; exact DGet.k h3, ?_⟩
    rw [(valD_dq k h4 h5).2]
    exact q _ F1 H1 e1 (.bl _)
theorem ev_dniO (hi : δ[i]? = some (.gen (ownK kd))) (hk : EvD K W ta δ (.ok (keyD k))) : EvD K W (tDNotIn ta (tVar i)) δ (.ok (.bool (!(valD kd k).isSome))) := fun H0 F H σ Q s E q =>
  hk H0 F H σ _ s E fun y F1 H1 e1 d1 => by
    obtain ⟨v, fp, h1, ⟨p, kv, rfl, rfl, h3, h4, h5⟩, _⟩ := (E.mono e1).at_ hi
    refine ⟨_, h1, p, valV kv k, rfl, by rw [key_v d1]; exact DGet.k h3, ?_⟩
    rw [(valD_dq k h4 h5).2]
    exact q _ F1 H1 e1 (.bl _)
theorem ev_din (hk : EvD K W ta δ (.ok (keyD k))) (hd : EvD K W tb δ (.ok (dicD kd))) : EvD K W (tDIn ta tb) δ (.ok (.bool (valD kd k).isSome)) := fun H0 F H σ Q s E q =>
  hk H0 F H σ _ s E fun y F1 H1 e1 d1 => hd H0 F1 H1 σ _ e1.c (E.mono e1) fun v F2 H2 e2 d2 => by
    obtain ⟨a, kv, rfl, g1, g2, g3⟩ := dq_dic d2
    refine ⟨a, valV kv k, rfl, by rw [key_v d1]; exact DGet.k (e2.c _ _ g1), ?_⟩
    rw [(valD_dq k g2 g3).2]
    exact q _ F2 H2 (e1.trans e2) (.bl _)
theorem ev_dni (hk : EvD K W ta δ (.ok (keyD k))) (hd : EvD K W tb δ (.ok (dicD kd))) : EvD K W (tDNotIn ta tb) δ (.ok (.bool (!(valD kd k).isSome))) := fun H0 F H σ Q s E q =>
  hk H0 F H σ _ s E fun y F1 H1 e1 d1 => hd H0 F1 H1 σ _ e1.c (E.mono e1) fun v F2 H2 e2 d2 => by
    obtain ⟨a, kv, rfl, g1, g2, g3⟩ := dq_dic d2
    refine ⟨a, valV kv k, rfl, by rw [key_v d1]; exact DGet.k (e2.c _ _ g1), ?_⟩
    rw [(valD_dq k g2 g3).2]
    exact q _ F2 H2 (e1.trans e2) (.bl _)
/-- x[k] = e of a dict of its own -/
theorem rn_dput (hi : δ[i]? = some (.gen (ownK kd))) (he : EvD K W te δ (.ok d)) (hk : EvD K W ta δ (.ok (keyD k))) (hl : kd.length < sizeLine) : Rn K W (sDPut (tVar i) ta te) δ (.nx (δ.set i (.gen (ownK (putD kd k d))))) := fun D F0 H0 F H σ s E q =>
  he H0 F H σ _ s.c E fun v F1 H1 e1 d1 => by
    obtain ⟨w, fp, h1, _⟩ := (E.mono e1).at_ hi
    refine ⟨w, h1, hk H0 F1 H1 σ _ e1.c (E.mono e1) fun y F2 H2 e2 d2 => ?_⟩
    have E2 := (E.mono e1).mono e2
    have s2 := (s.trans e1).trans e2
    obtain ⟨w', fp', h1', ⟨p, kv, rfl, rfl, h3, h4, h5⟩, h6, h7, _⟩ := E2.at_ hi
    rw [h1] at h1'
    cases h1'
    obtain ⟨hf, h0⟩ := h6 p List.mem_cons_self
    have pd := putD_dq (K := K) (F := F2) k (dp_mono e2.a _ _ d1) h4 h5
    refine ⟨p, upd H2 p (.dK (putK kv k v)), rfl, by rw [key_v d2]; exact DPut.k h3 (by rw [keys_len h4]; exact hl), q F2 _ σ (s2.mut h0 hf) (h7 _ (ownK (putD kd k d)) [p] (fun a u ha hn => ?_) ⟨p, _, rfl, rfl, upd_same, pd.1, pd.2⟩ fun a ha => .inl ha)⟩
    rw [upd_ne (fun z => hn (by rw [z]; exact List.mem_cons_self))]; exact ha
end
/-! ### instances -/
theorem fld_dq {F : Hp} {f : Str} {d : PyData} : ∀ {fv : List (Str × V)} {fd : List (Str × PyData)}, fv.map (·.1) = fd.map (·.1) → DqAll K F (fv.map (·.2)) (fd.map (·.2)) → fd.lookup f = some d → ∃ v, fv.lookup f = some v ∧ Dq K F v d
  | [], [], _, _, h => by cases h
  | [], _ :: _, h, _, _ => by cases h
  | _ :: _, [], h, _, _ => by cases h
  | (a, v) :: fv, (b, e) :: fd, hk, q, h => by
    have ee : a = b := (List.cons.inj hk).1
    subst ee
    obtain ⟨q1, q2⟩ := dqa_cons q
    rw [List.lookup] at h
    refine (?_ : ∃ v', List.lookup f ((a, v) :: fv) = some v' ∧ Dq K F v' d)
    rw [List.lookup]
    cases c : f == a with
    | true => rw [c] at h; cases h; exact ⟨v, rfl, q1⟩
    | false => rw [c] at h; exact fld_dq (List.cons.inj hk).2 q2 h
theorem fld_none {f : Str} : ∀ {fv : List (Str × V)} {fd : List (Str × PyData)}, fv.map (·.1) = fd.map (·.1) → fd.lookup f = none → fv.lookup f = none
  | [], [], _, _ => rfl
  | [], _ :: _, h, _ => by cases h
  | _ :: _, [], h, _ => by cases h
  | (a, v) :: fv, (b, e) :: fd, hk, h => by
    have ee : a = b := (List.cons.inj hk).1
    subst ee
    rw [List.lookup] at h ⊢
    cases c : f == a with
    | true => rw [c] at h; cases h
    | false => rw [c] at h; exact fld_none (List.cons.inj hk).2 h
def putG (f : Str) (d : PyData) : List (Str × PyData) → List (Str × PyData)
  | [] => [(f, d)]
  | (g, x) :: r => if g = f then (g, d) :: r else (g, x) :: putG f d r
theorem putG_dq {F : Hp} {f : Str} {v : V} {d : PyData} (h : Dq K F v d) : ∀ {fv : List (Str × V)} {fd : List (Str × PyData)}, fv.map (·.1) = fd.map (·.1) → DqAll K F (fv.map (·.2)) (fd.map (·.2)) →
    (putF f v fv).map (·.1) = (putG f d fd).map (·.1) ∧ DqAll K F ((putF f v fv).map (·.2)) ((putG f d fd).map (·.2))
  | [], [], _, _ => ⟨rfl, .cons h .nil⟩
  | [], _ :: _, h, _ => by cases h
  | _ :: _, [], h, _ => by cases h
  | (a, w) :: fv, (b, e) :: fd, hk, q => by
    have ee : a = b := (List.cons.inj hk).1
    subst ee
    obtain ⟨q1, q2⟩ := dqa_cons q
    obtain ⟨i1, i2⟩ := putG_dq (f := f) h (List.cons.inj hk).2 q2
    unfold putF putG
    by_cases c : a = f
    · rw [if_pos c, if_pos c]
      exact ⟨by rw [List.map_cons, List.map_cons, (List.cons.inj hk).2], .cons h q2⟩
    · rw [if_neg c, if_neg c]
      exact ⟨by rw [List.map_cons, List.map_cons, i1], .cons q1 i2⟩
section
variable {W : WX} {δ : Dn} {ta tb te tc : TE} {x y z d : PyData} {a C : Addr} {fd : List (Str × PyData)} {f : Str} {i : Nat}
/-- e.f of a known instance -/
theorem ev_fld (h : EvD K W te δ (.ok (objD C fd))) (hc : Cls K C) (hn : NoAttr K C f) (hl : fd.lookup f = some d) : EvD K W (tFld K te f) δ (.ok d) := fun H0 F H σ Q s E q =>
  h H0 F H σ _ s E fun v F1 H1 e1 d1 => by
    obtain ⟨a, dx, fv, rfl, g1, g2, g3⟩ := dq_obj d1
    obtain ⟨w, q1, q2⟩ := fld_dq g2 g3 hl
    exact ⟨a, C, dx, fv, w, rfl, e1.c _ _ g1, hc, hn, q1, q w F1 H1 e1 q2⟩
/-- e.f of an instance under construction -/
theorem ev_fldO (hi : δ[i]? = some (.gen (ownI a C fd))) (hc : Cls K C) (hn : NoAttr K C f) (hl : fd.lookup f = some d) : EvD K W (tFld K (tVar i) f) δ (.ok d) := fun H0 F H σ Q s E q => by
  obtain ⟨v, fp, h1, ⟨dx, fv, rfl, rfl, h3, h4, h5, h6⟩, _⟩ := E.at_ hi
  obtain ⟨w, q1, q2⟩ := fld_dq h5 h6 hl
  exact ⟨_, h1, a, C, dx, fv, w, rfl, h3, hc, hn, q1, q w F H (Ext.refl s) q2⟩
/-- self.f = e -/
theorem rn_fldO (hi : δ[i]? = some (.gen (ownI a C fd))) (he : EvD K W te δ (.ok d)) (hc : Cls K C) (hn : NoAttr K C f) (hl : fd.length < 1000) : Rn K W (sFld K (tVar i) te f) δ (.nx (δ.set i (.gen (ownI a C (putG f d fd))))) := fun D F0 H0 F H σ s E q =>
  he H0 F H σ _ s.c E fun v F1 H1 e1 d1 => by
    have E1 := E.mono e1
    have s1 := s.trans e1
    obtain ⟨w, fp, h1, ⟨dx, fv, rfl, rfl, h3, h4, h5, h6⟩, h7, h8, _⟩ := E1.at_ hi
    obtain ⟨hf, h0⟩ := h7 a (by simp)
    have ne : dx ≠ a := fun z => by rw [z, h3] at h4; cases h4
    have pg := putG_dq (K := K) (F := F1) (f := f) d1 h5 h6
    refine ⟨_, h1, a, C, dx, fv, rfl, h3, hc, hn, by rw [keys_len h5]; exact hl, q F1 _ σ (s1.mut h0 hf) (h8 _ (ownI a C (putG f d fd)) [a, dx] (fun b u hb hn => ?_) ⟨dx, _, rfl, rfl, upd_same, by rw [upd_ne ne]; exact h4, pg.1, pg.2⟩ fun b hb => .inl hb)⟩
    rw [upd_ne (fun z => hn (by rw [z]; simp))]; exact hb
/-- an instance is no longer changed -/
theorem rn_frzI {t : TS} {o : Out} (hi : δ[i]? = some (.gen (ownI a C fd))) (h : Rn K W t (δ.set i (.val (objD C fd))) o) : Rn K W t δ o := fun D F0 H0 F H σ s E q => by
  obtain ⟨v, fp, h1, ⟨dx, fv, rfl, rfl, h3, h4, h5, h6⟩, h7, _, h9⟩ := E.at_ hi
  obtain ⟨hf, h0⟩ := h7 a (by simp)
  have sF : Same F (upd F a (.ins C dx fv)) := same_upd (Same.refl _) hf
  refine h D F0 H0 _ H σ (s.freeze h0 hf h3) (h9 _ _ sF (fun b hb hn => ?_) (.ins upd_same h5 (dqAll_mono0 sF h6))) q
  by_cases e : b = a
  · rw [e]; simp
  · rw [upd_ne e] at hb; exact absurd hn hb
/-- a dict is no longer changed -/
theorem rn_frzK {t : TS} {o : Out} {kd : List (Key × PyData)} (hi : δ[i]? = some (.gen (ownK kd))) (h : Rn K W t (δ.set i (.val (dicD kd))) o) : Rn K W t δ o := fun D F0 H0 F H σ s E q => by
  obtain ⟨v, fp, h1, ⟨a, kv, rfl, rfl, h3, h5, h6⟩, h7, _, h9⟩ := E.at_ hi
  obtain ⟨hf, h0⟩ := h7 a (by simp)
  have sF : Same F (upd F a (.dK kv)) := same_upd (Same.refl _) hf
  refine h D F0 H0 _ H σ (s.freeze h0 hf h3) (h9 _ _ sF (fun b hb hn => ?_) (.dic upd_same h5 (dqAll_mono0 sF h6))) q
  by_cases e : b = a
  · rw [e]; simp
  · rw [upd_ne e] at hb; exact absurd hn hb
/-- o.m(..) of a known instance -/
theorem ev_meth {m : Str} {R : List PyData → Res PyData → Prop} {dvs : List V} {dds ds : List PyData} {X : XK} {tA : TA} (h : EvD K W te δ (.ok (objD C fd))) (hm : fd.lookup m = none) (ha : EvA K W tA δ (.ok ds)) (hd : ∀ F : Hp, DqAll K F dvs dds) (hR : R (objD C fd :: (ds ++ dds)) (.ok d)) :
    EvD K W (tMeth C m (spD K R) dvs X te tA) δ (.ok d) := fun H0 F H σ Q s E q =>
  h H0 F H σ _ s E fun v F1 H1 e1 d1 => by
    obtain ⟨a, dx, fv, rfl, g1, g2, g3⟩ := dq_obj d1
    refine ⟨a, dx, fv, rfl, e1.c _ _ g1, fld_none g2 hm, ha H0 F1 H1 σ _ e1.c (E.mono e1) fun vs F2 H2 e2 d2 => ⟨F2, _, .ok d, e2.c, .cons (dp_mono e2.a _ _ d1) (dpa_append d2 (hd F2)), hR, fun w F3 H3 e3 d3 => q w F3 H3 ((e1.trans e2).trans e3) d3⟩⟩
/-- e.f, a property of a known instance -/
theorem ev_prop {R : List PyData → Res PyData → Prop} {dvs : List V} {dds : List PyData} {X : XK} (h : EvD K W te δ (.ok (objD C fd))) (hd : ∀ F : Hp, DqAll K F dvs dds) (hR : R (objD C fd :: dds) (.ok d)) :
    EvD K W (tProp C (spD K R) dvs X te) δ (.ok d) := fun H0 F H σ Q s E q =>
  h H0 F H σ _ s E fun v F1 H1 e1 d1 => by
    obtain ⟨a, dx, fv, rfl, g1, g2, g3⟩ := dq_obj d1
    exact ⟨a, dx, fv, rfl, e1.c _ _ g1, F1, _, .ok d, e1.c, .cons d1 (hd F1), hR, fun w F3 H3 e3 d3 => q w F3 H3 (e1.trans e3) d3⟩
end
end DL
set_option Elab.async false
set_option linter.all false
set_option maxRecDepth 100000
set_option maxHeartbeats 4000000
/-! DY2: lists of lists of one's own; what is lent; instances made; methods. -/
namespace DL
open PySem PySem.Spec PyProof.Rows L2

/-! ### what is its own is taken into the known part -/
def frzH (F H : Hp) (fp : List Addr) : Hp := fun a => if a ∈ fp then H a else F a
theorem frzH_in {F H : Hp} {fp : List Addr} {a : Addr} (h : a ∈ fp) : frzH F H fp a = H a := if_pos h
theorem frzH_out {F H : Hp} {fp : List Addr} {a : Addr} (h : a ∉ fp) : frzH F H fp a = F a := if_neg h
theorem frzH_up {F H : Hp} {fp : List Addr} (h : ∀ a ∈ fp, F a = none) : Same F (frzH F H fp) := fun a u e => by
  rw [frzH_out fun z => by rw [h a z] at e; cases e]; exact e
theorem frzH_dn {F H : Hp} {fp : List Addr} (s : Same F H) : Same (frzH F H fp) H := fun a u e => by
  by_cases z : a ∈ fp
  · rw [frzH_in z] at e; exact e
  · rw [frzH_out z] at e; exact s a u e
theorem frzH_new {F H : Hp} {fp : List Addr} (a : Addr) (h1 : frzH F H fp a ≠ none) (h2 : F a = none) : a ∈ fp := by
  by_cases z : a ∈ fp
  · exact z
  · rw [frzH_out z] at h1; exact absurd h2 h1
section
variable {K : PySem.W.Frag} {W : WX} {δ : Dn} {ta tb te tc : TE} {x y z d : PyData} {i : Nat} {o : Own}
/-- how a thing of its own is read as data -/
def Reads1 (o : Own) (d : PyData) : Prop := ∀ (K : PySem.W.Frag) (F H : Hp) (v : V) (fp : List Addr), Same F H → (∀ a ∈ fp, F a = none) → o.pred K F H v fp → Dq K (frzH F H fp) v d
theorem rn_frzG {t : TS} {ot : Out} (hi : δ[i]? = some (.gen o)) (hq : Reads1 o d) (h : Rn K W t (δ.set i (.val d)) ot) : Rn K W t δ ot := fun D F0 H0 F H σ s E q => by
  obtain ⟨v, fp, h1, h2, h3, _, h5⟩ := E.at_ hi
  have nF : ∀ a ∈ fp, F a = none := fun a ha => (h3 a ha).1
  have s2 : Ext F0 (frzH F H fp) H0 H := ⟨s.a.trans (frzH_up nF), s.b, frzH_dn s.c, fun x hx hf => by
    by_cases z : x ∈ fp
    · exact absurd (h3 x z).2 hx
    · rw [frzH_out z]; exact s.n x hx hf⟩
  exact h D F0 H0 _ H σ s2 (h5 _ d (frzH_up nF) (fun a => frzH_new a) (hq K F H v fp s.c nF h2)) q
/-- .. is lent: a test, a plain answer -/
theorem et_lend {t : TT} {b : Bool} (hi : δ[i]? = some (.gen o)) (hq : Reads1 o d) (h : EvT K W t (δ.set i (.val d)) (.ok b)) : EvT K W t δ (.ok b) := fun H0 F H σ Q s E q => by
  obtain ⟨v, fp, h1, h2, h3, _, h5⟩ := E.at_ hi
  have nF : ∀ a ∈ fp, F a = none := fun a ha => (h3 a ha).1
  refine h H0 (frzH F H fp) H σ Q (frzH_dn s) (h5 _ d (frzH_up nF) (fun a => frzH_new a) (hq K F H v fp s nF h2)) fun F' H' e => q F H' ⟨Same.refl _, e.b, s.trans e.b, fun _ _ z => z⟩
def scal : PyData → Bool
  | .none => true | .bool _ => true | .int _ => true | .str _ => true | _ => false
theorem scal_dq {F F' : Hp} {v : V} (h : Dq K F v d) (s : scal d = true) : Dq K F' v d := by
  cases h with
  | non => exact .non
  | bl b => exact .bl b
  | int b => exact .int b
  | str b => exact .str b
  | _ => cases s
theorem ev_lend (hi : δ[i]? = some (.gen o)) (hq : Reads1 o d) (h : EvD K W te (δ.set i (.val d)) (.ok x)) (hs : scal x = true) : EvD K W te δ (.ok x) := fun H0 F H σ Q s E q => by
  obtain ⟨v, fp, h1, h2, h3, _, h5⟩ := E.at_ hi
  have nF : ∀ a ∈ fp, F a = none := fun a ha => (h3 a ha).1
  refine h H0 (frzH F H fp) H σ Q (frzH_dn s) (h5 _ d (frzH_up nF) (fun a => frzH_new a) (hq K F H v fp s nF h2)) fun v F' H' e dv => q v F H' ⟨Same.refl _, e.b, s.trans e.b, fun _ _ z => z⟩ (scal_dq dv hs)
theorem reads_L {l : List PyData} : Reads1 (ownL l) (.list l) := fun K F H v fp s nF ⟨p, vs, h1, h2, h3, h4⟩ => by
  subst h1
  have hp : p ∈ fp := by rw [h2]; exact List.mem_cons_self
  exact .lst (SqL.of (by rw [frzH_in hp]; exact h3)) (dqAll_mono0 (frzH_up nF) h4)
theorem reads_K {kd : List (Key × PyData)} : Reads1 (ownK kd) (dicD kd) := fun K F H v fp s nF ⟨p, kv, h1, h2, h3, h5, h4⟩ => by
  subst h1
  have hp : p ∈ fp := by rw [h2]; exact List.mem_cons_self
  exact .dic (by rw [frzH_in hp]; exact h3) h5 (dqAll_mono0 (frzH_up nF) h4)
theorem reads_I {a C : Addr} {fd : List (Str × PyData)} : Reads1 (ownI a C fd) (objD C fd) := fun K F H v fp s nF ⟨dx, fv, h1, h2, h3, h4, h5, h6⟩ => by
  subst h1
  have hp : a ∈ fp := by rw [h2]; exact List.mem_cons_self
  exact .ins (by rw [frzH_in hp]; exact h3) h5 (dqAll_mono0 (frzH_up nF) h6)
end
/-! ### a list of lists -/
def InL (K : PySem.W.Frag) (F H : Hp) (q : Addr) (l : List PyData) : Prop := ∃ vs, H q = some (.lst vs) ∧ DqAll K F vs l
def atLL (ls : List (List PyData)) (K : PySem.W.Frag) (F H : Hp) (v : V) (fp : List Addr) : Prop := ∃ (p : Addr) (ps : List Addr), v = .ref p ∧ fp = p :: ps ∧ (p :: ps).Nodup ∧ H p = some (.lst (ps.map .ref)) ∧ Paired (InL K F H) ps ls
theorem paired_imp {α β : Type} {R S : α → β → Prop} : ∀ {l : List α} {m : List β}, Paired R l m → (∀ a b, a ∈ l → R a b → S a b) → Paired S l m
  | _, _, .nil, _ => .nil
  | _, _, .cons h t, k => .cons (k _ _ List.mem_cons_self h) (paired_imp t fun a b ha => k a b (List.mem_cons_of_mem _ ha))
theorem paired_all {α β : Type} {R : α → β → Prop} {P : α → Prop} : ∀ {l : List α} {m : List β}, Paired R l m → (∀ a b, R a b → P a) → ∀ a ∈ l, P a
  | _, _, .nil, _, a, h => by cases h
  | _, _, .cons h t, k, a, ha => by
    rcases List.mem_cons.mp ha with e | ha
    · rw [e]; exact k _ _ h
    · exact paired_all t k a ha
theorem paired_at {α β : Type} {R : α → β → Prop} : ∀ {l : List α} {m : List β} {j : Nat} {b : β}, Paired R l m → m[j]? = some b → ∃ a, l[j]? = some a ∧ R a b
  | _, _, j, b, .nil, h => by simp at h
  | _, _, 0, b, .cons h t, e => by simp at e; subst e; exact ⟨_, rfl, h⟩
  | _, _, j + 1, b, .cons h t, e => by
    obtain ⟨a, h1, h2⟩ := paired_at (j := j) t (by simpa using e)
    exact ⟨a, by simpa using h1, h2⟩
theorem paired_set {α β : Type} {R S : α → β → Prop} {l : List α} {m : List β} (hp : Paired R l m) : ∀ {j : Nat} {a : α} {b : β}, l.Nodup → l[j]? = some a → S a b → (∀ x y, x ≠ a → x ∈ l → R x y → S x y) → Paired S l (m.set j b) := by
  induction hp with
  | nil => intro j a b _ h; simp at h
  | @cons c d r s h t ih =>
    intro j a b nd e hs k
    have n1 := (List.nodup_cons.mp nd).1
    cases j with
    | zero =>
      simp at e
      subst e
      exact .cons hs (paired_imp t fun x y hx hr => k x y (fun z => n1 (z ▸ hx)) (List.mem_cons_of_mem _ hx) hr)
    | succ j =>
      have e' : r[j]? = some a := by simpa using e
      have ha : a ∈ r := List.mem_of_getElem? e'
      exact .cons (k _ _ (fun z => n1 (z ▸ ha)) List.mem_cons_self h) (ih (List.nodup_cons.mp nd).2 e' hs fun x y hx hm hr => k x y hx (List.mem_cons_of_mem _ hm) hr)
theorem paired_length {α β : Type} {R : α → β → Prop} : ∀ {l : List α} {m : List β}, Paired R l m → l.length = m.length
  | _, _, .nil => rfl
  | _, _, .cons _ t => by rw [List.length_cons, List.length_cons, paired_length t]
theorem paired_snoc {α β : Type} {R : α → β → Prop} {a : α} {b : β} : ∀ {l : List α} {m : List β}, Paired R l m → R a b → Paired R (l ++ [a]) (m ++ [b])
  | _, _, .nil, h => .cons h .nil
  | _, _, .cons g t, h => .cons g (paired_snoc t h)
def ownLL (ls : List (List PyData)) : Own where
  pred := atLL ls
  mono := fun {K F F' H H' v fp} ⟨p, ps, h1, h2, h3, h4, h5⟩ e k => by
    subst h2
    refine ⟨p, ps, h1, rfl, h3, by rw [k p List.mem_cons_self]; exact h4, paired_imp h5 fun q l hq ⟨vs, g1, g2⟩ => ⟨vs, by rw [k q (List.mem_cons_of_mem _ hq)]; exact g1, dqAll_mono0 e g2⟩⟩
  live := fun {K F H v fp} ⟨p, ps, h1, h2, h3, h4, h5⟩ a ha => by
    subst h2
    rcases List.mem_cons.mp ha with e | ha
    · subst e; exact ⟨.lst (ps.map .ref), h4, fun fs z => by cases z⟩
    · exact paired_all (P := fun a => ∃ o, H a = some o ∧ ∀ fs, o ≠ .xd fs) h5 (fun q l ⟨vs, g1, _⟩ => ⟨.lst vs, g1, fun fs z => by cases z⟩) a ha
theorem reads_LL {ls : List (List PyData)} : Reads1 (ownLL ls) (.list (ls.map .list)) := fun K F H v fp s nF ⟨p, ps, h1, h2, h3, h4, h5⟩ => by
  subst h1 h2
  refine .lst (SqL.of (by rw [frzH_in List.mem_cons_self]; exact h4)) ?_
  have key : ∀ {qs : List Addr} {ms : List (List PyData)}, (∀ q ∈ qs, q ∈ p :: ps) → Paired (InL K F H) qs ms → DqAll K (frzH F H (p :: ps)) (qs.map V.ref) (ms.map PyData.list) := by
    intro qs ms hsub hp
    induction hp with
    | nil => exact .nil
    | cons h t ih =>
      obtain ⟨vs, g1, g2⟩ := h
      exact .cons (.lst (SqL.of (by rw [frzH_in (hsub _ List.mem_cons_self)]; exact g1)) (dqAll_mono0 (frzH_up nF) g2)) (ih fun q hq => hsub q (List.mem_cons_of_mem _ hq))
  exact key (fun q hq => List.mem_cons_of_mem _ hq) h5
section
variable {K : PySem.W.Frag} {W W' : WX} {δ : Dn} {ta tb te tc tx : TE} {x y z d : PyData} {i : Nat} {ls : List (List PyData)} {l : List PyData} {k j : Int} {n m : Nat}
theorem map_ref_at {ps : List Addr} {n : Nat} {q : Addr} (h : ps[n]? = some q) : (ps.map V.ref)[n]? = some (.ref q) := by rw [List.getElem?_map, h]; rfl
theorem atI_of {α : Type} {xs : List α} {k : Int} {n : Nat} (h : ixN xs.length k = some n) : atI xs k = xs[n]? := by
  unfold atI; rw [h]; rfl
/-- xs[k][j] -/
theorem ev_ixLL (hi : δ[i]? = some (.gen (ownLL ls))) (ha : EvD K W ta δ (.ok (.int k))) (hk : ixN ls.length k = some n) (hl : ls[n]? = some l) (hb : EvD K W tb δ (.ok (.int j))) (hd : atI l j = some d) : EvD K W (tOp (rIx K) (tOp (rIx K) (tVar i) ta) tb) δ (.ok d) := fun H0 F H σ Q s E q => by
  obtain ⟨v, fp, h1, ⟨p, ps, rfl, rfl, h3, h4, h5⟩, _⟩ := E.at_ hi
  refine ⟨_, h1, ha H0 F H σ _ s E fun w F1 H1 e1 d1 => ?_⟩
  cases d1
  have E1 := E.mono e1
  obtain ⟨a, g1, vs, g2, g3⟩ := paired_at h5 hl
  have hp1 : H1 p = some (.lst (ps.map .ref)) := e1.b _ _ h4
  have ha1 : H1 a = some (.lst vs) := e1.b _ _ g2
  refine .inl ⟨p, ps.map .ref, k, .ref a, rfl, rfl, SqL.of hp1, by rw [atI_of (n := n) (by rw [List.length_map, paired_length h5]; exact hk)]; exact map_ref_at g1, ?_⟩
  refine hb H0 F1 H1 σ _ e1.c E1 fun w2 F2 H2 e2 d2 => ?_
  cases d2
  obtain ⟨u, q1, q2⟩ := atI_dp g3 hd
  refine .inl ⟨a, vs, j, u, rfl, rfl, SqL.of (e2.b _ _ ha1), q1, q u F2 H2 (e1.trans e2) (dq_mono0 (e1.trans e2).a q2)⟩
/-- xs[k].append(e) -/
theorem rn_appLL (hi : δ[i]? = some (.gen (ownLL ls))) (ha : EvD K W ta δ (.ok (.int k))) (hk : ixN ls.length k = some n) (hl : ls[n]? = some l) (hx : EvD K W tx δ (.ok d)) (hz : l.length < sizeLine) :
    Rn K W (tDrop (tBM K "list" rAppend (tOp (rIx K) (tVar i) ta) (tCons tx tNil))) δ (.nx (δ.set i (.gen (ownLL (ls.set n (l ++ [d])))))) := fun D F0 H0 F H σ s E q => by
  obtain ⟨v, fp, h1, ⟨p, ps, rfl, rfl, h3, h4, h5⟩, _⟩ := E.at_ hi
  refine ⟨_, h1, ha H0 F H σ _ s.c E fun w F1 H1 e1 d1 => ?_⟩
  cases d1
  have E1 := E.mono e1
  obtain ⟨a, g1, vs, g2, g3⟩ := paired_at h5 hl
  have hp1 : H1 p = some (.lst (ps.map .ref)) := e1.b _ _ h4
  have ha1 : H1 a = some (.lst vs) := e1.b _ _ g2
  refine .inl ⟨p, ps.map .ref, k, .ref a, rfl, rfl, SqL.of hp1, by rw [atI_of (n := n) (by rw [List.length_map, paired_length h5]; exact hk)]; exact map_ref_at g1, .inl ⟨rfl, vs, SqL.of ha1⟩, ?_⟩
  refine hx H0 F1 H1 σ _ e1.c E1 fun u F2 H2 e2 d2 => ?_
  have E2 := E1.mono e2
  have s2 := (s.trans e1).trans e2
  obtain ⟨v', fp', h1', ⟨p', ps', rfl, rfl, k3, k4, k5⟩, k6, k7, _⟩ := E2.at_ hi
  rw [h1] at h1'
  cases h1'
  have hp2 : H2 p = some (.lst (ps.map .ref)) := e2.b _ _ hp1
  rw [hp2] at k4
  have eps : ps = ps' := by
    have := HO.lst.inj (Option.some.inj k4)
    have inj : ∀ {xs ys : List Addr}, xs.map V.ref = ys.map V.ref → xs = ys := by
      intro xs
      induction xs with
      | nil => intro ys h; cases ys with
        | nil => rfl
        | cons _ _ => cases h
      | cons c r ih => intro ys h; cases ys with
        | nil => cases h
        | cons c' r' =>
          have h1 := List.cons.inj h
          rw [V.ref.inj h1.1, ih h1.2]
    exact inj this
  subst eps
  have am : a ∈ ps := List.mem_of_getElem? g1
  have npa : p ≠ a := fun z => (List.nodup_cons.mp k3).1 (z ▸ am)
  obtain ⟨hf, h0⟩ := k6 a (List.mem_cons_of_mem _ am)
  have ha2 : H2 a = some (.lst vs) := e2.b _ _ ha1
  refine ⟨a, vs, u, rfl, rfl, ha2, by rw [dpa_len g3]; exact hz, q F2 _ σ (s2.mut h0 hf) (k7 _ (ownLL (ls.set n (l ++ [d]))) (p :: ps) (fun b t hb hn => ?_) ⟨p, ps, rfl, rfl, k3, ?_, ?_⟩ fun b hb => .inl hb)⟩
  · rw [upd_ne (fun z => hn (by rw [z]; exact List.mem_cons_of_mem _ am))]; exact hb
  · rw [upd_ne npa]; exact hp2
  · refine paired_set k5 (List.nodup_cons.mp k3).2 g1 ⟨_, upd_same, dpa_append (dqAll_mono0 (e1.trans e2).a g3) (.cons d2 .nil)⟩ fun x y hxa hxm ⟨ws, r1, r2⟩ => ⟨ws, by rw [upd_ne hxa]; exact r1, r2⟩
/-- [[] for ..] -/
theorem rn_newLL {g : TG} {wi : TI} {l : List PyData} {js vs : List Nat} (h : SrcD K wi δ l) (hjs : ∀ j ∈ js, j ∈ vs) (hz : l.length ≤ sizeLine)
    (turn : ∀ (i : Nat) d, l[i]? = some d → ∃ δ', AsD K g js d (wipeD δ vs) δ') : Rn K W (tAsg (tLc wi g tYes (tLst tNil) vs) (gName i)) δ (.nx (δ.set i (.gen (ownLL (List.replicate l.length []))))) := fun D F0 H0 F H σ s E q => by
  refine h H0 F H σ _ s.c E fun J F1 H1 e1 w => fun D1 hD => ?_
  have E1 := E.mono e1
  refine lc_it w (fun i H' => i ≤ l.length ∧ ∃ F' ps, Ext F1 F' H1 H' ∧ F' D1 = none ∧ H' D1 = some (HO.lst (ps.map V.ref)) ∧ ps.length = i ∧ (∀ a ∈ ps, H1 a = none ∧ F' a = none ∧ a ≠ D1 ∧ H' a = some (.lst [])) ∧ ps.Nodup)
    ⟨Nat.zero_le _, F1, [], Ext.side e1.c hD, e1.c.free hD, upd_same, rfl, (fun a ha => by cases ha), List.nodup_nil⟩ (fun i H' _ ⟨_, F', _, s', _⟩ => s'.a.trans s'.c) (fun i v H' H'' hi ⟨_, F', ps, s', fD, hws, hlen, hall, nd⟩ y => ?_) fun H' ⟨_, F', ps, s', fD, hws, hlen, hall, nd⟩ => ?_
  · obtain ⟨rfl, d, hd, hx⟩ := y
    obtain ⟨δ', h1⟩ := turn i d hd
    have E' := (E1.mono s').wipes vs
    refine h1 H0 F' H'' (wipe σ vs) v _ s'.c E' (dp_mono s'.a _ _ hx) fun σ2 w2 E2 => ⟨by rw [w2 vs hjs, wipe_wipe σ vs vs fun u hu => hu], ?_⟩
    unfold tYes
    dsimp only
    rw [if_pos rfl]
    refine ⟨(by show 0 ≤ sizeLine; decide), fun r hr => ?_⟩
    have n1 : H1 r = none := s'.b.free hr
    have nD : r ≠ D1 := fun z => by rw [z, hws] at hr; cases hr
    have hl2 := (List.getElem?_eq_some_iff.mp hd).1
    have up : ∀ a u, H'' a = some u → a ≠ D1 → upd (upd H'' r (.lst [])) D1 (.lst (ps.map .ref ++ [.ref r])) a = some u := fun a u ha hn => by
      rw [upd_ne hn, upd_ne (fun z => by rw [z] at ha; rw [hr] at ha; cases ha)]; exact ha
    have sx : Ext F1 F' H1 (upd (upd H'' r (.lst [])) D1 (.lst (ps.map .ref ++ [.ref r]))) := (s'.trans (Ext.side s'.c hr)).mut hD fD
    refine ⟨ps.map .ref, by rw [upd_ne (Ne.symm nD)]; exact hws, by rw [List.length_map]; omega, by omega, F', ps ++ [r], sx, fD, by rw [upd_same, List.map_append]; rfl, by rw [List.length_append, hlen]; rfl, fun a ha => ?_, ?_⟩
    · rcases List.mem_append.mp ha with ha | ha
      · obtain ⟨q1, q2, q3, q4⟩ := hall a ha
        exact ⟨q1, q2, q3, up a _ q4 q3⟩
      · rw [List.mem_singleton.mp ha]
        exact ⟨n1, s'.c.free hr, nD, by rw [upd_ne nD, upd_same]⟩
    · refine List.nodup_append.mpr ⟨nd, by simp, fun a ha b hb => ?_⟩
      rw [List.mem_singleton.mp hb]
      intro z
      rw [z] at ha
      rw [(hall r ha).2.2.2] at hr
      cases hr
  · have s1 := s.trans e1
    have h0 : ∀ a, H1 a = none → H0 a = none := fun a ha => s1.b.free ha
    have all0 : ∀ a ∈ D1 :: ps, H1 a = none ∧ F1 a = none ∧ H0 a = none := fun a ha => by
      rcases List.mem_cons.mp ha with z | ha
      · rw [z]; exact ⟨hD, e1.c.free hD, h0 _ hD⟩
      · exact ⟨(hall a ha).1, e1.c.free (hall a ha).1, h0 _ (hall a ha).1⟩
    have key : ∀ qs : List Addr, (∀ a ∈ qs, H' a = some (.lst [])) → Paired (InL K F1 H') qs (List.replicate qs.length []) := by
      intro qs
      induction qs with
      | nil => intro _; exact .nil
      | cons c r ih => intro h; exact .cons ⟨[], h c List.mem_cons_self, .nil⟩ (ih fun a ha => h a (List.mem_cons_of_mem _ ha))
    refine q F1 _ _ ⟨s1.a, s1.b.trans s'.b, s1.c.trans s'.b, s1.n⟩ (E1.setG (fp := D1 :: ps) s'.b all0 ⟨D1, ps, rfl, rfl, List.nodup_cons.mpr ⟨fun z => (hall D1 z).2.2.1 rfl, nd⟩, hws, ?_⟩)
    have := key ps fun a ha => (hall a ha).2.2.2
    rw [hlen] at this
    exact this
end
end DL
set_option Elab.async false
set_option linter.all false
set_option maxRecDepth 100000
set_option maxHeartbeats 4000000
/-! DY3: methods, properties, instances made. -/
namespace DL
open PySem PySem.Spec PyProof.Rows L2
/-! ### methods -/
structure CalM (P : Program) (w : World) (K : PySem.W.Frag) (mg : Str → Option Value) (base : Heap) (k : Nat) (C : Addr) (m : Str) (dvs : List V) (R : List PyData → Res PyData → Prop) : Prop where
  cl : Cls K C
  ex : ∃ (f : Addr) (fd : FuncData) (ps : List Str) (ds : List Value), FnOk P w K mg base CX0 k f fd ps (spD K R) ∧ Meth K C m f ∧ Binds K fd ps ds ∧ Vals dvs ds
/-- a property's getter -/
structure CalP (P : Program) (w : World) (K : PySem.W.Frag) (mg : Str → Option Value) (base : Heap) (k : Nat) (C : Addr) (m : Str) (R : List PyData → Res PyData → Prop) : Prop where
  cl : Cls K C
  ex : ∃ (p f : Addr) (fd : FuncData) (ps : List Str), FnOk P w K mg base CX0 k f fd ps (spD K R) ∧ PropOf K C m p f ∧ Binds K fd ps []
/-- the method as it stands in its class -/
structure MethAt (K : PySem.W.Frag) (C : Addr) (m qual : Str) (st : Stmt) (dvs : List V) : Prop where
  cl : Cls K C
  ex : ∃ (f : Addr) (fd : FuncData), FunD K m qual (defArgs st) (defBody st) (defScope st) dvs [] f fd ∧ Meth K C m f
structure PropAt (K : PySem.W.Frag) (C : Addr) (m qual : Str) (st : Stmt) : Prop where
  cl : Cls K C
  ex : ∃ (p f : Addr) (fd : FuncData), FunD K m qual (defArgs st) (defBody st) (defScope st) [] [] f fd ∧ PropOf K C m p f
def BindM (K : PySem.W.Frag) (x qual : Str) (st : Stmt) (ps : List Str) (dvs dvs2 : List V) : Prop :=
  ∀ (f : Addr) (fd : FuncData), FunD K x qual (defArgs st) (defBody st) (defScope st) dvs [] f fd → ∃ ds, Vals dvs2 ds ∧ Binds K fd ps ds
theorem bindM0 {K : PySem.W.Frag} {x qual : Str} {st : Stmt} {ps : List Str} (h : ∀ (kV doc pm : Value) (an : Option Addr) (cdv ct : Value) (us : List Value), us.length = ps.length → bindArgs (PySem.W.fnOf x qual (defArgs st) (defBody st) (defScope st) .none kV doc pm an cdv ct) ⟨us, []⟩ = pure (ps.zip us)) : BindM K x qual st ps [] [] :=
  fun f fd F => ⟨[], .nil, F.bindsN h⟩
section
variable {P : Program} {w : World} {K : PySem.W.Frag} {mg : Str → Option Value} {base : Heap} {x qual m : Str} {st : Stmt} {N ps : List Str} {k : Nat} {dvs dv2 : List V} {C : Addr} {R : List PyData → Res PyData → Prop}
theorem okM (D : MethAt K C m qual st dvs) (b : BindM K m qual st ps dvs dv2) (S : FnScope N ps (defScope st)) (len : ∀ ds r, R ds r → ds.length = ps.length)
    (hb : ∀ (f : Addr) (cdv : Value) (A : Around) (outer : List Env) (s : Shared) (H : Hp) (Ex : XK), Room k (A.deeper (PyProof.Rows.envOfC qual (defScope st) s.heap.objs.size f cdv)) →
      ∃ t, PSs (cxOf CX0 P w K mg base N qual (defScope st) f cdv A outer s H Ex).nox (defBody st) t ∧ ∀ ds r, R ds r → ∃ o, Rn K (fun cls d _ H => Ex cls d H) t (dn N ds) o ∧ endsAs o r) : CalM P w K mg base (k + 1) C m dv2 R := by
  obtain ⟨f, fd, F, hm⟩ := D.ex
  obtain ⟨ws, hw, hB⟩ := b f fd F
  have hpl : ps.length ≤ N.length := by have := congrArg List.length S.pre; rw [List.length_take] at this; omega
  refine ⟨D.cl, f, fd, ps, ws, F.ok S (fun vs H Q E h => ?_) fun cdv A outer s H vs Q E hr h => ?_, hm, hB, hw⟩
  · obtain ⟨_, ds, r, _, hd, hR, _⟩ := h
    rw [dpa_len hd]; exact len ds r hR
  · obtain ⟨t, h1, h2⟩ := hb f cdv A outer s H E hr
    exact ⟨t, h1.nox, fn_read (fun ds r hR => by rw [len ds r hR]; exact hpl) h h2⟩
theorem okP (D : PropAt K C m qual st) (b : BindM K m qual st ps [] []) (S : FnScope N ps (defScope st)) (len : ∀ ds r, R ds r → ds.length = ps.length)
    (hb : ∀ (f : Addr) (cdv : Value) (A : Around) (outer : List Env) (s : Shared) (H : Hp) (Ex : XK), Room k (A.deeper (PyProof.Rows.envOfC qual (defScope st) s.heap.objs.size f cdv)) →
      ∃ t, PSs (cxOf CX0 P w K mg base N qual (defScope st) f cdv A outer s H Ex).nox (defBody st) t ∧ ∀ ds r, R ds r → ∃ o, Rn K (fun cls d _ H => Ex cls d H) t (dn N ds) o ∧ endsAs o r) : CalP P w K mg base (k + 1) C m R := by
  obtain ⟨p, f, fd, F, hm⟩ := D.ex
  obtain ⟨ws, hw, hB⟩ := b f fd F
  cases hw
  have hpl : ps.length ≤ N.length := by have := congrArg List.length S.pre; rw [List.length_take] at this; omega
  refine ⟨D.cl, p, f, fd, ps, F.ok S (fun vs H Q E h => ?_) fun cdv A outer s H vs Q E hr h => ?_, hm, hB⟩
  · obtain ⟨_, ds, r, _, hd, hR, _⟩ := h
    rw [dpa_len hd]; exact len ds r hR
  · obtain ⟨t, h1, h2⟩ := hb f cdv A outer s H E hr
    exact ⟨t, h1.nox, fn_read (fun ds r hR => by rw [len ds r hR]; exact hpl) h h2⟩
end
section
variable {X : Cx} {K : PySem.W.Frag} {k j : Nat} {C : Addr} {m : Str} {o e : Expr} {es : List Expr} {ta : TE} {t : TA} {apos pos : Pos} {dvs : List V} {R : List PyData → Res PyData → Prop} {pl : Sem Bool}
theorem pe_mth (q : X.K = K) (c : CalM X.prog X.w X.K X.mg X.base k C m dvs R) (hr : Room j X.A) (hk : k ≤ j) (he : PE X o ta) (ha : PA X (e :: es) t)
    (hst : starEach (e :: es) X.env = (false, eval e X.env) :: starEach es X.env := by rfl) (hpl : (backTo pos (starEach es X.env)).any (·.1) = false := by rfl)
    (ht : eval (.Call (.Attribute o m apos) (e :: es) [] pos) X.env = (do
      let ov ← eval o X.env
      standAt apos.atName
      let (f, first) ← holding [ov] (getMethod ov m pl)
      callWith pos f first (backTo pos (starEach (e :: es) X.env)) (backToKw pos (keywordEach [] X.env))) := by rfl) :
    PE X (.Call (.Attribute o m apos) (e :: es) [] pos) (tMeth C m (spD K R) dvs E0 ta t) := by
  subst q
  obtain ⟨f, fd, ps, ds, F, hm, hb, hd⟩ := c.ex
  exact pe_meth he c.cl hm F (hr.mono hk) hb hd pass0 ha hst hpl ht
theorem pe_mth0 (q : X.K = K) (c : CalM X.prog X.w X.K X.mg X.base k C m dvs R) (hr : Room j X.A) (hk : k ≤ j) (he : PE X o ta)
    (ht : eval (.Call (.Attribute o m apos) [] [] pos) X.env = (do
      let ov ← eval o X.env
      standAt apos.atName
      let (f, first) ← holding [ov] (getMethod ov m pl)
      callWith pos f first (backTo pos (starEach [] X.env)) (backToKw pos (keywordEach [] X.env))) := by rfl) :
    PE X (.Call (.Attribute o m apos) [] [] pos) (tMeth C m (spD K R) dvs E0 ta tNil) := by
  subst q
  obtain ⟨f, fd, ps, ds, F, hm, hb, hd⟩ := c.ex
  exact pe_meth0 he c.cl hm F (hr.mono hk) hb hd pass0 ht
theorem pe_prp (q : X.K = K) (c : CalP X.prog X.w X.K X.mg X.base k C m R) (hr : Room j X.A) (hk : k + 1 ≤ j) (he : PE X o ta) (hx : Passes CX0 X.nox E0)
    (hab : attributeBase o m X.env (eval o X.env) = eval o X.env := by rfl) : PE X (.Attribute o m pos) (tProp C (spD K R) [] E0 ta) := by
  subst q
  obtain ⟨p, f, fd, ps, F, hp, hb⟩ := c.ex
  exact pe_prop he c.cl hp F (hr.mono hk) hb .nil hx hab
theorem pe_fldK (q : X.K = K) {f : Str} (he : PE X o ta) (hb : attributeBase o f X.env (eval o X.env) = eval o X.env := by rfl) : PE X (.Attribute o f pos) (tFld K ta f) := by
  subst q; exact pe_fld he hb
end
/-! ### instances made -/
def EndN (K : PySem.W.Frag) (F H1 : Hp) (a : Addr) (Q : VK) (E : XK) : Res PyData → Prop
  | .ok d => ∀ F' H', Ext F F' H1 H' → Dq K F' (.ref a) d → Q .non H'
  | .error x => ∀ cls dd F' H', Ext F F' H1 H' → XAt K F' H' x cls dd → E cls dd H'
def spN (K : PySem.W.Frag) (C : Addr) (R : List PyData → Res PyData → Prop) : Sp := fun vs H Q E =>
  ∃ (a dx : Addr) (us : List V) (H1 F : Hp) (ds : List PyData) (r : Res PyData), vs = .ref a :: us ∧ H1 a = none ∧ H1 dx = none ∧ dx ≠ a ∧ H = upd (upd H1 dx (.own a)) a (.ins C dx []) ∧ Same F H1 ∧ DqAll K F us ds ∧ R ds r ∧ EndN K F H1 a Q E r
structure CalI (P : Program) (w : World) (K : PySem.W.Frag) (mg : Str → Option Value) (base : Heap) (CX : CXT) (k : Nat) (x : Str) (C : Addr) (R : List PyData → Res PyData → Prop) : Prop where
  cl : Cls K C
  ex : ∃ (f : Addr) (fd : FuncData) (ps : List Str), FnOk P w K mg base CX k f fd ps (spN K C R) ∧ Mk K C f ∧ Binds K fd ps [] ∧ mg x = some (.ref C)
structure InitAt (K : PySem.W.Frag) (mg : Str → Option Value) (x : Str) (C : Addr) (qual : Str) (st : Stmt) : Prop where
  cl : Cls K C
  ex : ∃ (f : Addr) (fd : FuncData), FunD K "__init__" qual (defArgs st) (defBody st) (defScope st) [] [] f fd ∧ Mk K C f ∧ mg x = some (.ref C)
def tMkD (C : Addr) (sp : Sp) (E : L2.St → XK) (t : TA) : TE := fun σ H Q => t σ H fun vs H1 => ∀ x dx, H1 x = none → H1 dx = none → dx ≠ x → sp (.ref x :: vs) (upd (upd H1 dx (.own x)) x (.ins C dx [])) (fun v H2 => v = .non ∧ Q (.ref x) H2) (E σ)
section
variable {X : Cx} {CX : CXT} {k j : Nat} {f C : Addr} {fd : FuncData} {ps : List Str} {sp : Sp} {E : L2.St → XK} {x : Str} {p pos : Pos} {e : Expr} {es : List Expr} {t : TA} {R : List PyData → Res PyData → Prop}
theorem run_made {pins : List (Addr × Obj)} {σ : L2.St} {H : Hp} {s : Shared} {Q : VK} {us : List Value} {vs : List V} (M : Mk X.K C f) (F : FnOk X.prog X.w X.K X.mg X.base CX k f fd ps sp) (hr : Room (k + 1) X.A) (hb : Binds X.K fd ps [])
    (hx : PassesAt CX X σ (E σ)) (I : Inv X pins σ H s) (r : Vals vs us)
    (h : ∀ x dx, H x = none → H dx = none → dx ≠ x → sp (.ref x :: vs) (upd (upd H dx (.own x)) x (.ins C dx [])) (fun v H2 => v = .non ∧ Q (.ref x) H2) (E σ)) :
    wpAny (model X.prog X.w) X.A (call (.ref C) us) (EP X pins σ Q) X.xe s := by
  have now := h (s.heap.objs.size + 1) s.heap.objs.size (I.hok.fresh (Nat.le_succ _)) (I.hok.fresh (Nat.le_refl _)) (Nat.ne_of_lt (Nat.lt_succ_self _))
  have J := Inv.made (C := C) I
  have rel : Vals (V.ref (s.heap.objs.size + 1) :: vs) (Value.ref (s.heap.objs.size + 1) :: us) := .cons rfl r
  have few : (Value.ref (s.heap.objs.size + 1) :: us ++ ([] : List Value)).length = ps.length := by
    rw [← F.len _ _ _ _ now, List.append_nil, ← rel.length]
  have bnd := hb _ (Value.ref (s.heap.objs.size + 1) :: us) J.kIn few
  rw [List.append_nil] at bnd
  refine wpAny_call (make_map (f := f) I.kIn M.makes M.init (beq_iff_eq.mp M.fn) (codeAny_mono (F.run _ X.stack _ _ ⟨Value.ref (s.heap.objs.size + 1) :: us, []⟩ (Value.ref (s.heap.objs.size + 1) :: us) _ _ (E σ) (hr.make C us []) (J.env0.make C us []) bnd rel now) fun rs s' got => ?_))
  cases rs with
  | error er => exact hx pins _ _ er s' J got
  | ok fl =>
    cases fl with
    | ret u =>
      obtain ⟨v, H', I3, rv, ev, q3⟩ := J.after got
      subst ev
      exact ⟨rv, ⟨V.ref (s.heap.objs.size + 1), H', I3, rfl, q3⟩⟩
    | next => exact False.elim got
    | brk => exact False.elim got
    | cont => exact False.elim got
theorem pe_new1 {K : PySem.W.Frag} (q : X.K = K) (c : CalI X.prog X.w X.K X.mg X.base CX k x C R) (hr : Room j X.A) (hk : k + 1 ≤ j) (hx : ∀ σ, PassesAt CX X σ (E σ)) (ha : PA X (e :: es) t) (hg : Gl X x := by rfl)
    (hdb : (x == ("__debug__" : Str)) = false := by decide) (he : starEach (e :: es) X.env = (false, eval e X.env) :: starEach es X.env := by rfl) (hpl : (backTo pos (starEach es X.env)).any (·.1) = false := by rfl) :
    PE X (.Call (.Name x p) (e :: es) [] pos) (tMkD C (spN K C R) E t) := by
  subst q
  obtain ⟨f, fd, ps, F, M, hb, hm⟩ := c.ex
  refine ⟨fun pins s σ H Q I h => ?_⟩
  refine wpAny_Call_Name_kw (ld_glob I hg hm ?_ hdb)
  refine PySem.W.callWith_K (h₀ := X.base) I.ok.mod.kin M.kp (thn (ha.run pos pins s σ H _ I h) fun us s1 ⟨vs, H1, I1, r, q⟩ => ⟨I1.kIn, ?_⟩) he hpl
  exact run_made M F (hr.mono hk) hb (hx σ) I1 r q
end
section
variable {K : PySem.W.Frag} {W : WX} {δ : Dn} {ta : TA} {ds : List PyData} {d : PyData} {C : Addr} {E : L2.St → XK} {er : Exn} {R : List PyData → Res PyData → Prop}
theorem ev_new (h : EvA K W ta δ (.ok ds)) (hR : R ds (.ok d)) : EvD K W (tMkD C (spN K C R) E ta) δ (.ok d) := fun H0 F H σ Q s En q =>
  h H0 F H σ _ s En fun vs F1 H1 e1 d1 => fun x dx hx hdx hne => ⟨x, dx, vs, H1, F1, ds, .ok d, rfl, hx, hdx, hne, rfl, e1.c, d1, hR, fun F' H' e dv => ⟨rfl, q _ F' H' (e1.trans e) dv⟩⟩
theorem ev_newX (h : EvA K W ta δ (.ok ds)) (hR : R ds (.error er)) : EvD K W (tMkD C (spN K C R) (WE W) ta) δ (.error er) := fun H0 F H σ Q s En q =>
  h H0 F H σ _ s En fun vs F1 H1 e1 d1 => fun x dx hx hdx hne => ⟨x, dx, vs, H1, F1, ds, .error er, rfl, hx, hdx, hne, rfl, e1.c, d1, hR, fun cls dd F' H' e xa => q cls dd F' H' (e1.trans e) xa⟩
theorem ev_newA (h : EvA K W ta δ (.error er)) : EvD K W (tMkD C (spN K C R) E ta) δ (.error er) := fun H0 F H σ Q s En q => h H0 F H σ _ s En q
end
/-! ### __init__ as a def -/
def dnI (a C : Addr) (N : List Str) (ds : List PyData) : Dn := (dn N (clsD a :: ds)).set 0 (.gen (ownI a C []))
def endsI (a C : Addr) : Out → Res PyData → Prop
  | .nx δ, r => ∃ fd, δ[0]? = some (.gen (ownI a C fd)) ∧ r = .ok (objD C fd)
  | .ex _ x, r => r = .error x
  | _, _ => False
theorem init_read {K : PySem.W.Frag} {C : Addr} {R : List PyData → Res PyData → Prop} {N : List Str} {vs : List V} {H : Hp} {Q : VK} {Ex : XK} {t : TS} (hN : ∀ ds r, R ds r → ds.length + 1 ≤ N.length) (h : spN K C R vs H Q Ex)
    (ht : ∀ a ds r, R ds r → ∃ o, Rn K (fun cls d _ H => Ex cls d H) t (dnI a C N ds) o ∧ endsI a C o r) :
    t { nx := fun _ H' => Q .non H', rt := Q } (start N vs) H := by
  obtain ⟨a, dx, us, H1, F, ds, r, rfl, ha, hdx, hne, rfl, s, hd, hR, q⟩ := h
  obtain ⟨o, h1, h2⟩ := ht a ds r hR
  have E0 : EnvR K H1 F H1 (start N (V.ref a :: us)) (dn N (clsD a :: ds)) := EnvR.start (.cons (.cls a) hd) (by have := hN ds r hR; simpa using this)
  have e1 : Ext F F H1 (upd H1 dx (.own a)) := Ext.side s hdx
  have ha1 : (upd H1 dx (.own a)) a = none := by rw [upd_ne (Ne.symm hne)]; exact ha
  have e2 : Ext F F H1 (upd (upd H1 dx (.own a)) a (.ins C dx [])) := e1.trans (Ext.side e1.c ha1)
  have E1 : EnvR K H1 F (upd (upd H1 dx (.own a)) a (.ins C dx [])) ((start N (V.ref a :: us)).set 0 (some (.ref a))) (dnI a C N ds) := E0.setG (fp := [a, dx]) e2.b (fun b hb => by
    rcases List.mem_cons.mp hb with z | hb
    · rw [z]; exact ⟨ha, s.free ha, ha⟩
    · rw [List.mem_singleton.mp hb]; exact ⟨hdx, s.free hdx, hdx⟩) ⟨dx, [], rfl, rfl, upd_same, by rw [upd_ne hne, upd_same], rfl, .nil⟩
  refine h1 _ F H1 F _ _ e2 E1 ?_
  cases o <;> first
    | exact h2.elim
    | (obtain ⟨fd, g1, g2⟩ := h2
       subst g2
       exact fun F1 H2 σ s1 E2 => by
         obtain ⟨v, fp, k1, ⟨dx', fv, k2, k3, k4, k5, k6, k7⟩, k8, _⟩ := E2.at_ g1
         have hp : a ∈ fp := by rw [k3]; exact List.mem_cons_self
         have nF : ∀ b ∈ fp, F1 b = none := fun b hb => (k8 b hb).1
         refine q (frzH F1 H2 fp) H2 ⟨s1.a.trans (frzH_up nF), s1.b, frzH_dn s1.c, fun y hy hf => ?_⟩ (.ins (by rw [frzH_in hp]; exact k4) k6 (dqAll_mono0 (frzH_up nF) k7))
         by_cases z : y ∈ fp
         · exact absurd (k8 y z).2 hy
         · rw [frzH_out z]; exact s1.n y hy hf)
    | (have e := h2
       cases e
       exact fun cls d σ F1 H2 s1 E2 x1 => q cls d F1 H2 s1 x1)
section
variable {P : Program} {w : World} {K : PySem.W.Frag} {mg : Str → Option Value} {base : Heap} {x qual : Str} {st : Stmt} {N ps : List Str} {k : Nat} {C : Addr} {R : List PyData → Res PyData → Prop} {CX : CXT}
theorem okNew (D : InitAt K mg x C qual st) (b : BindM K "__init__" qual st ps [] []) (S : FnScope N ps (defScope st)) (len : ∀ ds r, R ds r → ds.length + 1 = ps.length)
    (hb : ∀ (f : Addr) (cdv : Value) (A : Around) (outer : List Env) (s : Shared) (H : Hp) (Ex : XK), Room k (A.deeper (PyProof.Rows.envOfC qual (defScope st) s.heap.objs.size f cdv)) →
      ∃ t, PSs (cxOf CX P w K mg base N qual (defScope st) f cdv A outer s H Ex) (defBody st) t ∧ ∀ a ds r, R ds r → ∃ o, Rn K (fun cls d _ H => Ex cls d H) t (dnI a C N ds) o ∧ endsI a C o r) : CalI P w K mg base CX (k + 1) x C R := by
  obtain ⟨f, fd, F, hM, hm⟩ := D.ex
  obtain ⟨ws, hw, hB⟩ := b f fd F
  cases hw
  have hpl : ps.length ≤ N.length := by have := congrArg List.length S.pre; rw [List.length_take] at this; omega
  refine ⟨D.cl, f, fd, ps, F.ok S (fun vs H Q E h => ?_) fun cdv A outer s H vs Q E hr h => ?_, hM, hB, hm⟩
  · obtain ⟨_, _, us, _, _, ds, r, rfl, _, _, _, _, _, hd, hR, _⟩ := h
    rw [List.length_cons, dpa_len hd]; exact len ds r hR
  · obtain ⟨t, h1, h2⟩ := hb f cdv A outer s H E hr
    exact ⟨t, h1, init_read (fun ds r hR => by rw [len ds r hR]; exact hpl) h h2⟩
end
end DL
set_option Elab.async false
set_option linter.all false
set_option maxRecDepth 100000
set_option maxHeartbeats 4000000
/-! DY4: {k: v for x in xs for y in ys}: a dict of two clauses without tests. -/
namespace DL
open PySem PySem.Spec PyProof.Rows L2
/-- a dict comprehension of two clauses without tests -/
abbrev ddE (kx vx t0 i0 t1 i1 : Expr) (scope : Scope) (pos : Pos) : Expr := .DictComp kx vx [⟨t0, i0, [], 0⟩, ⟨t1, i1, [], 0⟩] scope pos
section
variable {prog : Program} {w : World} {A : Around} {R : Result → Shared → Prop} {s : Shared} {kx vx t0 i0 t1 i1 : Expr} {scope : Scope} {pos : Pos} {it : Value} {D : Addr} {env : Env}
/-- an error of the block -/
abbrev dNote (prog : Program) (w : World) (A : Around) (env : Env) (R : Result → Shared → Prop) : Value → Shared → Prop := notedBy (model prog w) A env fun er sr => R (.error er) sr
theorem dd_turn0 : compTurn (ddE kx vx t0 i0 t1 i1 scope pos) 0 it (.ref D) env = (do
    standAt i0.pos
    let got ← pyNext it
    match got with
    | none => pure (.done .next)
    | some v =>
      letOwnedTupleGo t0 it v
      assign t0 env v
      let xs ← eval i1 env
      standAt i1.pos
      let xs ← foldedSetIterable i1 env xs
      let begun ← holding [xs] (pyIter xs)
      let _ ← runOwn (.compStart (ddE kx vx t0 i0 t1 i1 scope pos) 1 begun (.ref D) env) env
      again (.compLoop (ddE kx vx t0 i0 t1 i1 scope pos) 0 it (.ref D) env)) := by rfl
theorem dd_turn1 : compTurn (ddE kx vx t0 i0 t1 i1 scope pos) 1 it (.ref D) env = (do
    standAt i1.pos
    let got ← pyNext it
    match got with
    | none => pure (.done .next)
    | some v =>
      letOwnedTupleGo t1 it v
      assign t1 env v
      (do
        let kv ← eval kx env
        let vv ← holding [kv] (eval vx env)
        standAt { kx.pos with endLine := vx.pos.endLine, endCol := vx.pos.endCol }
        holding [kv, vv] (dictSet D kv vv))
      again (.compLoop (ddE kx vx t0 i0 t1 i1 scope pos) 1 it (.ref D) env)) := by rfl
/-- the first clause's loop -/
theorem dd_loop0 (hs : ∀ x, foldedSetIterable i1 env x = pure x) (J : Nat → Shared → Prop)
    (turn : ∀ n s, J n s → wpAny (model prog w) A (pyNext it) (fun got sa => match got with
      | none => R (.ok .next) sa
      | some v => wpAny (model prog w) A (letOwnedTupleGo t0 it v) (fun _ sb => wpAny (model prog w) A (assign t0 env v) (fun _ sc => wpAny (model prog w) A (eval i1 env) (fun xs sd => wpAny (model prog w) A (pyIter xs) (fun begun se =>
          codeAny (model prog w) A (.compStart (ddE kx vx t0 i0 t1 i1 scope pos) 1 begun (.ref D) env) (fun end1 sf => match end1 with
            | .ok _ => ∃ m, m < n ∧ J m sf
            | .error _ => False) se) (dNote prog w A env R) sd) (dNote prog w A env R) sc) (dNote prog w A env R) sb) (dNote prog w A env R) sa) (dNote prog w A env R) s)
    (n : Nat) (h : J n s) : codeAny (model prog w) A (.compLoop (ddE kx vx t0 i0 t1 i1 scope pos) 0 it (.ref D) env) R s := by
  refine codeAny_loop rfl J (fun n s hJ => ?_) n h
  refine wpAny_noted (m := compTurn (ddE kx vx t0 i0 t1 i1 scope pos) 0 it (.ref D) env) ?_
  rw [dd_turn0]
  refine wpAny_bind (wpAny_standAt (wpAny_bind (wpAny_mono (turn n s hJ) (fun got sa ha => ?_) fun _ _ z => z)))
  cases got with
  | none => exact wpAny_pure ha
  | some v =>
    refine wpAny_bind (wpAny_mono ha (fun _ sb hb => wpAny_bind (wpAny_mono hb (fun _ sc hc => wpAny_bind (wpAny_mono hc (fun xs sd hd => ?_) fun _ _ z => z)) fun _ _ z => z)) fun _ _ z => z)
    refine wpAny_bind (wpAny_standAt (wpAny_bind (wpAny_of_eq (hs xs) (wpAny_bind (wpAny_holding (wpAny_mono hd (fun begun se he => ?_) fun _ _ z => z))))))
    refine wpAny_bind (wpAny_runOwn ?_)
    rw [Around.mark_none]
    refine codeAny_mono he fun end1 sf hf => ?_
    cases end1 with
    | ok fl =>
      first
        | exact wpAny_pure ⟨rfl, hf⟩
        | exact wpAny_bind (wpAny_pure (wpAny_pure ⟨rfl, hf⟩))
    | error er => exact hf.elim
/-- the second clause's loop -/
theorem dd_loop1 (J : Nat → Shared → Prop)
    (turn : ∀ n s, J n s → wpAny (model prog w) A (pyNext it) (fun got sa => match got with
      | none => R (.ok .next) sa
      | some v => wpAny (model prog w) A (letOwnedTupleGo t1 it v) (fun _ sb => wpAny (model prog w) A (assign t1 env v) (fun _ sc => wpAny (model prog w) A (eval kx env) (fun kv sd => wpAny (model prog w) A (eval vx env) (fun vv se =>
          wpAny (model prog w) A (dictSet D kv vv) (fun _ sf => ∃ m, m < n ∧ J m sf) (dNote prog w A env R) se) (dNote prog w A env R) sd) (dNote prog w A env R) sc) (dNote prog w A env R) sb) (dNote prog w A env R) sa) (dNote prog w A env R) s)
    (n : Nat) (h : J n s) : codeAny (model prog w) A (.compLoop (ddE kx vx t0 i0 t1 i1 scope pos) 1 it (.ref D) env) R s := by
  refine codeAny_loop rfl J (fun n s hJ => ?_) n h
  refine wpAny_noted (m := compTurn (ddE kx vx t0 i0 t1 i1 scope pos) 1 it (.ref D) env) ?_
  rw [dd_turn1]
  refine wpAny_bind (wpAny_standAt (wpAny_bind (wpAny_mono (turn n s hJ) (fun got sa ha => ?_) fun _ _ z => z)))
  cases got with
  | none => exact wpAny_pure ha
  | some v =>
    refine wpAny_bind (wpAny_mono ha (fun _ sb hb => wpAny_bind (wpAny_mono hb (fun _ sc hc => wpAny_bind (wpAny_bind (wpAny_mono hc (fun kv sd hd => ?_) fun _ _ z => z))) fun _ _ z => z)) fun _ _ z => z)
    refine wpAny_bind (wpAny_holding (wpAny_mono hd (fun vv se he => ?_) fun _ _ z => z))
    exact wpAny_bind (wpAny_standAt (wpAny_holding (wpAny_mono he (fun _ sf hf => wpAny_pure ⟨rfl, hf⟩) fun _ _ z => z)))
/-- the second clause begins -/
theorem dd_start1 (h0 : codeAny (model prog w) A (.compLoop (ddE kx vx t0 i0 t1 i1 scope pos) 1 it (.ref D) env) R s)
    (h : wpAny (model prog w) A (pyIter it) (fun jt sj => codeAny (model prog w) A (.compLoop (ddE kx vx t0 i0 t1 i1 scope pos) 1 jt (.ref D) env) R sj) (dNote prog w A env R) s) :
    codeAny (model prog w) A (.compStart (ddE kx vx t0 i0 t1 i1 scope pos) 1 it (.ref D) env) R s := by
  refine codeAny_of_tree ?_
  refine wpAny_notedAt (m := compStart (ddE kx vx t0 i0 t1 i1 scope pos) 1 it (.ref D) env) ?_
  unfold compStart
  refine wpAny_bind (wpAny_askSetting (wpAny_ite ?_))
  split
  · first
      | exact wpAny_bind (wpAny_pure (wpAny_pure ⟨rfl, h0⟩))
      | exact wpAny_pure ⟨rfl, h0⟩
  · refine wpAny_bind (wpAny_rule ?_)
    first
      | exact wpAny_bind (wpAny_standAt (wpAny_bind (wpAny_mono h (fun jt sj hj => wpAny_pure ⟨rfl, hj⟩) fun _ _ z => z)))
      | (show wpAny _ _ (standAt i1.pos >>= _) _ _ s
         exact wpAny_bind (wpAny_standAt (wpAny_bind (wpAny_mono h (fun jt sj hj => wpAny_pure ⟨rfl, hj⟩) fun _ _ z => z))))
end
/-- the block's reading: behind the first clause's store the second source's own loop, from which Nx is reached -/
def tDd (wi : TI) (g : TG) (wi1 : TI) (g1 : TG) (tk tv : TE) (vs vs1 : List Nat) : TE := fun σ H Q => wi σ H fun J H1 => ∀ D, H1 D = none → ∃ W : Nat → Nat → Hp → Prop, (∃ m, W 0 m (upd H1 D (.dK []))) ∧ ∀ i m Hi, W i m Hi →
  (J.stop i Hi ∧ Q (.ref D) Hi) ∨ (J.go i Hi ∧ ∃ Nx : Hp → Prop, (∀ Hn, Nx Hn → ∃ m', m' < m ∧ W (i + 1) m' Hn) ∧ ∀ x Hy, J.yld i Hi x Hy → g x (wipe σ vs) Hy fun σ2 H2 => wipe σ2 vs = wipe σ vs ∧
    wi1 σ2 H2 fun J1 H4 => ∃ W1 : Nat → Nat → Hp → Prop, (∃ m, W1 0 m H4) ∧ ∀ j k Hj, W1 j k Hj →
      (J1.stop j Hj ∧ Nx Hj) ∨ (J1.go j Hj ∧ ∃ Nx1 : Hp → Prop, (∀ Hn, Nx1 Hn → ∃ k', k' < k ∧ W1 (j + 1) k' Hn) ∧ ∀ x Hy, J1.yld j Hj x Hy → g1 x (wipe σ2 vs1) Hy fun σ3 H5 => wipe σ3 vs1 = wipe σ2 vs1 ∧
        tk σ3 H5 fun y H6 => tv σ3 H6 fun z H7 => ∃ kvs key, y = kV key ∧ H7 D = some (.dK kvs) ∧ kvs.length < sizeLine ∧ Nx1 (upd H7 D (.dK (putK kvs key z)))))
section
variable {X : Cx} {kx vx t0 i0 t1 i1 : Expr} {scope : Scope} {own : List (Str × Nat)} {vs1 : List Nat} {pos : Pos} {wi wi1 : TI} {g g1 : TG} {tk tv : TE}
/-- what holds in the block, wherever it stands -/
abbrev InBlk (X : Cx) (scope : Scope) (Φ : Cx → Prop) : Prop := ∀ (sB : Shared) (HB : Hp) (C : Addr) (cl : List (Str × Addr)) (fp : List Addr), Φ (X.blk sB HB scope (compEnvC scope cl C X.env) fp)
theorem dd_core {pins : List (Addr × Obj)} {s : Shared} {σ : L2.St} {H : Hp} {Q : VK} {use : Option (Value → Sem Unit)} {Qf : Value → Shared → Prop} {pos' : Pos} (hc : X.calm = true) (hN : X.N.Nodup) (hi : PI X t0 i0 wi) (ok : BlkOk X.N X.env.scope scope own) (hv : ∀ i ∈ vs1, i ∈ own.map (·.2))
    (hg : InBlk X scope fun B => PG B t0 g) (hi1 : InBlk X scope fun B => PI B t1 i1 wi1) (hg1 : InBlk X scope fun B => PG B t1 g1) (hk : InBlk X scope fun B => PE B kx tk) (he : InBlk X scope fun B => PE B vx tv)
    (hs : ∀ x, foldedSetIterable i0 X.env x = pure x) (hs1 : ∀ env x, foldedSetIterable i1 env x = pure x) (I : Inv X pins σ H s) (h : tDd wi g wi1 g1 tk tv (own.map (·.2)) vs1 σ H Q)
    (hRR : ∀ D C s' m H', Inv X pins σ H' s' → Q (.ref D) H' → s'.heap.Ns C m → FpOk X pins H' C → compPost (model X.prog X.w) X.A X.xe use Qf (.ref D) C (.ok .next) s') :
    wpAny (model X.prog X.w) X.A (comprehension (ddE kx vx t0 i0 t1 i1 scope pos) scope X.env pos' newDict false (eval i0 X.env) use) Qf X.xe s := by
  have seen : ∀ y ∈ scope.names, y.2 = .free → ∃ c, X.env.cells.lookup y.1 = some c := fun y hy e => (ok.free y hy e).elim (fun z => I.ok.has _ (.inl z)) fun z => I.ok.has _ (.inr z)
  refine wpAny_comprehension_free (use := use) rfl hs (closure_ok seen) ok.kind (fun y hy e => by rw [ok.uniq y hy, e]) (thn (hi.run pins s σ H _ I h) fun xv sx hx => thn hx fun itv sy hy => ?_)
  obtain ⟨it, fp, tn, J, Hy, e, Iy, T, sty, fy, q⟩ := hy
  subst e
  refine wpAny_newObj_type (newEnv_comp ?_)
  generalize hD : sy.heap.objs.size = D
  have freeD : Hy D = none := Iy.hok.fresh (Nat.le_of_eq hD)
  obtain ⟨W, ⟨m0, w0⟩, turn⟩ := q D freeD
  -- the new dict
  generalize hsd : ({ sy with heap := sy.heap.push { cls := .type "dict", data := .dict #[] } } : Shared) = sd
  have Id : Inv X pins σ (upd Hy D (.dK [])) sd := by
    rw [← hsd]
    refine Iy.laid (t' := sy.toks) (fun b o z => Heap.get?_push_of_some _ z) (Nat.le_of_eq hD) ?_
    rw [← hD]
    exact dk_empty sy.heap Iy.big
  have heapd : sd.heap = sy.heap.push { cls := .type "dict", data := .dict #[] } := by rw [← hsd]
  have fd : ∀ b ∈ fp, FpOk X pins (upd Hy D (.dK [])) b ∧ b < sd.heap.objs.size := fun b hb => by
    obtain ⟨o, z, _⟩ := T.obj _ _ sty b hb
    have less := Heap.lt_size z
    refine ⟨⟨?_, (fy b hb).2⟩, by rw [heapd, Heap.size_push]; exact Nat.lt_succ_of_lt less⟩
    rw [upd_ne (by rw [← hD]; exact Nat.ne_of_lt less)]
    exact (fy b hb).1
  have std : tn 0 sd.heap := T.keep _ _ _ sty fun b _ o z => by rw [heapd]; exact Heap.get?_push_of_some _ z
  have Ib := block_start Id ok hN fd
  have pg := hg sd (upd Hy D (.dK [])) sd.heap.objs.size (cellsFrom (sd.heap.objs.size + 1) scope.names (cloFrom X.env.cells scope.names [])) fp
  have pk := hk sd (upd Hy D (.dK [])) sd.heap.objs.size (cellsFrom (sd.heap.objs.size + 1) scope.names (cloFrom X.env.cells scope.names [])) fp
  have pe := he sd (upd Hy D (.dK [])) sd.heap.objs.size (cellsFrom (sd.heap.objs.size + 1) scope.names (cloFrom X.env.cells scope.names [])) fp
  have pi1 := hi1 sd (upd Hy D (.dK [])) sd.heap.objs.size (cellsFrom (sd.heap.objs.size + 1) scope.names (cloFrom X.env.cells scope.names [])) fp
  have pg1 := hg1 sd (upd Hy D (.dK [])) sd.heap.objs.size (cellsFrom (sd.heap.objs.size + 1) scope.names (cloFrom X.env.cells scope.names [])) fp
  show codeAny _ _ (.compStart (ddE kx vx t0 i0 t1 i1 scope pos) 0 (.ref it) (.ref D) (compEnvC scope (cellsFrom (sd.heap.objs.size + 1) scope.names (cloFrom X.env.cells scope.names [])) sd.heap.objs.size X.env)) (compPost (model X.prog X.w) X.A X.xe use Qf (.ref D) sd.heap.objs.size) { sd with heap := pushCells (sd.heap.push { cls := .type "dict", data := .dict #[] }) scope.names }
  have nofp : ∀ b ∈ fp, (upd Hy D (.dK [])) b = none := fun b hb => (fd b hb).1.1
  generalize hce : compEnvC scope (cellsFrom (sd.heap.objs.size + 1) scope.names (cloFrom X.env.cells scope.names [])) sd.heap.objs.size X.env = ce at Ib pg pk pe pi1 pg1 ⊢
  have ceL : ce.locals = sd.heap.objs.size := by subst hce; rfl
  generalize hHd : upd Hy D (.dK []) = Hd at Id Ib pg pk pe pi1 pg1 w0 nofp fd
  generalize hsb : ({ sd with heap := pushCells (sd.heap.push { cls := .type "dict", data := .dict #[] }) scope.names } : Shared) = sb at Ib ⊢
  have stb : tn 0 sb.heap := T.keep _ _ _ std fun b _ o z => by rw [← hsb]; exact pushCells_keeps _ _ _ _ (Heap.get?_push_of_some _ z)
  have stays : ∀ {σ' : L2.St} {H' : Hp} {s' : Shared}, Inv (X.blk sd Hd scope ce fp) [] σ' H' s' → (∀ b ∈ fp, H' b = none) → ∀ b ∈ fp, FpOk (X.blk sd Hd scope ce fp) [] H' b := fun {σ' H' s'} I' hn b hb =>
    ⟨hn b hb, (I'.ok.exf b hb).1, I'.ok.exfs b hb, .inl hb, fun x c z => (I'.ok.exf b hb).2 x c z, fun p hp => absurd (show p ∈ ([] : List (Addr × Obj)) ++ [] from hp) (by simp)⟩
  have outer : codeAny (model X.prog X.w) X.A (.compLoop (ddE kx vx t0 i0 t1 i1 scope pos) 0 (.ref it) (.ref D) ce) (compPost (model X.prog X.w) X.A X.xe use Qf (.ref D) sd.heap.objs.size) sb := by
    refine dd_loop0 (hs1 ce) (fun n s' => ∃ i H', Inv (X.blk sd Hd scope ce fp) [] (wipe σ (own.map (·.2))) H' s' ∧ tn i s'.heap ∧ (∀ b ∈ fp, H' b = none) ∧ W i n H') ?_ m0 ⟨0, Hd, Ib, stb, nofp, w0⟩
    rintro n se ⟨i, He, Ie, ste, ne, we⟩
    rcases turn i n He we with ⟨stop, qq⟩ | ⟨go, Nx, hNx, step⟩
    · refine thnF (T.done (X.blk sd Hd scope ce fp) rfl rfl rfl hc i [] se _ He (fun _ _ => False) Ie (stays Ie ne) ste stop) fun r sf ⟨hr, If⟩ => ?_
      subst hr
      -- back in the def
      have Ig : Inv X pins σ He sf := Id.call' (ch := fp) If.os If.base If.hok If.bare fun b hb => ⟨(fd b hb).1.2.2.2.1, (fd b hb).1.2.1, (fd b hb).1.2.2.2.2.1, (fd b hb).1.2.2.2.2.2⟩
      have freeL : He sd.heap.objs.size = none := by
        have z : He ce.locals = none := If.free
        rw [ceL] at z
        exact z
      obtain ⟨m, hn, _⟩ := If.loc
      have hn : sf.heap.Ns ce.locals m := hn
      rw [ceL] at hn
      exact hRR D sd.heap.objs.size sf m He Ig qq hn (Id.fpOk (Nat.le_refl _) freeL)
    · refine thnF (T.item (X.blk sd Hd scope ce fp) rfl rfl rfl hc i [] se _ He (fun _ _ => False) Ie (stays Ie ne) ste go) fun r sf ⟨u, hr, hf⟩ => ?_
      subst hr
      refine thnF hf fun _ sg ⟨x, Hg, Ig, rg, yg, stg, ng⟩ => ?_
      have Igp := Ig.pinned (stays Ig ng) (T.obj _ _ stg)
      refine thnF (pg.run _ sg _ Hg x u _ Igp rg (step x Hg yg)) fun _ sh ⟨σh, Hh, Ih, wh, qh⟩ => ?_
      -- a turn's end
      have fin : ∀ {σz : L2.St} {sz : Shared} {Hz : Hp}, Inv (X.blk sd Hd scope ce fp) ([] ++ pinsAt fp sg.heap) σz Hz sz → (wipe σ (own.map (·.2))).length = σz.length → (∀ (j : Nat) v, (wipe σ (own.map (·.2)))[j]? = some (some v) → σz[j]? = some (some v)) → Nx Hz →
          ∃ m, m < n ∧ ∃ i H', Inv (X.blk sd Hd scope ce fp) [] (wipe σ (own.map (·.2))) H' sz ∧ tn i sz.heap ∧ (∀ b ∈ fp, H' b = none) ∧ W i m H' := fun {σz sz Hz} Iz hl hk nx => by
        obtain ⟨m', hm, w'⟩ := hNx Hz nx
        have pin : ∀ b ∈ fp, ∀ o, sg.heap.get? b = some o → sz.heap.get? b = some o ∧ Hz b = none := fun b hb o z =>
          let y := Iz.pin (b, o) (List.mem_append_right _ (List.mem_append_right _ (mem_pinsAt hb z)))
          ⟨y.1, y.2.1⟩
        refine ⟨m', hm, i + 1, Hz, (Iz.unpinned (pins := [])).weak hl hk, T.keep _ _ _ stg fun b hb o z => (pin b hb o z).1, fun b hb => ?_, w'⟩
        obtain ⟨o, z, _⟩ := T.obj _ _ stg b hb
        exact (pin b hb o z).2
      have lenh : (wipe σ (own.map (·.2))).length = σh.length := by rw [← wh, wipe_length]
      have knowh : ∀ (j : Nat) v, (wipe σ (own.map (·.2)))[j]? = some (some v) → (wipe σh vs1)[j]? = some (some v) := fun j v z => by
        rw [← wh] at z
        obtain ⟨z1, z2⟩ := wipe_some z
        rw [wipe_out fun y => z2 (hv j y)]
        exact z1
      refine thnF (pi1.run _ sh σh Hh _ Ih qh) fun xv si hxi => thnF hxi fun itv sj hj => ?_
      obtain ⟨jt, fp1, tn1, J1, Hj, e1, Ij, T1, stj, fj, W1, ⟨m1, w1⟩, turn1⟩ := hj
      subst e1
      have stays1 : ∀ {H' : Hp}, (∀ b ∈ fp1, H' b = none) → ∀ b ∈ fp1, FpOk (X.blk sd Hd scope ce fp) ([] ++ pinsAt fp sg.heap) H' b := fun hn b hb => ⟨hn b hb, (fj b hb).2⟩
      have inner : codeAny (model X.prog X.w) X.A (.compLoop (ddE kx vx t0 i0 t1 i1 scope pos) 1 (.ref jt) (.ref D) ce)
          (fun r sz => match r with
            | .ok _ => ∃ m, m < n ∧ ∃ i H', Inv (X.blk sd Hd scope ce fp) [] (wipe σ (own.map (·.2))) H' sz ∧ tn i sz.heap ∧ (∀ b ∈ fp, H' b = none) ∧ W i m H'
            | .error _ => False) sj := by
        refine dd_loop1 (fun k sz => ∃ j H', Inv (X.blk sd Hd scope ce fp) ([] ++ pinsAt fp sg.heap) (wipe σh vs1) H' sz ∧ tn1 j sz.heap ∧ (∀ b ∈ fp1, H' b = none) ∧ W1 j k H') ?_ m1 ⟨0, Hj, Ij.weak (wipe_length _ _) (fun j v z => (wipe_some z).1), stj, fun b hb => (fj b hb).1, w1⟩
        rintro k sk ⟨j, Hk, Ik, stk, nk, wk⟩
        rcases turn1 j k Hk wk with ⟨stop1, nx1⟩ | ⟨go1, Nx1, hNx1, step1⟩
        · refine thnF (T1.done (X.blk sd Hd scope ce fp) rfl rfl rfl hc j _ sk (wipe σh vs1) Hk (fun _ _ => False) Ik (stays1 nk) stk stop1) fun r sl ⟨hr, Il⟩ => ?_
          subst hr
          exact fin Il (lenh.trans (wipe_length σh vs1).symm) knowh nx1
        · refine thnF (T1.item (X.blk sd Hd scope ce fp) rfl rfl rfl hc j _ sk (wipe σh vs1) Hk (fun _ _ => False) Ik (stays1 nk) stk go1) fun r sl ⟨u1, hr, hl⟩ => ?_
          subst hr
          refine thnF hl fun _ sm ⟨x1, Hm, Im, rm, ym, stm, nm⟩ => ?_
          have Imp := Im.pinned (stays1 nm) (T1.obj _ _ stm)
          refine thnF (pg1.run _ sm (wipe σh vs1) Hm x1 u1 _ Imp rm (step1 x1 Hm ym)) fun _ sn ⟨σn, Hn, In, wn, qn⟩ => ?_
          have fin1 : ∀ {sz : Shared} {Hz : Hp}, Inv (X.blk sd Hd scope ce fp) (([] ++ pinsAt fp sg.heap) ++ pinsAt fp1 sm.heap) σn Hz sz → Nx1 Hz → ∃ m, m < k ∧ ∃ j H', Inv (X.blk sd Hd scope ce fp) ([] ++ pinsAt fp sg.heap) (wipe σh vs1) H' sz ∧ tn1 j sz.heap ∧ (∀ b ∈ fp1, H' b = none) ∧ W1 j m H' := fun {sz Hz} Iz nx => by
            obtain ⟨m', hm, w'⟩ := hNx1 Hz nx
            have pin : ∀ b ∈ fp1, ∀ o, sm.heap.get? b = some o → sz.heap.get? b = some o ∧ Hz b = none := fun b hb o z =>
              let y := Iz.pin (b, o) (List.mem_append_right _ (List.mem_append_right _ (mem_pinsAt hb z)))
              ⟨y.1, y.2.1⟩
            refine ⟨m', hm, j + 1, Hz, Iz.unpinned.weak (by rw [← wn, wipe_length]) (fun j v z => by rw [← wn] at z; exact (wipe_some z).1), T1.keep _ _ _ stm fun b hb o z => (pin b hb o z).1, fun b hb => ?_, w'⟩
            obtain ⟨o, z, _⟩ := T1.obj _ _ stm b hb
            exact (pin b hb o z).2
          refine thnF (pk.run _ sn σn Hn _ In qn) fun zk so ⟨yk, Ho, Io, ro, qo⟩ => ?_
          refine thnF (pe.run _ so σn Ho _ Io qo) fun zv sp ⟨yv, Hp2, Ip, rp, kvs, key, ek, hDp, hzp, nx⟩ => ?_
          subst ek
          exact d_dictSet (X := X.blk sd Hd scope ce fp) Ip hDp hzp ro rp fun sq Iq => fin1 Iq nx
      exact dd_start1 inner (T1.self X.A 0 _ _ _ stj inner)
  exact codeAny_compStart_dict outer (T.self X.A 0 _ _ _ stb outer)
theorem pe_dd (hc : X.calm = true) (hN : X.N.Nodup) (hi : PI X t0 i0 wi) (ok : BlkOk X.N X.env.scope scope own) (hv : ∀ i ∈ vs1, i ∈ own.map (·.2))
    (hg : InBlk X scope fun B => PG B t0 g) (hi1 : InBlk X scope fun B => PI B t1 i1 wi1) (hg1 : InBlk X scope fun B => PG B t1 g1) (hk : InBlk X scope fun B => PE B kx tk) (he : InBlk X scope fun B => PE B vx tv)
    (hs : ∀ x, foldedSetIterable i0 X.env x = pure x := by intro _; rfl) (hs1 : ∀ env x, foldedSetIterable i1 env x = pure x := by intro _ _; rfl) :
    PE X (ddE kx vx t0 i0 t1 i1 scope pos) (tDd wi g wi1 g1 tk tv (own.map (·.2)) vs1) := by
  refine ⟨fun pins s σ H Q I h => ?_⟩
  rw [arm_eval_DictComp]
  refine dd_core hc hN hi ok hv hg hi1 hg1 hk he hs hs1 I h fun D C s' m H' J q hn f => ⟨m, hn, fun h2 same => ?_⟩
  obtain ⟨f0, f1, f2, f3, f4, f5⟩ := f
  exact ⟨.ref D, H', J.turned (t' := s'.toks) (fun b o hb z => (same.2 b hb).trans z) f0 f1 f3 f4 f5, rfl, q⟩
theorem sw_dd {py : Pos} {y : Str} {l : Nat} {env : Env} (hk : env.scope.kind = .function) (hy : env.scope.names.lookup y = some .local) (hl : (py.line == pos.line) = true)
    (ha : (scope.names.any fun (n, k) => n == y && (k == .local || k == .cell)) = false) : swapsWith (ddE kx vx t0 i0 t1 i1 scope pos) (some (.Name y py)) l env = pure true := by
  have ky : env.kindOf y = some .local := hy
  have hb : env.blockKind = .function := by unfold Env.blockKind; rw [hk]; rfl
  unfold swapsWith
  simp only [hb, ky, ha, Expr.pos, hl]
  rfl
/-- y = {..} on one line -/
theorem ps_setDd {i : Nat} {y : Str} {py spos : Pos} (hc : X.calm = true) (hN : X.N.Nodup) (hy : X.N[i]? = some y) (hyl : X.env.scope.names.lookup y = some .local) (hsw : swapsWith (ddE kx vx t0 i0 t1 i1 scope pos) (some (.Name y py)) spos.line X.env = pure true) (hi : PI X t0 i0 wi) (ok : BlkOk X.N X.env.scope scope own) (hv : ∀ i ∈ vs1, i ∈ own.map (·.2))
    (hg : InBlk X scope fun B => PG B t0 g) (hi1 : InBlk X scope fun B => PI B t1 i1 wi1) (hg1 : InBlk X scope fun B => PG B t1 g1) (hk : InBlk X scope fun B => PE B kx tk) (he : InBlk X scope fun B => PE B vx tv)
    (hs : ∀ x, foldedSetIterable i0 X.env x = pure x := by intro _; rfl) (hs1 : ∀ env x, foldedSetIterable i1 env x = pure x := by intro _ _; rfl) :
    PS X (.Assign [.Name y py] (ddE kx vx t0 i0 t1 i1 scope pos) spos) (tAsg (tDd wi g wi1 g1 tk tv (own.map (·.2)) vs1) (gName i)) := by
  refine ⟨fun pins s σ H D I h => ?_⟩
  rw [exec_Assign_Name_used _ _ _ _ hsw]
  refine wpAny_bind (wpAny_standAt (wpAny_bind ?_))
  show wpAny _ X.A (do let _ ← comprehension (ddE kx vx t0 i0 t1 i1 scope pos) scope X.env (firstIterPos [⟨t0, i0, [], 0⟩, ⟨t1, i1, [], 0⟩] pos) newDict false (eval i0 X.env) (some (assign (.Name y py) X.env))) _ _ s
  have h : tDd wi g wi1 g1 tk tv (own.map (·.2)) vs1 σ H (fun x H1 => gName i x σ H1 D.nx) := h
  refine wpAny_bind (thn (dd_core (Qf := fun _ s' => SP X pins D .next s') hc hN hi ok hv hg hi1 hg1 hk he hs hs1 I h fun L C s' m H' J q hn f => ?_) fun _ s' hq => wpAny_pure (wpAny_pure hq))
  show wpAny _ _ (assign (.Name y py) X.env (.ref L)) _ _ _
  refine wpAny_assign_Name (store_ok2 (v := V.ref L) J hN hy (.inl hyl) rfl (fun s2 J2 ⟨a, sb, ha⟩ => ?_) (.inr hyl))
  obtain ⟨f0, f1, f2, f3, f4, f5⟩ := f
  have away : C ≠ a := by
    rcases ha with z | z
    · rw [z]; exact f1
    · exact fun e => f4 y a z e.symm
  exact ⟨m, hn.sameBut sb away, fun h3 same => ⟨_, H', J2.turned (t' := s2.toks) (fun b o hb z => (same.2 b hb).trans z) f0 f1 f3 f4 f5, q⟩⟩
end
end DL
set_option Elab.async false
set_option linter.all false
set_option maxRecDepth 100000
set_option maxHeartbeats 4000000
/-! DY5: the dict of two clauses as data. -/
namespace DL
open PySem PySem.Spec PyProof.Rows L2
def mergeD (kd prs : List (Key × PyData)) : List (Key × PyData) := prs.foldl (fun acc p => putD acc p.1 p.2) kd
theorem putD_len (kd : List (Key × PyData)) (k : Key) (d : PyData) : (putD kd k d).length ≤ kd.length + 1 := by
  unfold putD
  split
  · rw [List.length_map]; omega
  · rw [List.length_append]; exact Nat.le_refl _
theorem mergeD_len : ∀ (prs kd : List (Key × PyData)), (mergeD kd prs).length ≤ kd.length + prs.length
  | [], kd => Nat.le_refl _
  | p :: r, kd => by
    have h1 := mergeD_len r (putD kd p.1 p.2)
    have h2 := putD_len kd p.1 p.2
    show (mergeD (putD kd p.1 p.2) r).length ≤ _
    rw [List.length_cons]; omega
theorem mergeD_app (kd a b : List (Key × PyData)) : mergeD kd (a ++ b) = mergeD (mergeD kd a) b := List.foldl_append
theorem putD_some (kd : List (Key × PyData)) (k j : Key) (d : PyData) : (valD (putD kd k d) j).isSome = (decide (k = j) || (valD kd j).isSome) := by
  have key : ∀ l : List (Key × PyData), (valD l j).isSome = l.any fun p => decide (p.1 = j) := by
    intro l
    induction l with
    | nil => rfl
    | cons p r ih =>
      by_cases c : p.1 = j
      · simp [valD, List.find?_cons, c]
      · have e : valD (p :: r) j = valD r j := by simp [valD, List.find?_cons, c]
        rw [e, ih, List.any_cons, decide_eq_false c, Bool.false_or]
  rw [key, key]
  unfold putD
  split
  · rename_i h
    have e : ((kd.map fun p => if p.1 = k then (p.1, d) else p).any fun p => decide (p.1 = j)) = kd.any fun p => decide (p.1 = j) := by
      rw [List.any_map]
      congr 1
      funext p
      show decide ((if p.1 = k then (p.1, d) else p).1 = j) = _
      split <;> rfl
    rw [e]
    by_cases c : k = j
    · subst c; rw [h]; simp
    · simp [c]
  · rw [List.any_append]
    by_cases c : k = j
    · simp [c]
    · simp [c]
theorem mergeD_some (j : Key) : ∀ (prs kd : List (Key × PyData)), (valD (mergeD kd prs) j).isSome = ((prs.any fun p => decide (p.1 = j)) || (valD kd j).isSome)
  | [], kd => by simp [mergeD]
  | p :: r, kd => by
    show (valD (mergeD (putD kd p.1 p.2) r) j).isSome = _
    rw [mergeD_some j r, putD_some, List.any_cons]
    cases decide (p.1 = j) <;> simp
/-! ### a thing that no slot owns -/
def barH (H0 : Hp) (D : Addr) : Hp := upd H0 D (.lst [])
theorem EnvR.bar {K : PySem.W.Frag} {H0 F H : Hp} {σ : L2.St} {δ : Dn} {D : Addr} (E : EnvR K H0 F H σ δ) (h : H D = none) : EnvR K (barH H0 D) F H σ δ := by
  obtain ⟨fps, h1, h2, h3⟩ := E.ex
  refine ⟨E.len, fps, fun i s hs => ?_, h2, h3⟩
  have q := h1 i s hs
  cases s with
  | gen o =>
    obtain ⟨q1, v, q2, q3⟩ := q
    refine ⟨fun a ha => ⟨(q1 a ha).1, ?_⟩, v, q2, q3⟩
    obtain ⟨u, hu, _⟩ := o.live q3 a ha
    unfold barH
    rw [upd_ne (fun z => by rw [z, h] at hu; cases hu)]
    exact (q1 a ha).2
  | _ => exact q
theorem EnvR.barred {K : PySem.W.Frag} {H0 F H : Hp} {σ : L2.St} {δ : Dn} {D : Addr} {u o : HO} (E : EnvR K (barH H0 D) F H σ δ) (hD : H D = some o) (ho : ∀ fs, o ≠ .xd fs) : EnvR K (barH H0 D) F (upd H D u) σ δ := by
  obtain ⟨fps, h1, h2, h3⟩ := E.ex
  refine ⟨E.len, fps, fun i s hs => (h1 i s hs).keep (Same.refl _) (fun a o' ha hor => ?_) fun a ha => ((h1 i s hs).live a ha).2.1, h2, h3⟩
  rw [upd_ne fun z => ?_]
  · exact ha
  · subst z
    rcases hor with hor | ⟨fs, hor⟩
    · have q := ((h1 i s hs).live _ hor).2.2
      unfold barH at q
      rw [upd_same] at q
      cases q
    · rw [hD] at ha
      cases ha
      exact ho fs hor
section
variable {K : PySem.W.Frag} {W W' : WX} {δ : Dn} {wi wi1 : TI} {g g1 : TG} {tk tv : TE}
def DicIs (K : PySem.W.Frag) (D : Addr) (kd : List (Key × PyData)) (F' H' : Hp) : Prop := F' D = none ∧ ∃ kv, H' D = some (.dK kv) ∧ kv.map (·.1) = kd.map (·.1) ∧ DqAll K F' (kv.map (·.2)) (kd.map (·.2))
theorem DicIs.ext {D : Addr} {kd : List (Key × PyData)} {F1 F2 H1 H2 : Hp} (h : DicIs K D kd F1 H1) (e : Ext F1 F2 H1 H2) : DicIs K D kd F2 H2 := by
  obtain ⟨h0, kv, h1, h2, h3⟩ := h
  exact ⟨e.n D (by rw [h1]; exact fun z => nomatch z) h0, kv, e.b _ _ h1, h2, dqAll_mono0 e.a h3⟩
theorem ev_dd {l : List PyData} {js js1 vs vs1 : List Nat} (Fp : PyData → List (Key × PyData)) (L : PyData → List PyData) (h : SrcD K wi δ l) (hjs : ∀ j ∈ js, j ∈ vs) (hjs1 : ∀ j ∈ js1, j ∈ vs1) (hz : (l.flatMap Fp).length < sizeLine)
    (turn : ∀ (i : Nat) d, l[i]? = some d → ∃ δ', AsD K g js d (wipeD δ vs) δ' ∧ SrcD K wi1 δ' (L d) ∧ (L d).length = (Fp d).length ∧
      ∀ (j : Nat) d1 p, (L d)[j]? = some d1 → (Fp d)[j]? = some p → ∃ δ2, AsD K g1 js1 d1 (wipeD δ' vs1) δ2 ∧ EvD K W' tk δ2 (.ok (keyD p.1)) ∧ EvD K W' tv δ2 (.ok p.2)) :
    EvD K W (tDd wi g wi1 g1 tk tv vs vs1) δ (.ok (dicD (mergeD [] (l.flatMap Fp)))) := fun H0 F H σ Q s E q => by
  refine h H0 F H σ _ s E fun J F1 H1 e1 w => fun D hD => ?_
  have E1 := E.mono e1
  refine ⟨fun i m Hi => m = l.length - i ∧ i ≤ l.length ∧ ∃ F', Ext F1 F' H1 Hi ∧ DicIs K D (mergeD [] ((l.take i).flatMap Fp)) F' Hi, ⟨l.length, by simp, Nat.zero_le _, F1, Ext.side e1.c hD, e1.c.free hD, [], upd_same, rfl, .nil⟩, ?_⟩
  rintro i m Hi ⟨rfl, hi, F', s', hdic⟩
  have G : Same F1 Hi := s'.a.trans s'.c
  by_cases hlt : i < l.length
  · refine .inr ⟨w.goes i Hi hlt G, fun Hn => i + 1 ≤ l.length ∧ ∃ F', Ext F1 F' H1 Hn ∧ DicIs K D (mergeD [] ((l.take (i + 1)).flatMap Fp)) F' Hn, fun Hn p => ⟨l.length - (i + 1), by omega, rfl, p.1, p.2⟩, fun x Hy y => ?_⟩
    obtain ⟨rfl, d, hd, hx⟩ := w.yields i _ x Hy hlt G y
    obtain ⟨δ', h1, h2, h3, h4⟩ := turn i d hd
    have tk1 : (l.take (i + 1)).flatMap Fp = (l.take i).flatMap Fp ++ Fp d := by
      rw [List.take_add_one, hd]; simp
    have sub : ((l.take (i + 1)).flatMap Fp).length ≤ (l.flatMap Fp).length := by
      have e : l = l.take (i + 1) ++ l.drop (i + 1) := (List.take_append_drop _ _).symm
      conv => rhs; rw [e]
      rw [List.flatMap_append, List.length_append]; omega
    refine h1 (barH H0 D) F' Hy (wipe σ vs) x _ s'.c (((E1.bar hD).mono s').wipes vs) (dq_mono0 s'.a hx) fun σ2 w2 E2 => ⟨by rw [w2 vs hjs, wipe_wipe σ vs vs fun u hu => hu], ?_⟩
    refine h2 (barH H0 D) F' Hy σ2 _ s'.c E2 fun J1 F2 H2 e2 w1 => ?_
    have E3 := E2.mono e2
    have hdic2 := hdic.ext e2
    refine ⟨fun j k Hj => k = (L d).length - j ∧ j ≤ (L d).length ∧ ∃ F3, Same F2 F3 ∧ EnvR K (barH H0 D) F3 Hj σ2 δ' ∧ Ext F1 F3 H1 Hj ∧ DicIs K D (mergeD (mergeD [] ((l.take i).flatMap Fp)) ((Fp d).take j)) F3 Hj, ⟨(L d).length, by simp, Nat.zero_le _, F2, Same.refl _, E3, s'.trans e2, hdic2⟩, ?_⟩
    rintro j k Hj ⟨rfl, hj, F3, s3, E3j, s13, hdic3⟩
    have G1 : Same F2 Hj := s3.trans s13.c
    by_cases hlj : j < (L d).length
    · refine .inr ⟨w1.goes j Hj hlj G1, fun Hn => j + 1 ≤ (L d).length ∧ ∃ F3, Same F2 F3 ∧ EnvR K (barH H0 D) F3 Hn σ2 δ' ∧ Ext F1 F3 H1 Hn ∧ DicIs K D (mergeD (mergeD [] ((l.take i).flatMap Fp)) ((Fp d).take (j + 1))) F3 Hn, fun Hn p => ⟨(L d).length - (j + 1), by omega, rfl, p.1, p.2⟩, fun x1 Hz y1 => ?_⟩
      obtain ⟨rfl, d1, hd1, hx1⟩ := w1.yields j _ x1 Hz hlj G1 y1
      obtain ⟨p, hp⟩ : ∃ p, (Fp d)[j]? = some p := ⟨_, List.getElem?_eq_getElem (by omega)⟩
      obtain ⟨δ2, g1', g2', g3'⟩ := h4 j d1 p hd1 hp
      refine g1' (barH H0 D) F3 Hz (wipe σ2 vs1) x1 _ s13.c (E3j.wipes vs1) (dq_mono0 s3 hx1) fun σ3 w3 E4 => ⟨by rw [w3 vs1 hjs1, wipe_wipe σ2 vs1 vs1 fun u hu => hu], ?_⟩
      refine g2' (barH H0 D) F3 Hz σ3 _ s13.c E4 fun yk F4 H4 e4 dk => ?_
      refine g3' (barH H0 D) F4 H4 σ3 _ e4.c (E4.mono e4) fun yv F5 H5 e5 dv => ?_
      have e45 := e4.trans e5
      obtain ⟨nD, kv, q1, q2, q3⟩ := hdic3.ext e45
      have hl := keys_len q2
      have mono1 : (mergeD (mergeD [] ((l.take i).flatMap Fp)) ((Fp d).take j)).length ≤ (l.flatMap Fp).length := by
        rw [← mergeD_app]
        refine Nat.le_trans (mergeD_len _ _) (Nat.le_trans ?_ sub)
        rw [tk1, List.length_append, List.length_append, List.length_take, List.length_nil]; omega
      have pd := putD_dq (K := K) (F := F5) p.1 dv q2 q3
      have tkj : (Fp d).take (j + 1) = (Fp d).take j ++ [p] := by rw [List.take_add_one, hp]; rfl
      refine ⟨kv, p.1, key_v dk, q1, by omega, by omega, F5, s3.trans e45.a, ((E3j.mono e45).barred q1 fun fs z => by cases z), (s13.trans e45).mut hD nD, nD, _, upd_same, ?_⟩
      · rw [tkj, mergeD_app]
        exact pd
    · have ej : j = (L d).length := by omega
      subst ej
      refine .inl ⟨w1.stops Hj G1, by omega, F3, s13, ?_⟩
      rw [h3, List.take_length, ← mergeD_app, ← tk1] at hdic3
      exact hdic3
  · have ei : i = l.length := by omega
    subst ei
    refine .inl ⟨w.stops Hi G, ?_⟩
    rw [List.take_length] at hdic
    obtain ⟨nD, kv, q1, q2, q3⟩ := hdic
    refine q _ (upd F' D (.dK kv)) Hi (e1.trans (s'.freeze hD nD q1)) (.dic upd_same q2 (dqAll_mono0 (same_upd (Same.refl _) nD) q3))
end
end DL
set_option Elab.async false
set_option linter.all false
set_option maxRecDepth 100000
set_option maxHeartbeats 4000000
/-! DY6: what is walked, a list or a tuple; the last of the layer. -/
namespace DL
open PySem PySem.Spec PyProof.Rows L2 He
/-! ### a list or a tuple is walked -/
def iOr (a b : TI) : TI := fun σ H R => a σ H R ∨ b σ H R
def iSeq (K : PySem.W.Frag) (t : TE) : TI := iOr (iList K t) (iTup K t)
section
variable {X : Cx} {K : PySem.W.Frag} {tg e : Expr} {t : TE}
theorem call_tuple_ofK (q : X.K = K) : CallR X (.type "tuple") (rTupOf K) := by subst q; exact call_tuple_of
theorem call_list_ofK (q : X.K = K) : CallR X (.type "list") (rListOf K) := by subst q; exact call_list_of
theorem cr_sumK (q : X.K = K) (hc : X.calm = true) : CallR X (.builtin "sum") (rSum K) := by subst q; exact cr_sum hc
theorem cr_maxK (q : X.K = K) (hc : X.calm = true) : CallR X (.builtin "max") (rMax K) := by subst q; exact cr_max hc
theorem pi_or {a b : TI} (h1 : PI X tg e a) (h2 : PI X tg e b) : PI X tg e (iOr a b) :=
  ⟨fun pins s σ H R I h => h.elim (fun z => h1.run pins s σ H R I z) fun z => h2.run pins s σ H R I z⟩
theorem pi_listK (q : X.K = K) (h : PE X e t) : PI X tg e (iList K t) := by subst q; exact pi_list h
theorem pi_tupK (q : X.K = K) (h : PE X e t) : PI X tg e (iTup K t) := by subst q; exact pi_tup h
theorem pi_seq (q : X.K = K) (h : PE X e t) : PI X tg e (iSeq K t) := by subst q; exact pi_or (pi_list h) (pi_tup h)
end
section
variable {K : PySem.W.Frag} {W : WX} {δ : Dn} {t : TE} {l : List PyData}
theorem src_sl (h : EvD K W t δ (.ok (.list l))) : SrcD K (iSeq K t) δ l := fun H0 F H σ R s E k => .inl (src_list h H0 F H σ R s E k)
theorem src_st (h : EvD K W t δ (.ok (.tuple l))) : SrcD K (iSeq K t) δ l := fun H0 F H σ R s E k => .inr (src_tup h H0 F H σ R s E k)
end
theorem hu1 {A : Around} {k : Nat} (hr : Room k A) : A.units + 1 < cLine := by have := hr.un; omega
/-! ### a list or a tuple is taken apart -/
def gOr (a b : TG) : TG := fun v σ H Q => a v σ H Q ∨ b v σ H Q
theorem pg_or {X : Cx} {e : Expr} {a b : TG} (h1 : PG X e a) (h2 : PG X e b) : PG X e (gOr a b) :=
  ⟨fun pins s σ H x v Q I r h => h.elim (fun z => h1.run pins s σ H x v Q I r z) fun z => h2.run pins s σ H x v Q I r z⟩
theorem as_l {K : PySem.W.Frag} {a b : TG} {js : List Nat} {d : PyData} {δ δ' : Dn} (h : AsD K a js d δ δ') : AsD K (gOr a b) js d δ δ' := fun H0 F H σ v Q s E hd q => .inl (h H0 F H σ v Q s E hd q)
theorem as_r {K : PySem.W.Frag} {a b : TG} {js : List Nat} {d : PyData} {δ δ' : Dn} (h : AsD K b js d δ δ') : AsD K (gOr a b) js d δ δ' := fun H0 F H σ v Q s E hd q => .inr (h H0 F H σ v Q s E hd q)
theorem pg_tupK {X : Cx} {K : PySem.W.Frag} {es : List Expr} {n k : Nat} {t : TGs} {pos : Pos} (hc : X.calm = true) (h : PGs X es t) (q : X.K = K := by rfl) (hn : (assignEach es X.env).length = n := by rfl) (hst : (assignEach es X.env).findIdx? (·.1) = none := by rfl) : PG X (.Tuple es k pos) (gTup K n t) := by
  subst q; exact pg_tup hc h hn hst
theorem pg_lstK {X : Cx} {K : PySem.W.Frag} {es : List Expr} {n k : Nat} {t : TGs} {pos : Pos} (hc : X.calm = true) (h : PGs X es t) (q : X.K = K := by rfl) (hn : (assignEach es X.env).length = n := by rfl) (hst : (assignEach es X.env).findIdx? (·.1) = none := by rfl) : PG X (.Tuple es k pos) (gLst K n t) := by
  subst q; exact pg_lst hc h hn hst
/-! ### facts of a class and its methods, for the head -/
def methD (C m : Str) (st : Stmt) : DefD := ⟨(C, some m), m, C ++ ("." : Str) ++ m, defArgs st, defBody st, defScope st, [], []⟩
theorem methat {fa : List Fa} {fn : List DefD} {K : PySem.W.Frag} (c : SaysD fa fn K) {C m qual : Str} {st : Stmt} (i j k : Nat) (hd : fn[i]? = some ⟨(C, some m), m, qual, defArgs st, defBody st, defScope st, [], []⟩ := by rfl) (hc : fa[j]? = some (.cls C) := by rfl) (hm : fa[k]? = some (.meth C m) := by rfl) : MethAt K (ga K C) m qual st [] := by
  obtain ⟨fd, F⟩ := c.def_ i hd
  exact ⟨cls_ok (c.fact j hc), _, fd, F, meth_ok (c.fact k hm)⟩
theorem initat {fa : List Fa} {fn : List DefD} {K : PySem.W.Frag} {h : Heap} {mg : Str → Option Value} (c : SaysD fa fn K) (X : K.In h) (G : h.Ns mainGlobals mg) {C qual : Str} {st : Stmt} (i j k l : Nat) (hd : fn[i]? = some ⟨(C, some "__init__"), "__init__", qual, defArgs st, defBody st, defScope st, [], []⟩ := by rfl) (hc : fa[j]? = some (.cls C) := by rfl) (hm : fa[k]? = some (.mkr C) := by rfl) (hg : fa[l]? = some (.glo C) := by rfl) : InitAt K mg C (ga K C) qual st := by
  obtain ⟨fd, F⟩ := c.def_ i hd
  exact ⟨cls_ok (c.fact j hc), _, fd, F, mkr_ok (c.fact k hm), glo_ok X G (c.fact l hg)⟩
end DL
set_option Elab.async false
set_option linter.all false
set_option maxRecDepth 100000
set_option maxHeartbeats 4000000
/-! PQ: ratios and draws, plain. -/
namespace DL
open PySem PySem.Spec PyProof.Rows L2
/-! ### what is reckoned -/
/-- a ratio in its lowest terms -/
def nrm (t b : Int) : Int × Int :=
  let p : Int := if b < 0 then -((Nat.gcd t.natAbs b.natAbs : Nat) : Int) else ((Nat.gcd t.natAbs b.natAbs : Nat) : Int)
  (t.fdiv p, b.fdiv p)
def qadd (a b : Int × Int) : Int × Int := nrm (a.1 * b.2 + b.1 * a.2) (a.2 * b.2)
def qsub (a b : Int × Int) : Int × Int := nrm (a.1 * b.2 - b.1 * a.2) (a.2 * b.2)
def qmul (a b : Int × Int) : Int × Int := nrm (a.1 * b.1) (a.2 * b.2)
def qdiv (a b : Int × Int) : Int × Int := nrm (a.1 * b.2) (a.2 * b.1)
def qcmp (a b : Int × Int) : Int := if a.1 * b.2 - b.1 * a.2 < 0 then -1 else if a.1 * b.2 - b.1 * a.2 > 0 then 1 else 0
/-- of at most n bits, above a bottom that is not 0 -/
structure Qz (n : Nat) (p : Int × Int) : Prop where
  t : Sz n p.1
  b : Sz n p.2
  z : p.2 ≠ 0
def isWh : PyData → Bool
  | .int _ => true
  | _ => false
def isRt : PyData → Bool
  | .tuple [.int a, .int b] => decide (1 ≤ b) && decide (((Nat.gcd a.natAbs b.natAbs : Nat) : Int) = 1)
  | _ => false
def eB (C : Addr) (d : PyData) : Exn := ⟨C, [("value", d)]⟩
def R_ratio (C : Addr) (ds : List PyData) (r : Res PyData) : Prop := ∃ t b : Int, ds = [.int t, .int b] ∧ Sz 6100 t ∧ Sz 6100 b ∧ r = if b = 0 then .error (eB C (.int b)) else .ok (rat (nrm t b))
def RQ (n : Nat) (f : Int × Int → Int × Int → PyData) (ds : List PyData) (r : Res PyData) : Prop := ∃ a b : Int × Int, ds = [rat a, rat b] ∧ Qz n a ∧ Qz n b ∧ r = .ok (f a b)
def R_over (C : Addr) (ds : List PyData) (r : Res PyData) : Prop := ∃ a b : Int × Int, ds = [rat a, rat b] ∧ Qz 3000 a ∧ Qz 3000 b ∧ r = if b.1 = 0 then .error (eB C (rat b)) else .ok (rat (qdiv a b))
def R1 (f : PyData → PyData) (ds : List PyData) (r : Res PyData) : Prop := ∃ d, ds = [d] ∧ okD d = true ∧ r = .ok (f d)
theorem gcd_ne {t b : Int} (h : b ≠ 0) : ((Nat.gcd t.natAbs b.natAbs : Nat) : Int) ≠ 0 := by
  have : 0 < Nat.gcd t.natAbs b.natAbs := Nat.gcd_pos_of_pos_right _ (by omega)
  omega
theorem gcd_sz {t b : Int} {n : Nat} (h : b ≠ 0) (hb : Sz n b) : Sz n ((Nat.gcd t.natAbs b.natAbs : Nat) : Int) := by
  unfold Sz at *
  have : Nat.gcd t.natAbs b.natAbs ≤ b.natAbs := Nat.le_of_dvd (by omega) (Nat.gcd_dvd_right ..)
  rw [Int.natAbs_natCast]
  omega
theorem sz_fits {n : Nat} {b : Int} (h : Sz n b) (hn : n < 9000 := by decide) : b.natAbs.log2 < 9000 := Nat.lt_of_le_of_lt h.log hn
theorem ratio_ok {C : Addr} {t b : Int} {r : Res PyData} (h1 : Sz 6100 t) (h2 : Sz 6100 b) (hb : b ≠ 0) (hr : r = .ok (rat (nrm t b))) : R_ratio C [.int t, .int b] r := ⟨t, b, rfl, h1, h2, by rw [if_neg hb]; exact hr⟩
/-! ### lowest terms -/
structure Nf (p : Int × Int) : Prop where
  pos : 0 < p.2
  one : Nat.gcd p.1.natAbs p.2.natAbs = 1
theorem nrm_spec {t b : Int} (hb : b ≠ 0) : Nf (nrm t b) ∧ (nrm t b).1.natAbs ≤ t.natAbs ∧ (nrm t b).2.natAbs ≤ b.natAbs := by
  have hg : 0 < Nat.gcd t.natAbs b.natAbs := Nat.gcd_pos_of_pos_right _ (by omega)
  have key : ∀ p : Int, p.natAbs = Nat.gcd t.natAbs b.natAbs → (b < 0 → p < 0) → (0 < b → 0 < p) → Nf (t.fdiv p, b.fdiv p) ∧ (t.fdiv p).natAbs ≤ t.natAbs ∧ (b.fdiv p).natAbs ≤ b.natAbs := by
    intro p hp h1 h2
    have hp0 : p ≠ 0 := by omega
    have dt : p ∣ t := Int.natAbs_dvd_natAbs.mp (by rw [hp]; exact Nat.gcd_dvd_left ..)
    have db : p ∣ b := Int.natAbs_dvd_natAbs.mp (by rw [hp]; exact Nat.gcd_dvd_right ..)
    refine ⟨?_, fdiv_abs_le t p dt, fdiv_abs_le b p db⟩
    obtain ⟨t', et⟩ := dt
    obtain ⟨b', eb⟩ := db
    have ft : t.fdiv p = t' := by rw [et, Int.mul_fdiv_cancel_left _ hp0]
    have fb : b.fdiv p = b' := by rw [eb, Int.mul_fdiv_cancel_left _ hp0]
    refine ⟨?_, ?_⟩
    · show 0 < b.fdiv p
      rw [fb]
      rcases Int.lt_trichotomy b 0 with h | h | h
      · have hpn := h1 h
        rcases Int.lt_trichotomy b' 0 with g | g | g
        · have := Int.mul_pos_of_neg_of_neg hpn g
          omega
        · rw [g] at eb; omega
        · exact g
      · exact absurd h hb
      · have hpp := h2 h
        rcases Int.lt_trichotomy b' 0 with g | g | g
        · have := Int.mul_neg_of_pos_of_neg hpp g
          omega
        · rw [g] at eb; omega
        · exact g
    · show Nat.gcd (t.fdiv p).natAbs (b.fdiv p).natAbs = 1
      rw [ft, fb]
      have e : Nat.gcd t.natAbs b.natAbs = p.natAbs * Nat.gcd t'.natAbs b'.natAbs := by
        rw [et, eb, Int.natAbs_mul, Int.natAbs_mul, Nat.gcd_mul_left]
      rw [← hp] at e
      have hpn : 0 < p.natAbs := by omega
      exact (Nat.mul_right_cancel hpn (by rw [Nat.one_mul, Nat.mul_comm]; exact e)).symm
  unfold nrm
  by_cases h : b < 0
  · rw [if_pos h]
    exact key _ (by rw [Int.natAbs_neg, Int.natAbs_natCast]) (fun _ => by omega) (fun z => by omega)
  · rw [if_neg h]
    exact key _ (by rw [Int.natAbs_natCast]) (fun z => absurd z h) (fun _ => by omega)
theorem nrm_self {p : Int × Int} (h : Nf p) : nrm p.1 p.2 = p := by
  unfold nrm
  rw [if_neg (by have := h.pos; omega), h.one]
  show (p.1.fdiv ((1 : Nat) : Int), p.2.fdiv ((1 : Nat) : Int)) = p
  rw [show ((1 : Nat) : Int) = 1 from rfl, Int.fdiv_one, Int.fdiv_one]
theorem nrm_qz {t b : Int} {m : Nat} (h1 : Sz m t) (h2 : Sz m b) (hb : b ≠ 0) : Qz m (nrm t b) := by
  obtain ⟨h, l1, l2⟩ := nrm_spec (t := t) hb
  exact ⟨h1.le l1, h2.le l2, by have := h.pos; omega⟩
theorem nrm_zero {b : Int} (hb : b ≠ 0) : nrm 0 b = (0, 1) := by
  obtain ⟨h, l1, _⟩ := nrm_spec (t := 0) hb
  have e : (nrm 0 b).1 = 0 := by
    have : (0 : Int).natAbs = 0 := rfl
    omega
  have o := h.one
  have p := h.pos
  rw [e] at o
  have : (nrm 0 b).2 = 1 := by
    rw [show (0 : Int).natAbs = 0 from rfl, Nat.gcd_zero_left] at o
    omega
  exact Prod.ext e this
theorem qadd_zero {p : Int × Int} (h : Nf p) : qadd p (0, 1) = p := by
  have : qadd p (0, 1) = nrm p.1 p.2 := by
    unfold qadd
    simp
  rw [this]
  exact nrm_self h
theorem qmul_zero {a b : Int × Int} (ha : a.2 ≠ 0) (hb : b.2 ≠ 0) (h : a.1 = 0 ∨ b.1 = 0) : qmul a b = (0, 1) := by
  unfold qmul
  have e : a.1 * b.1 = 0 := by rcases h with h | h <;> rw [h] <;> simp
  rw [e]
  exact nrm_zero (Int.mul_ne_zero ha hb)
theorem Qz.mono {m n : Nat} {p : Int × Int} (h : Qz m p) (e : m ≤ n) : Qz n p := ⟨h.t.mono e, h.b.mono e, h.z⟩
theorem qadd_qz {m n : Nat} {a b : Int × Int} (ha : Qz m a) (hb : Qz n b) : Qz (m + n + 1) (qadd a b) := by
  refine nrm_qz ?_ ?_ (Int.mul_ne_zero ha.z hb.z)
  · exact Sz.mono (Sz.add (Sz.mul ha.t hb.b) (Sz.mul hb.t ha.b)) (by omega)
  · exact Sz.mono (Sz.mul ha.b hb.b) (by omega)
theorem qmul_qz {m n : Nat} {a b : Int × Int} (ha : Qz m a) (hb : Qz n b) : Qz (m + n) (qmul a b) :=
  nrm_qz (Sz.mul ha.t hb.t) (Sz.mul ha.b hb.b) (Int.mul_ne_zero ha.z hb.z)
theorem qadd_nf {a b : Int × Int} (ha : a.2 ≠ 0) (hb : b.2 ≠ 0) : Nf (qadd a b) := (nrm_spec (Int.mul_ne_zero ha hb)).1
/-! ### the sum of products -/
def totN (xs ys : List (Int × Int)) : Nat → Int × Int
  | 0 => (0, 1)
  | i + 1 => qadd (totN xs ys i) (qmul (xs.getD i (0, 1)) (ys.getD i (0, 1)))
theorem getD_at {α : Type} {l : List α} {i : Nat} {d : α} (h : i < l.length) : l.getD i d = l[i] := by
  rw [List.getD_eq_getElem?_getD, List.getElem?_eq_getElem h]; rfl
def QL (n : Nat) (xs : List (Int × Int)) : Prop := ∀ x ∈ xs, Qz n x
theorem QL.get {n : Nat} {xs : List (Int × Int)} (h : QL n xs) {i : Nat} (hi : i < xs.length) : Qz n (xs.getD i (0, 1)) := by
  rw [getD_at hi]
  exact h _ (List.getElem_mem _)
theorem tot_ok {xs ys : List (Int × Int)} (hx : QL 20 xs) (hy : QL 20 ys) (hl : xs.length = ys.length) : ∀ i, i ≤ xs.length → Qz (1 + 41 * i) (totN xs ys i) ∧ Nf (totN xs ys i)
  | 0, _ => ⟨⟨by show (0 : Int).natAbs < 2 ^ 1; decide, by show (1 : Int).natAbs < 2 ^ 1; decide, by show (1 : Int) ≠ 0; decide⟩, ⟨by show (0 : Int) < 1; decide, by show Nat.gcd 0 1 = 1; decide⟩⟩
  | i + 1, h => by
    obtain ⟨h1, h2⟩ := tot_ok hx hy hl i (by omega)
    have m := qmul_qz (hx.get (i := i) (by omega)) (hy.get (i := i) (by omega))
    exact ⟨(qadd_qz h1 m).mono (by omega), qadd_nf h1.z m.z⟩
def R_dot (ds : List PyData) (r : Res PyData) : Prop := ∃ (f : List PyData → PyData) (xs ys : List (Int × Int)), (f = PyData.list ∨ f = PyData.tuple) ∧ ds = [f (xs.map rat), f (ys.map rat)] ∧ xs.length = ys.length ∧ xs.length ≤ 13 ∧ QL 20 xs ∧ QL 20 ys ∧ r = .ok (rat (totN xs ys xs.length))
theorem at_rat {xs : List (Int × Int)} {i : Nat} (hi : i < xs.length) : atI (xs.map rat) (i : Int) = some (rat (xs.getD i (0, 1))) := by
  rw [at_nat, List.getElem?_map, List.getElem?_eq_getElem hi, getD_at hi]; rfl
theorem rq_mk {n : Nat} {f : Int × Int → Int × Int → PyData} {a b : Int × Int} (ha : Qz n a) (hb : Qz n b) : RQ n f [rat a, rat b] (.ok (f a b)) := ⟨a, b, rfl, ha, hb, rfl⟩
/-! ### Euclid -/
def eu (a b : Nat) : Nat → Nat × Nat
  | 0 => (a, b)
  | k + 1 => ((eu a b k).2, (eu a b k).1 % (eu a b k).2)
theorem eu_gcd (a b : Nat) : ∀ k, Nat.gcd (eu a b k).1 (eu a b k).2 = Nat.gcd a b
  | 0 => rfl
  | k + 1 => by
    rw [← eu_gcd a b k]
    show Nat.gcd (eu a b k).2 ((eu a b k).1 % (eu a b k).2) = _
    rw [Nat.gcd_comm, ← Nat.gcd_rec, Nat.gcd_comm]
theorem eu_half (a b : Nat) (n : Nat) (h : b < 2 ^ n) : ∀ k, k ≤ n → (eu a b (2 * k)).2 < 2 ^ (n - k) ∨ ∃ j, j ≤ 2 * k ∧ (eu a b j).2 = 0
  | 0, _ => .inl h
  | k + 1, hk => by
    rcases eu_half a b n h k (by omega) with g | ⟨j, g1, g2⟩
    · have e1 : (eu a b (2 * k + 1)) = ((eu a b (2 * k)).2, (eu a b (2 * k)).1 % (eu a b (2 * k)).2) := rfl
      have e2 : (eu a b (2 * (k + 1))) = ((eu a b (2 * k + 1)).2, (eu a b (2 * k + 1)).1 % (eu a b (2 * k + 1)).2) := rfl
      by_cases z0 : (eu a b (2 * k)).2 = 0
      · exact .inr ⟨2 * k, by omega, z0⟩
      by_cases z1 : (eu a b (2 * k + 1)).2 = 0
      · exact .inr ⟨2 * k + 1, by omega, z1⟩
      left
      rw [e2]
      show (eu a b (2 * k + 1)).1 % (eu a b (2 * k + 1)).2 < _
      rw [e1] at z1 ⊢
      have lt : (eu a b (2 * k)).1 % (eu a b (2 * k)).2 < (eu a b (2 * k)).2 := Nat.mod_lt _ (by omega)
      generalize (eu a b (2 * k)).2 = y at *
      generalize (eu a b (2 * k)).1 % y = r at *
      show y % r < 2 ^ (n - (k + 1))
      have hp : 2 ^ (n - k) = 2 * 2 ^ (n - (k + 1)) := by
        rw [show n - k = (n - (k + 1)) + 1 by omega, Nat.pow_succ, Nat.mul_comm]
      rw [hp] at g
      have zr : r ≠ 0 := z1
      have l2 : y % r < r := Nat.mod_lt _ (by omega)
      have d := Nat.div_add_mod y r
      have q1 : 1 ≤ y / r := (Nat.one_le_div_iff (by omega)).mpr (by omega)
      have : r ≤ r * (y / r) := Nat.le_mul_of_pos_right _ q1
      omega
    · exact .inr ⟨j, by omega, g2⟩
theorem eu_end (a b : Nat) (n : Nat) (h : b < 2 ^ n) : ∃ j, j ≤ 2 * n ∧ (eu a b j).2 = 0 := by
  rcases eu_half a b n h n (Nat.le_refl _) with g | g
  · rw [Nat.sub_self] at g
    exact ⟨2 * n, Nat.le_refl _, by omega⟩
  · exact g
theorem least {P : Nat → Prop} : ∀ n, P n → ∃ m, m ≤ n ∧ P m ∧ ∀ i, i < m → ¬ P i := by
  intro n
  induction n using Nat.strongRecOn with
  | _ n ih =>
    intro h
    by_cases g : ∃ i, i < n ∧ P i
    · obtain ⟨i, h1, h2⟩ := g
      obtain ⟨m, m1, m2, m3⟩ := ih i h1 h2
      exact ⟨m, by omega, m2, m3⟩
    · exact ⟨n, Nat.le_refl _, h, fun i hi hp => g ⟨i, hi, hp⟩⟩
theorem fmod_nat (x y : Nat) : (x : Int).fmod (y : Int) = ((x % y : Nat) : Int) := by
  rw [Int.fmod_eq_emod_of_nonneg _ (by omega)]
  first | exact (Int.natCast_emod x y).symm | rfl | simp
theorem abs_nat (i : Int) : (if i < 0 then -i else i) = (i.natAbs : Int) := by
  split <;> omega
def R_law_gcd (ds : List PyData) (r : Res PyData) : Prop := ∃ a b : Int, ds = [.int a, .int b] ∧ Sz 4400 b ∧ r = .ok (.int ((Nat.gcd a.natAbs b.natAbs : Nat) : Int))
def R_law_ratio (ds : List PyData) (r : Res PyData) : Prop := ∃ t b : Int, ds = [.int t, .int b] ∧ Sz 4400 t ∧ Sz 4400 b ∧ b ≠ 0 ∧ r = .ok (rat (nrm t b))
def cellF (ns : List Int) (k : Nat) : Int := if k < ns.length then ns.getD k 0 else ns.sum * 31 + 17 * (k : Int) + 5
def R_law_cell (ds : List PyData) (r : Res PyData) : Prop := ∃ (ns : List Int) (k : Nat), ds = [.list (ns.map .int), .int (k : Int)] ∧ r = .ok (.int (cellF ns k))
def m3F (s : Int) (k : Nat) : Int :=
  let m1 := ((s.fmod 2147483647 + 3) * 1597334677 + ((k : Int) + 1) * 805459861).fmod 2147483647
  let m2 := (m1 * m1 + 48271 * (k : Int) + 7).fmod 2147483629
  (m2 * m2 + 40692 * m2 + (k : Int) + 3).fmod 2147483587
def mixF (s : Int) (k : Nat) : Int := ((m3F s k).fdiv 16).fmod 1000
def drF (s : Int) : Nat → Int × List Int
  | 0 => (s, [])
  | k + 1 => if (10 : Int) ^ 18 ≤ s ∧ (drF s k).1 > 0 then ((drF s k).1.fdiv 1000, (drF s k).2 ++ [(drF s k).1.fmod 1000]) else ((drF s k).1, (drF s k).2 ++ [mixF s k])
def drawsF (c : Int) (n : Nat) : List Int := (drF (c.natAbs : Int) n).2
def Dr (ns : List Int) : Prop := ∀ x ∈ ns, 0 ≤ x ∧ x < 1000
theorem drF_ok (s : Int) : ∀ k, (drF s k).2.length = k ∧ Dr (drF s k).2
  | 0 => ⟨rfl, fun x h => by cases h⟩
  | k + 1 => by
    obtain ⟨h1, h2⟩ := drF_ok s k
    have add : ∀ y : Int, 0 ≤ y ∧ y < 1000 → ((drF s k).2 ++ [y]).length = k + 1 ∧ Dr ((drF s k).2 ++ [y]) := fun y hy =>
      ⟨by simp [h1], fun x hx => by
        rcases List.mem_append.mp hx with h | h
        · exact h2 x h
        · rw [List.mem_singleton.mp h]; exact hy⟩
    unfold drF
    split
    · exact add _ ⟨Int.fmod_nonneg_of_pos _ (by decide), Int.fmod_lt_of_pos _ (by decide)⟩
    · exact add _ ⟨Int.fmod_nonneg_of_pos _ (by decide), Int.fmod_lt_of_pos _ (by decide)⟩
def R_law_draws (ds : List PyData) (r : Res PyData) : Prop := ∃ (c : Int) (n : Nat), ds = [.int c, .int (n : Int)] ∧ n ≤ 100 ∧ r = .ok (.list ((drawsF c n).map .int))
/-- of at most n tuples one in another -/
def mOk : Nat → PyData → Prop
  | _, .none => True
  | _, .bool _ => True
  | _, .int _ => True
  | _, .str _ => True
  | n + 1, .tuple l => l.length ≤ 1000 ∧ ∀ y ∈ l, mOk n y
  | _, _ => False
def RM : Nat → List PyData → Res PyData → Prop
  | 0, _, _ => False
  | n + 1, ds, r => ∃ d, ds = [d, d] ∧ mOk n d ∧ r = .ok (.bool true)

def R_law_is_ratio (ds : List PyData) (r : Res PyData) : Prop := ∃ d, ds = [d] ∧ okD d = true ∧ (∀ a b, d = .tuple [.int a, .int b] → Sz 4400 b) ∧ r = .ok (.bool (isRt d))
theorem mOk_ok : ∀ {n : Nat} {d : PyData}, mOk n d → okD d = true
  | _, .none, _ => rfl
  | _, .bool _, _ => rfl
  | _, .int _, _ => rfl
  | _, .str _, _ => rfl
  | 0, .tuple l, h => h.elim
  | n + 1, .tuple l, h => okAll_of fun y hy => mOk_ok (h.2 y hy)
  | 0, .list l, h => h.elim
  | n + 1, .list l, h => h.elim
  | 0, .dict l, h => h.elim
  | n + 1, .dict l, h => h.elim
theorem mOk_mono : ∀ {n m : Nat} {d : PyData}, n ≤ m → mOk n d → mOk m d
  | _, m, .none, _, _ => by cases m <;> trivial
  | _, m, .bool _, _, _ => by cases m <;> trivial
  | _, m, .int _, _, _ => by cases m <;> trivial
  | _, m, .str _, _, _ => by cases m <;> trivial
  | 0, _, .tuple l, _, h => h.elim
  | n + 1, m + 1, .tuple l, e, h => ⟨h.1, fun y hy => mOk_mono (Nat.le_of_succ_le_succ e) (h.2 y hy)⟩
  | 0, _, .list l, _, h => h.elim
  | n + 1, _, .list l, _, h => h.elim
  | 0, _, .dict l, _, h => h.elim
  | n + 1, _, .dict l, _, h => h.elim
/-! ### ratios as rational numbers -/
def rv (p : Int × Int) : Rat := (p.1 : Rat) / (p.2 : Rat)
theorem cast_ne {b : Int} (h : b ≠ 0) : (b : Rat) ≠ 0 := fun e => h (by exact_mod_cast e)
theorem div_eq_div {a b c d : Int} (hb : b ≠ 0) (hd : d ≠ 0) : (a : Rat) / b = c / d ↔ a * d = c * b := by
  have h1 := cast_ne hb
  have h2 := cast_ne hd
  constructor
  · intro h
    have : (a : Rat) * d = c * b := by
      have e1 : (a : Rat) = (a : Rat) / b * b := by grind
      have e2 : (c : Rat) = (c : Rat) / d * d := by grind
      rw [e1, e2, h]; grind
    exact_mod_cast this
  · intro h
    have h' : (a : Rat) * d = c * b := by exact_mod_cast h
    grind
theorem nrm_cross {t b : Int} (hb : b ≠ 0) : (nrm t b).1 * b = t * (nrm t b).2 := by
  have hg : 0 < Nat.gcd t.natAbs b.natAbs := Nat.gcd_pos_of_pos_right _ (by omega)
  have key : ∀ p : Int, p.natAbs = Nat.gcd t.natAbs b.natAbs → t.fdiv p * b = t * b.fdiv p := by
    intro p hp
    have hp0 : p ≠ 0 := by omega
    obtain ⟨t', et⟩ : p ∣ t := Int.natAbs_dvd_natAbs.mp (by rw [hp]; exact Nat.gcd_dvd_left ..)
    obtain ⟨b', eb⟩ : p ∣ b := Int.natAbs_dvd_natAbs.mp (by rw [hp]; exact Nat.gcd_dvd_right ..)
    have ft : t.fdiv p = t' := by rw [et, Int.mul_fdiv_cancel_left _ hp0]
    have fb : b.fdiv p = b' := by rw [eb, Int.mul_fdiv_cancel_left _ hp0]
    rw [ft, fb, et, eb]
    grind
  unfold nrm
  by_cases h : b < 0
  · rw [if_pos h]
    exact key _ (by rw [Int.natAbs_neg, Int.natAbs_natCast])
  · rw [if_neg h]
    exact key _ (by rw [Int.natAbs_natCast])
theorem rv_nrm {t b : Int} (hb : b ≠ 0) : rv (nrm t b) = (t : Rat) / b := by
  have h := (nrm_spec (t := t) hb).1.pos
  exact (div_eq_div (by omega) hb).mpr (nrm_cross hb)
theorem rv_add {a b : Int × Int} (ha : a.2 ≠ 0) (hb : b.2 ≠ 0) : rv (qadd a b) = rv a + rv b := by
  unfold qadd
  rw [rv_nrm (Int.mul_ne_zero ha hb)]
  have h1 := cast_ne ha
  have h2 := cast_ne hb
  unfold rv
  push_cast
  grind
theorem rv_sub {a b : Int × Int} (ha : a.2 ≠ 0) (hb : b.2 ≠ 0) : rv (qsub a b) = rv a - rv b := by
  unfold qsub
  rw [rv_nrm (Int.mul_ne_zero ha hb)]
  have h1 := cast_ne ha
  have h2 := cast_ne hb
  unfold rv
  push_cast
  grind
theorem rv_mul {a b : Int × Int} (ha : a.2 ≠ 0) (hb : b.2 ≠ 0) : rv (qmul a b) = rv a * rv b := by
  unfold qmul
  rw [rv_nrm (Int.mul_ne_zero ha hb)]
  have h1 := cast_ne ha
  have h2 := cast_ne hb
  unfold rv
  push_cast
  grind
theorem rv_div {a b : Int × Int} (ha : a.2 ≠ 0) (hb : b.1 ≠ 0) (hb2 : b.2 ≠ 0) : rv (qdiv a b) = rv a / rv b := by
  unfold qdiv
  rw [rv_nrm (Int.mul_ne_zero ha hb)]
  have h1 := cast_ne ha
  have h2 := cast_ne hb
  have h3 := cast_ne hb2
  unfold rv
  push_cast
  grind
theorem cast_pos {b : Int} (h : 0 < b) : (0 : Rat) < (b : Rat) := by exact_mod_cast h
theorem rv_lt {a b : Int × Int} (ha : 0 < a.2) (hb : 0 < b.2) : rv a < rv b ↔ a.1 * b.2 < b.1 * a.2 := by
  have h1 := cast_pos ha
  have h2 := cast_pos hb
  have e1 : rv a * (a.2 : Rat) = a.1 := by unfold rv; grind
  have e2 : rv b * (b.2 : Rat) = b.1 := by unfold rv; grind
  have hp : (0 : Rat) < (a.2 : Rat) * b.2 := Rat.mul_pos h1 h2
  have c1 : ((a.1 * b.2 : Int) : Rat) = rv a * ((a.2 : Rat) * b.2) := by push_cast; grind
  have c2 : ((b.1 * a.2 : Int) : Rat) = rv b * ((a.2 : Rat) * b.2) := by push_cast; grind
  constructor
  · intro h
    have : ((a.1 * b.2 : Int) : Rat) < ((b.1 * a.2 : Int) : Rat) := by
      rw [c1, c2]; exact Rat.mul_lt_mul_of_pos_right h hp
    exact_mod_cast this
  · intro h
    have : ((a.1 * b.2 : Int) : Rat) < ((b.1 * a.2 : Int) : Rat) := by exact_mod_cast h
    rw [c1, c2] at this
    exact Rat.lt_of_mul_lt_mul_right this (by grind)
theorem nf_ext {a b : Int × Int} (ha : Nf a) (hb : Nf b) (h : rv a = rv b) : a = b := by
  have p1 := ha.pos
  have p2 := hb.pos
  have c := (div_eq_div (show a.2 ≠ 0 by omega) (show b.2 ≠ 0 by omega)).mp h
  have n1 := nrm_self ha
  have d1 : a.2.natAbs ∣ b.2.natAbs := by
    have : a.2.natAbs ∣ a.1.natAbs * b.2.natAbs := by
      rw [← Int.natAbs_mul, c, Int.natAbs_mul]; exact Nat.dvd_mul_left ..
    exact (Nat.Coprime.symm (show Nat.Coprime a.1.natAbs a.2.natAbs from ha.one)).dvd_of_dvd_mul_left this
  have d2 : b.2.natAbs ∣ a.2.natAbs := by
    have : b.2.natAbs ∣ b.1.natAbs * a.2.natAbs := by
      rw [← Int.natAbs_mul, ← c, Int.natAbs_mul]; exact Nat.dvd_mul_left ..
    exact (Nat.Coprime.symm (show Nat.Coprime b.1.natAbs b.2.natAbs from hb.one)).dvd_of_dvd_mul_left this
  have e : a.2 = b.2 := by have := Nat.dvd_antisymm d1 d2; omega
  rw [e] at c
  have e1 : a.1 = b.1 := Int.eq_of_mul_eq_mul_right (by omega) c
  exact Prod.ext e1 e
theorem qcmp_neg {a b : Int × Int} (ha : 0 < a.2) (hb : 0 < b.2) : qcmp a b < 0 ↔ rv a < rv b := by
  rw [rv_lt ha hb]
  unfold qcmp
  split
  · constructor <;> intro <;> omega
  · split
    · constructor <;> intro <;> omega
    · constructor <;> intro <;> omega
theorem qcmp_pos {a b : Int × Int} (ha : 0 < a.2) (hb : 0 < b.2) : 0 < qcmp a b ↔ rv b < rv a := by
  rw [rv_lt hb ha]
  unfold qcmp
  split
  · constructor <;> intro <;> omega
  · split
    · constructor <;> intro <;> omega
    · constructor <;> intro <;> omega
theorem qadd_nf' {a b : Int × Int} (ha : Nf a) (hb : Nf b) : Nf (qadd a b) := qadd_nf (by have := ha.pos; omega) (by have := hb.pos; omega)
theorem qmul_nf {a b : Int × Int} (ha : a.2 ≠ 0) (hb : b.2 ≠ 0) : Nf (qmul a b) := (nrm_spec (Int.mul_ne_zero ha hb)).1
theorem qsub_nf {a b : Int × Int} (ha : a.2 ≠ 0) (hb : b.2 ≠ 0) : Nf (qsub a b) := (nrm_spec (Int.mul_ne_zero ha hb)).1
theorem qsub_qz {m n : Nat} {a b : Int × Int} (ha : Qz m a) (hb : Qz n b) : Qz (m + n + 1) (qsub a b) := by
  refine nrm_qz ?_ ?_ (Int.mul_ne_zero ha.z hb.z)
  · exact Sz.mono (Sz.sub (Sz.mul ha.t hb.b) (Sz.mul hb.t ha.b)) (by omega)
  · exact Sz.mono (Sz.mul ha.b hb.b) (by omega)
theorem isRt_nf {p : Int × Int} (h : Nf p) : isRt (rat p) = true := by
  show (decide (1 ≤ p.2) && decide (((Nat.gcd p.1.natAbs p.2.natAbs : Nat) : Int) = 1)) = true
  have := h.pos
  rw [h.one, decide_eq_true (show (1 : Int) ≤ p.2 by omega)]; rfl
theorem Nf.ne {p : Int × Int} (h : Nf p) : p.2 ≠ 0 := by have := h.pos; omega
end DL
set_option Elab.async false
set_option linter.all false
set_option maxRecDepth 100000
set_option maxHeartbeats 4000000
/-! PT: tasks, plain; a few more readings. -/
namespace DL
open PySem PySem.Spec PyProof.Rows L2
section
variable {K : PySem.W.Frag} {W : WX} {δ : Dn} {ta tb tc : TE} {x y z : PyData} {r r' : R2} {a b : Bool}
/-- x < y < z -/
theorem ev_chain (ha : EvD K W ta δ (.ok x)) (hb : EvD K W tb δ (.ok y)) (hr : RD K r x y (.bool a)) (hc : a = true → EvD K W tc δ (.ok z)) (hr' : a = true → RD K r' y z (.bool b)) : EvD K W (tChain r r' ta tb tc) δ (.ok (.bool (a && b))) := fun H0 F H σ Q s E q =>
  ha H0 F H σ _ s E fun v F1 H1 e1 d1 => hb H0 F1 H1 σ _ e1.c (E.mono e1) fun w F2 H2 e2 d2 =>
    hr F2 H2 v w _ e2.c (dp_mono e2.a _ _ d1) d2 fun u F3 H3 e3 d3 => by
      cases d3
      refine ⟨a, rfl, ?_⟩
      cases a with
      | true =>
        rw [if_pos rfl]
        exact hc rfl H0 F3 H3 σ _ e3.c (E.mono ((e1.trans e2).trans e3)) fun w' F4 H4 e4 d4 => hr' rfl F4 H4 w w' Q e4.c (dq_mono0 (e3.trans e4).a d2) d4 fun v5 F5 H5 e5 d5 => q v5 F5 H5 ((((e1.trans e2).trans e3).trans e4).trans e5) d5
      | false =>
        rw [if_neg (by decide)]
        exact q _ F3 H3 ((e1.trans e2).trans e3) (.bl false)
end
/-- a loop that goes through: st i, the slots before turn i -/
theorem rn_loop {K : PySem.W.Frag} {W : WX} {wi : TI} {g : TG} {t : TS} {js : List Nat} {l : List PyData} {δ δ' : Dn} (st : Nat → Dn) (h0 : δ = st 0) (h : SrcD K wi δ l)
    (step : ∀ (i : Nat) d, i < l.length → l[i]? = some d → ∃ δ1 δ2, AsD K g js d (st i) δ1 ∧ Rn K W t δ1 (.nx δ2) ∧ Less (st (i + 1)) δ2) (he : st l.length = δ') : Rn K W (tFor wi g t) δ (.nx δ') := by
  subst h0 he
  refine rn_for (js := js) st l.length (Nat.le_refl _) h (fun i d hi hd => ?_) (.inl ⟨rfl, rfl⟩)
  obtain ⟨δ1, δ2, g1, g2, g3⟩ := step i d hi hd
  exact ⟨δ1, .nx _, g1, rfl, rn_weak g3 g2⟩
theorem iota_at {n i : Nat} {d : PyData} (h : (iota 0 n)[i]? = some d) : i < n ∧ d = .int (i : Int) := by
  have hi : i < n := by
    have := (List.getElem?_eq_some_iff.mp h).1
    rwa [iota_len] at this
  rw [iota_get hi] at h
  cases h
  exact ⟨hi, by rw [show (0 : Int) + (i : Nat) = (i : Int) by omega]⟩
theorem str_emp (z : Str) : z = ("" : Str) ↔ z.cps.toList = [] := by
  constructor
  · rintro rfl; rfl
  · intro h
    cases z with
    | mk a =>
      have : a = #[] := by cases a; simpa using h
      subst this; rfl
theorem z_len (z : Str) : z.length = z.cps.toList.length := by simp [Str.length]
theorem signs_get {z : Str} {i : Nat} {d : PyData} (h : (DL.signs z)[i]? = some d) : ∃ c, z.cps.toList[i]? = some c ∧ d = .str ⟨#[c]⟩ := by
  unfold DL.signs at h
  rw [List.getElem?_map] at h
  cases e : z.cps.toList[i]? with
  | none => rw [e] at h; cases h
  | some c => rw [e] at h; cases h; exact ⟨c, rfl, rfl⟩
theorem rt_ok {p : Int × Int} (h : Nf p) : R1 (fun d => .bool (isRt d)) [rat p] (.ok (.bool true)) := ⟨rat p, rfl, rfl, by show _ = Except.ok (PyData.bool (isRt (rat p))); rw [isRt_nf h]⟩
/-! ### names -/
def nmSigns : List Nat := ("abcdefghijklmnopqrstuvwxyz0123456789_" : Str).cps.toList
def nmLetters : List Nat := ("abcdefghijklmnopqrstuvwxyz" : Str).cps.toList
structure NmOk (z : Str) : Prop where
  l1 : 1 ≤ z.length
  l2 : z.length ≤ 12
  sg : ∀ c ∈ z.cps.toList, c ∈ ("abcdefghijklmnopqrstuvwxyz0123456789_" : Str).cps.toList
  hd : ∃ c l, z.cps.toList = c :: l ∧ c ∈ ("abcdefghijklmnopqrstuvwxyz" : Str).cps.toList
/-! ### tasks -/
abbrev Q2 := Int × Int
abbrev TRow := List (Str × Q2) × Q2
structure Nd where
  par : Option Nat
  ch : Q2
  costs : List Q2
  rows : List TRow
instance : Inhabited Nd := ⟨⟨none, (0, 1), [], []⟩⟩
def parD : Option Nat → PyData
  | none => .none
  | some p => .int (p : Int)
def termD (t : Str × Q2) : PyData := .tuple [.str t.1, rat t.2]
def rowD (r : TRow) : PyData := .tuple [.tuple (r.1.map termD), rat r.2]
def ndD (n : Nd) : PyData := .tuple [parD n.par, rat n.ch, .tuple (n.costs.map rat), .tuple (n.rows.map rowD)]
def rndD (r : List Str) : PyData := .tuple (r.map .str)
def depN (nds : List Nd) : Nat → List Nat
  | 0 => []
  | k + 1 => depN nds k ++ [match (nds.getD k default).par with
    | none => 0
    | some p => (depN nds k).getD p 0 + 1]
def depF (nds : List Nd) : List Nat := depN nds nds.length
theorem depN_len (nds : List Nd) : ∀ k, (depN nds k).length = k
  | 0 => rfl
  | k + 1 => by rw [depN, List.length_append, depN_len nds k]; rfl
theorem depN_take (nds : List Nd) : ∀ {k m : Nat}, k ≤ m → (depN nds m).take k = depN nds k
  | k, 0, h => by have : k = 0 := by omega
                  subst this; rfl
  | k, m + 1, h => by
    by_cases e : k = m + 1
    · subst e; exact List.take_of_length_le (by rw [depN_len]; omega)
    · rw [depN, List.take_append_of_le_length (by rw [depN_len]; omega)]
      exact depN_take nds (by omega)
theorem depN_get (nds : List Nd) {k m i : Nat} (h : k ≤ m) (hi : i < k) : (depN nds k).getD i 0 = (depN nds m).getD i 0 := by
  rw [← depN_take nds h, List.getD_eq_getElem?_getD, List.getD_eq_getElem?_getD, List.getElem?_take_of_lt hi]
/-- the children of v among the nodes up to m -/
def chiN (nds : List Nd) (m v : Nat) : List Nat := (List.range m).filter fun w => decide ((nds.getD w default).par = some v)
def chiF (nds : List Nd) (v : Nat) : List Nat := chiN nds nds.length v
def leafB (nds : List Nd) (v : Nat) : Bool := (chiF nds v).isEmpty
def couF (nds : List Nd) : List Nat := (List.range nds.length).filter (leafB nds)
def qsum : List Q2 → Q2
  | [] => (0, 1)
  | l => l.foldl qadd (0, 1)
def qsumN (xs : List Q2) : Nat → Q2
  | 0 => (0, 1)
  | k + 1 => qadd (qsumN xs k) (xs.getD k (0, 1))
structure RowOk (known : List Str) (r : TRow) : Prop where
  few : r.1.length ≤ 1000
  kn : ∀ t ∈ r.1, t.1 ∈ known
  nd : (r.1.map (·.1)).Nodup
  nf : ∀ t ∈ r.1, Nf t.2 ∧ t.2.1 ≠ 0
  bd : Nf r.2
structure RndOk (rs : List (List Str)) : Prop where
  l1 : 1 ≤ rs.length
  l2 : rs.length ≤ 4
  few : ∀ r ∈ rs, r.length ≤ 3
  nm : ∀ r ∈ rs, ∀ z ∈ r, NmOk z
  nd : rs.flatten.Nodup
structure NdOk (rs : List (List Str)) (dep : Nat) (n : Nd) : Prop where
  dl : dep < rs.length
  chn : Nf n.ch
  chp : 0 < n.ch.1
  chz : Qz 100 n.ch
  cl : n.costs.length = (rs.getD dep []).length
  cn : ∀ c ∈ n.costs, Nf c
  rl : n.rows.length ≤ 8
  ro : ∀ r ∈ n.rows, RowOk (rs.take (dep + 1)).flatten r
structure TkOk (rs : List (List Str)) (nds : List Nd) : Prop where
  rnd : RndOk rs
  l1 : 1 ≤ nds.length
  l2 : nds.length ≤ 16
  p0 : (nds.getD 0 default).par = none
  c0 : (nds.getD 0 default).ch = (1, 1)
  pr : ∀ k, 0 < k → k < nds.length → ∃ p, (nds.getD k default).par = some p ∧ p < k
  nd : ∀ k, k < nds.length → NdOk rs ((depF nds).getD k 0) (nds.getD k default)
  lf : ∀ k, k < nds.length → leafB nds k = true → (depF nds).getD k 0 = rs.length - 1
  sm : ∀ k, k < nds.length → leafB nds k = false → qsumN ((chiF nds k).map fun w => (nds.getD w default).ch) (chiF nds k).length = (nds.getD k default).ch
def natsD (l : List Nat) : PyData := .tuple (l.map fun n : Nat => PyData.int (n : Int))
/-- the task -/
def tkD (C : Addr) (rs : List (List Str)) (nds : List Nd) : List (Str × PyData) :=
  [("rounds", .tuple (rs.map rndD)), ("nodes", .tuple (nds.map ndD)), ("depths", natsD (depF nds)), ("children", .tuple ((List.range nds.length).map fun v => natsD (chiF nds v))), ("courses", natsD (couF nds))]
def taskD (C : Addr) (rs : List (List Str)) (nds : List Nd) : PyData := objD C (tkD C rs nds)
end DL
section
/-! ### the reading tactics -/
local macro_rules | `(tactic| walk_at "sz") => `(tactic| first
  | assumption
  | (apply DL.Sz.neg
     · walk_at "sz")
  | (apply DL.Sz.mul
     · walk_at "sz"
     · walk_at "sz")
  | (apply DL.Sz.add
     · walk_at "sz"
     · walk_at "sz")
  | (apply DL.Sz.sub
     · walk_at "sz"
     · walk_at "sz")
  | (apply DL.Sz.fmod
     · decide
     · walk_at "sz")
  | exact DL.Sz.self)
local macro_rules | `(tactic| walk_at "side") => `(tactic| first
  | assumption
  | (apply DL.cmulW_of
     · walk_at "sz"
     · walk_at "sz"
     · first | decide +kernel | omega)
  | rfl
  | decide
  | omega
  | (simp only [List.length_cons, List.length_nil]; decide)
  | (simp; done)
  | (simp only [PySem.sizeLine_eq, List.length_cons, List.length_nil]; omega))
local macro_rules | `(tactic| walk_at "rd") => `(tactic| first
  | exact DL.rd_addI
  | exact DL.rd_sub
  | exact DL.rd_mulL (by decide) (by decide)
  | exact DL.rd_mulR (by decide) (by decide)
  | (refine DL.rd_mulI ?_
     · walk_at "side")
  | exact DL.rd_pow ⟨by decide, by decide, by decide⟩
  | exact DL.rd_mod (by show (_ : Int) ≠ _; first | decide | assumption)
  | exact DL.rd_ix_T rfl
  | exact DL.rd_ix_L rfl
  | exact DL.rd_eqI
  | exact DL.rd_inC
  | exact DL.rd_niC
  | exact DL.rd_ix_S (by assumption) (by assumption)
  | exact DL.rd_neI
  | exact DL.rd_eqT
  | exact DL.rd_neT
  | exact DL.rd_eqB
  | exact DL.rd_I0b
  | (refine DL.rd_addS ?_
     · walk_at "side")
  | (refine DL.rd_addT ?_
     · walk_at "side")
  | (refine DL.rd_fdiv ?_ ?_
     · walk_at "side"
     · walk_at "side")
  | (refine DL.rd_mod ?_
     · walk_at "side")
  | assumption)
local macro_rules | `(tactic| walk_at "rc") => `(tactic| first
  | exact DL.rc_gcd
  | exact DL.rc_abs
  | exact DL.rc_max2
  | exact DL.rc_intV
  | exact DL.rc_intB
  | exact DL.rc_len_t
  | exact DL.rc_list_l
  | exact DL.rc_list_t
  | exact DL.rc_tup_l
  | exact DL.rc_len_l
  | (apply DL.rc_len_s
     · walk_at "side")
  | (apply DL.rc_str
     · walk_at "side")
  | assumption)
local macro_rules | `(tactic| walk_at "call") => `(tactic| first
  | exact ⟨_, rfl, by assumption, rfl⟩
  | exact ⟨_, rfl, rfl⟩
  | exact ⟨_, _, rfl, rfl⟩
  | assumption
  | fail "call: no contract")
local macro_rules | `(tactic| walk_at "ep") => `(tactic| first
  | with_reducible exact DL.ep_no
  | (with_reducible apply DL.ep_some
     · walk_at "ev"))
local macro_rules | `(tactic| walk_at "ev") => `(tactic| first
  | assumption
  | (with_reducible apply DL.ev_var
     · rfl)
  | with_reducible exact DL.ev_int
  | with_reducible exact DL.ev_str
  | with_reducible exact DL.ev_bl
  | with_reducible exact DL.ev_non
  | with_reducible exact DL.ea_nil
  | exact DL.ev_glob (by assumption)
  | (with_reducible apply DL.ev_op
     · walk_at "ev"
     · walk_at "ev"
     · walk_at "rd")
  | (with_reducible apply DL.ea_cons
     · walk_at "ev"
     · walk_at "ev")
  | (with_reducible apply DL.ev_sl
     · walk_at "ev"
     · walk_at "ep"
     · walk_at "ep"
     · first | exact DL.rs_s (by assumption) | exact DL.rs_l | exact DL.rs_t)
  | (with_reducible apply DL.ev_un
     · walk_at "ev"
     · with_reducible exact DL.ru_neg)
  | (with_reducible apply DL.ev_isiE
     · walk_at "ev"
     · first | rfl | assumption
     · first | rfl | assumption
     · rfl)
  | (with_reducible apply DL.ev_tupH
     · walk_at "ev"
     · walk_at "side")
  | (with_reducible apply DL.ev_lstH
     · walk_at "ev"
     · walk_at "side")
  | (with_reducible apply DL.ev_cb
     · walk_at "ev"
     · walk_at "rc")
  | (with_reducible apply DL.et_test
     · walk_at "ev")
  | (with_reducible apply DL.et_B
     · walk_at "ev")
  | (with_reducible apply DL.et_not
     · walk_at "ev")
  | (with_reducible apply DL.et_and
     · walk_at "ev"
     · (intro _; walk_at "ev"))
  | (with_reducible apply DL.et_or
     · walk_at "ev"
     · (intro _; walk_at "ev"))
  | (with_reducible apply DL.ev_xf
     · rfl
     · rfl)
  | (with_reducible apply DL.ev_chain
     · walk_at "ev"
     · walk_at "ev"
     · walk_at "rd"
     · (intro _; walk_at "ev")
     · (intro _; walk_at "rd"))
  | (with_reducible apply DL.ev_fld
     · walk_at "ev"
     · assumption
     · assumption
     · rfl)
  | (with_reducible apply DL.ev_isN
     · walk_at "ev")
  | (with_reducible apply DL.ev_notN
     · walk_at "ev")
  | (with_reducible apply DL.ev_andV
     · walk_at "ev"
     · (intro _; walk_at "ev"))
  | (with_reducible apply DL.ev_orV
     · walk_at "ev"
     · (intro _; walk_at "ev"))
  | (with_reducible apply DL.ev_notV
     · walk_at "ev")
  | (with_reducible apply DL.ev_callE
     · walk_at "ev"
     · walk_at "call"
     · rfl)
  | (with_reducible apply DL.ev_callSE
     · walk_at "ev"
     · walk_at "call"
     · rfl))
local macro_rules | `(tactic| walk_at "less") => `(tactic| (
  (try simp only [List.set_cons_zero, List.set_cons_succ])
  repeat (first | exact DL.less_nil | apply DL.less_same | apply DL.less_no)))
local macro_rules | `(tactic| walk_at "nat") => `(tactic| first
  | assumption
  | (with_reducible apply DL.ev_var
     · rfl)
  | exact DL.ev_int
  | (apply DL.en_ix
     · walk_at "nat"
     · walk_at "nat"
     · omega)
  | (apply DL.en_add
     · walk_at "nat"
     · walk_at "nat")
  | (apply DL.en_mod
     · walk_at "nat"
     · walk_at "nat"
     · omega)
  | (apply DL.en_div
     · walk_at "nat"
     · walk_at "nat"
     · omega
     · omega)
  | (apply DL.en_mul
     · walk_at "nat"
     · walk_at "nat"
     · first | decide | omega
     · first | decide | omega))

set_option Elab.async false
set_option linter.all false
set_option maxRecDepth 100000
set_option maxHeartbeats 4000000
set_option exponentiation.threshold 10000
/-! K74A: numbers -/
namespace K74
open PySem PySem.Spec PyProof.Rows L2 DL
def topS (i : Nat) : Stmt := PySem.Challenge.rw_plansasnewscome_k74_hands_hired.prog.main.body.getD i (.Pass ⟨0, 0, 0, 0⟩)
def clsS (i j : Nat) : Stmt := match topS i with
  | .ClassDef _ _ _ body _ _ _ _ _ _ _ => body.getD j (.Pass ⟨0, 0, 0, 0⟩)
  | _ => .Pass ⟨0, 0, 0, 0⟩
structure Tx (K : PySem.W.Frag) (mg : Str → Option Value) (Z0 Z1 : Addr) : Prop where
  nd : NoDig K
  n_abs : mg "abs" = none
  n_bool : mg "bool" = none
  n_int : mg "int" = none
  n_isinstance : mg "isinstance" = none
  n_len : mg "len" = none
  n_list : mg "list" = none
  n_max : mg "max" = none
  n_range : mg "range" = none
  n_str : mg "str" = none
  n_sum : mg "sum" = none
  n_tuple : mg "tuple" = none
  m_gcd : mg "gcd" = some (.builtin "math.gcd")
  c_ZERO : CT K mg "ZERO" Z0 (.tuple [.int 0, .int 1])
  c_ONE : CT K mg "ONE" Z1 (.tuple [.int 1, .int 1])
  c_LETTERS : CS mg "LETTERS" "abcdefghijklmnopqrstuvwxyz"
  c_SIGNS : CS mg "SIGNS" "abcdefghijklmnopqrstuvwxyz0123456789_"
  c_MOST_SIGNS : CI mg "MOST_SIGNS" 12
  c_MOST_ROUNDS : CI mg "MOST_ROUNDS" 4
  c_MOST_VARIABLES : CI mg "MOST_VARIABLES" 3
  c_MOST_NODES : CI mg "MOST_NODES" 16
  c_MOST_ROWS : CI mg "MOST_ROWS" 8

section
variable {P : Program} {w : World} {K : PySem.W.Frag} {mg : Str → Option Value} {base : Heap} {Z0 Z1 CB CM CK CT CX1 : Addr}

abbrev s_ratio : Stmt := topS 11
theorem sc_ratio : FnScope ["top", "bottom", "part"] ["top", "bottom"] (defScope s_ratio) := ⟨rfl, rfl, rfl, by decide +kernel, rfl, by decide +kernel, by decide +kernel⟩
theorem len_ratio : ∀ ds r, (R_ratio CB) ds r → ds.length = (["top", "bottom"] : List Str).length := by
  rintro _ _ ⟨_, _, rfl, _⟩; rfl
theorem ok_ratio (T : Tx K mg Z0 Z1) (D : DefAt K mg "ratio" s_ratio [.int 1]) {dv2 : List V} (b : BindH K "ratio" s_ratio ["top", "bottom"] [.int 1] dv2) (e_BadNumber : Err1 P w K mg base "BadNumber" CB "value") : CalX P w K mg base (L2N.CX P w) 2 "ratio" dv2 (R_ratio CB) := by
  refine okR D b sc_ratio len_ratio fun f cdv A outer s H Ex hr => ⟨_, (pss_cons (ps_if (pt_cmpR (op_eqU (hu64 hr)) (pv 1) pe_int (nomark _)) (pss_one (L2N.ps_raise rfl (L2N.takes_of rfl rfl rfl rfl) (pmk_e1 e_BadNumber hr (by decide) (pa_cons (pv 1) pa_nil)))) pss_nil)
    (pss_cons (ps_set (i := 2) sc_ratio.nd rfl (by first | exact Or.inl rfl | exact Or.inr rfl) (pe_callBfun cr_gcd (by rfl) T.m_gcd (pa_cons (pv 0) (pa_cons (pv 1) pa_nil))))
    (pss_cons (ps_if (pt_cmpR op_lt (pv 1) pe_int (nomark _)) (pss_one (ps_set (i := 2) sc_ratio.nd rfl (by first | exact Or.inl rfl | exact Or.inr rfl) (pe_un un_neg (pv 2)))) pss_nil)
    (pss_one (ps_ret (pe_tup (pa_cons (pe_op op_fdivX (pv 0) (pv 2)) (pa_cons (pe_op op_fdivX (pv 1) (pv 2)) pa_nil)))))))), ?_⟩

  rintro ds r ⟨t, b, rfl, h1, h2, rfl⟩
  by_cases hb : b = 0
  · rw [if_pos hb]
    exact ⟨.ex _ _, rn_seqX (rn_ifT' (by walk_at "ev") (by simpa using hb) (rn_raise1 (by walk_at "ev"))), rfl⟩
  · rw [if_neg hb]
    have g0 := gcd_ne (t := t) hb
    have g1 := sz_fits (gcd_sz (t := t) hb h2)
    by_cases hn : b < 0
    · have g0' : -((Nat.gcd t.natAbs b.natAbs : Nat) : Int) ≠ 0 := by omega
      have g1' : (-((Nat.gcd t.natAbs b.natAbs : Nat) : Int)).natAbs.log2 < 9000 := by rw [Int.natAbs_neg]; exact g1
      refine ⟨.rt _, rn_seq (rn_ifF' (by walk_at "ev") (by simpa using hb) rn_next) (rn_seq (rn_asgE (by walk_at "ev") rfl) (rn_seq (rn_ifT' (by walk_at "ev") (by simpa using hn) (rn_asgE (by walk_at "ev") rfl)) (rn_ret (by walk_at "ev")))), ?_⟩
      show Except.ok (rat (nrm t b)) = _
      unfold nrm; rw [if_pos hn]
    · refine ⟨.rt _, rn_seq (rn_ifF' (by walk_at "ev") (by simpa using hb) rn_next) (rn_seq (rn_asgE (by walk_at "ev") rfl) (rn_seq (rn_ifF' (by walk_at "ev") (by simpa using hn) rn_next) (rn_ret (by walk_at "ev")))), ?_⟩
      show Except.ok (rat (nrm t b)) = _
      unfold nrm; rw [if_neg hn]
abbrev s_plus : Stmt := topS 12
theorem sc_plus : FnScope ["a", "b"] ["a", "b"] (defScope s_plus) := ⟨rfl, rfl, rfl, by decide +kernel, rfl, by decide +kernel, by decide +kernel⟩
theorem len_plus : ∀ ds r, (RQ 3000 fun a b => rat (qadd a b)) ds r → ds.length = (["a", "b"] : List Str).length := by
  rintro _ _ ⟨_, _, rfl, _⟩; rfl
theorem ok_plus (T : Tx K mg Z0 Z1) (D : DefAt K mg "plus" s_plus []) (c_ratio : CalX P w K mg base (L2N.CX P w) 2 "ratio" [] (R_ratio CB)) : CalX P w K mg base CX0 3 "plus" [] (RQ 3000 fun a b => rat (qadd a b)) := by
  refine okN D (bind0 (fun _ _ _ _ _ _ us hl => match us, hl with | [_, _], _ => rfl)) sc_plus len_plus fun f cdv A outer s H Ex hr => ⟨_, (pss_one (ps_ret (pe_cal c_ratio hr (by decide) (fun σ => pLN σ) (pa_cons (pe_op op_addU (pe_op op_mulU (pe_ix ix_seq (pv 0) pe_int (fun _ _ => rfl)) (pe_ix ix_seq (pv 1) pe_int (fun _ _ => rfl))) (pe_op op_mulU (pe_ix ix_seq (pv 1) pe_int (fun _ _ => rfl)) (pe_ix ix_seq (pv 0) pe_int (fun _ _ => rfl)))) (pa_cons (pe_op op_mulU (pe_ix ix_seq (pv 0) pe_int (fun _ _ => rfl)) (pe_ix ix_seq (pv 1) pe_int (fun _ _ => rfl))) pa_nil))))), ?_⟩

  rintro ds r ⟨a, b, rfl, ha, hb, rfl⟩
  have a1 := ha.t; have a2 := ha.b; have b1 := hb.t; have b2 := hb.b
  have hz : a.2 * b.2 ≠ 0 := Int.mul_ne_zero ha.z hb.z
  refine ⟨.rt _, rn_ret (ev_call0 (by walk_at "ev") (ratio_ok (Sz.mono (by walk_at "sz") (by decide)) (Sz.mono (by walk_at "sz") (by decide)) hz rfl)), rfl⟩
abbrev s_minus : Stmt := topS 13
theorem sc_minus : FnScope ["a", "b"] ["a", "b"] (defScope s_minus) := ⟨rfl, rfl, rfl, by decide +kernel, rfl, by decide +kernel, by decide +kernel⟩
theorem len_minus : ∀ ds r, (RQ 3000 fun a b => rat (qsub a b)) ds r → ds.length = (["a", "b"] : List Str).length := by
  rintro _ _ ⟨_, _, rfl, _⟩; rfl
theorem ok_minus (T : Tx K mg Z0 Z1) (D : DefAt K mg "minus" s_minus []) (c_ratio : CalX P w K mg base (L2N.CX P w) 2 "ratio" [] (R_ratio CB)) : CalX P w K mg base CX0 3 "minus" [] (RQ 3000 fun a b => rat (qsub a b)) := by
  refine okN D (bind0 (fun _ _ _ _ _ _ us hl => match us, hl with | [_, _], _ => rfl)) sc_minus len_minus fun f cdv A outer s H Ex hr => ⟨_, (pss_one (ps_ret (pe_cal c_ratio hr (by decide) (fun σ => pLN σ) (pa_cons (pe_op op_sub (pe_op op_mulU (pe_ix ix_seq (pv 0) pe_int (fun _ _ => rfl)) (pe_ix ix_seq (pv 1) pe_int (fun _ _ => rfl))) (pe_op op_mulU (pe_ix ix_seq (pv 1) pe_int (fun _ _ => rfl)) (pe_ix ix_seq (pv 0) pe_int (fun _ _ => rfl)))) (pa_cons (pe_op op_mulU (pe_ix ix_seq (pv 0) pe_int (fun _ _ => rfl)) (pe_ix ix_seq (pv 1) pe_int (fun _ _ => rfl))) pa_nil))))), ?_⟩

  rintro ds r ⟨a, b, rfl, ha, hb, rfl⟩
  have a1 := ha.t; have a2 := ha.b; have b1 := hb.t; have b2 := hb.b
  have hz : a.2 * b.2 ≠ 0 := Int.mul_ne_zero ha.z hb.z
  refine ⟨.rt _, rn_ret (ev_call0 (by walk_at "ev") (ratio_ok (Sz.mono (by walk_at "sz") (by decide)) (Sz.mono (by walk_at "sz") (by decide)) hz rfl)), rfl⟩
abbrev s_times : Stmt := topS 14
theorem sc_times : FnScope ["a", "b"] ["a", "b"] (defScope s_times) := ⟨rfl, rfl, rfl, by decide +kernel, rfl, by decide +kernel, by decide +kernel⟩
theorem len_times : ∀ ds r, (RQ 3000 fun a b => rat (qmul a b)) ds r → ds.length = (["a", "b"] : List Str).length := by
  rintro _ _ ⟨_, _, rfl, _⟩; rfl
theorem ok_times (T : Tx K mg Z0 Z1) (D : DefAt K mg "times" s_times []) (c_ratio : CalX P w K mg base (L2N.CX P w) 2 "ratio" [] (R_ratio CB)) : CalX P w K mg base CX0 3 "times" [] (RQ 3000 fun a b => rat (qmul a b)) := by
  refine okN D (bind0 (fun _ _ _ _ _ _ us hl => match us, hl with | [_, _], _ => rfl)) sc_times len_times fun f cdv A outer s H Ex hr => ⟨_, (pss_one (ps_ret (pe_cal c_ratio hr (by decide) (fun σ => pLN σ) (pa_cons (pe_op op_mulU (pe_ix ix_seq (pv 0) pe_int (fun _ _ => rfl)) (pe_ix ix_seq (pv 1) pe_int (fun _ _ => rfl))) (pa_cons (pe_op op_mulU (pe_ix ix_seq (pv 0) pe_int (fun _ _ => rfl)) (pe_ix ix_seq (pv 1) pe_int (fun _ _ => rfl))) pa_nil))))), ?_⟩

  rintro ds r ⟨a, b, rfl, ha, hb, rfl⟩
  have a1 := ha.t; have a2 := ha.b; have b1 := hb.t; have b2 := hb.b
  have hz : a.2 * b.2 ≠ 0 := Int.mul_ne_zero ha.z hb.z
  refine ⟨.rt _, rn_ret (ev_call0 (by walk_at "ev") (ratio_ok (Sz.mono (by walk_at "sz") (by decide)) (Sz.mono (by walk_at "sz") (by decide)) hz rfl)), rfl⟩
abbrev s_compare : Stmt := topS 15
theorem sc_compare : FnScope ["a", "b", "gap"] ["a", "b"] (defScope s_compare) := ⟨rfl, rfl, rfl, by decide +kernel, rfl, by decide +kernel, by decide +kernel⟩
theorem len_compare : ∀ ds r, (RQ 3000 fun a b => .int (qcmp a b)) ds r → ds.length = (["a", "b"] : List Str).length := by
  rintro _ _ ⟨_, _, rfl, _⟩; rfl
theorem ok_compare (T : Tx K mg Z0 Z1) (D : DefAt K mg "compare" s_compare [])  : CalX P w K mg base CX0 1 "compare" [] (RQ 3000 fun a b => .int (qcmp a b)) := by
  refine okN D (bind0 (fun _ _ _ _ _ _ us hl => match us, hl with | [_, _], _ => rfl)) sc_compare len_compare fun f cdv A outer s H Ex hr => ⟨_, (pss_cons (ps_set (i := 2) sc_compare.nd rfl (by first | exact Or.inl rfl | exact Or.inr rfl) (pe_op op_sub (pe_op op_mulU (pe_ix ix_seq (pv 0) pe_int (fun _ _ => rfl)) (pe_ix ix_seq (pv 1) pe_int (fun _ _ => rfl))) (pe_op op_mulU (pe_ix ix_seq (pv 1) pe_int (fun _ _ => rfl)) (pe_ix ix_seq (pv 0) pe_int (fun _ _ => rfl)))))
    (pss_cons (ps_if (pt_cmpR op_lt (pv 2) pe_int (nomark _)) (pss_one (ps_ret (pe_un un_neg pe_int))) pss_nil)
    (pss_cons (ps_if (pt_cmpR op_gt (pv 2) pe_int (nomark _)) (pss_one (ps_ret pe_int)) pss_nil)
    (pss_one (ps_ret pe_int))))), ?_⟩

  rintro ds r ⟨a, b, rfl, ha, hb, rfl⟩
  have a1 := ha.t; have a2 := ha.b; have b1 := hb.t; have b2 := hb.b
  by_cases h0 : a.1 * b.2 - b.1 * a.2 < 0
  · refine ⟨.rt _, rn_seq (rn_asgE (by walk_at "ev") rfl) (rn_seqR (rn_ifT' (by walk_at "ev") (by simpa using h0) (rn_ret (by walk_at "ev")))), ?_⟩
    show Except.ok (PyData.int (qcmp a b)) = _
    unfold qcmp; rw [if_pos h0]
  · by_cases h1 : a.1 * b.2 - b.1 * a.2 > 0
    · refine ⟨.rt _, rn_seq (rn_asgE (by walk_at "ev") rfl) (rn_seq (rn_ifF' (by walk_at "ev") (by simpa using h0) rn_next) (rn_seqR (rn_ifT' (by walk_at "ev") (by simpa using h1) (rn_ret (by walk_at "ev"))))), ?_⟩
      show Except.ok (PyData.int (qcmp a b)) = _
      unfold qcmp; rw [if_neg h0, if_pos h1]
    · refine ⟨.rt _, rn_seq (rn_asgE (by walk_at "ev") rfl) (rn_seq (rn_ifF' (by walk_at "ev") (by simpa using h0) rn_next) (rn_seq (rn_ifF' (by walk_at "ev") (by simpa using h1) rn_next) (rn_ret (by walk_at "ev")))), ?_⟩
      show Except.ok (PyData.int (qcmp a b)) = _
      unfold qcmp; rw [if_neg h0, if_neg h1]
abbrev s_is_whole : Stmt := topS 16
theorem sc_is_whole : FnScope ["value"] ["value"] (defScope s_is_whole) := ⟨rfl, rfl, rfl, by decide +kernel, rfl, by decide +kernel, by decide +kernel⟩
theorem len_is_whole : ∀ ds r, (R1 fun d => .bool (isWh d)) ds r → ds.length = (["value"] : List Str).length := by
  rintro _ _ ⟨_, rfl, _⟩; rfl
theorem ok_is_whole (T : Tx K mg Z0 Z1) (D : DefAt K mg "is_whole" s_is_whole [])  : CalX P w K mg base CX0 1 "is_whole" [] (R1 fun d => .bool (isWh d)) := by
  refine okN D (bind0 (fun _ _ _ _ _ _ us hl => match us, hl with | [_], _ => rfl)) sc_is_whole len_is_whole fun f cdv A outer s H Ex hr => ⟨_, (pss_one (ps_ret (pe_and (pe_callB call_isi (by rfl) T.n_isinstance (by decide +kernel) (pa_cons (pv 0) (pa_cons (pe_bltn (v := .ty "int") (u := .type "int") (by rfl) T.n_int (by decide +kernel) rfl) pa_nil))) (pe_one (pe_not (pe_callB call_isi (by rfl) T.n_isinstance (by decide +kernel) (pa_cons (pv 0) (pa_cons (pe_bltn (v := .ty "bool") (u := .type "bool") (by rfl) T.n_bool (by decide +kernel) rfl) pa_nil)))))))), ?_⟩

  rintro ds r ⟨d, rfl, ok, rfl⟩
  cases d <;> refine ⟨.rt _, rn_ret (by walk_at "ev"), ?_⟩ <;> rfl
abbrev s_is_ratio : Stmt := topS 17
theorem sc_is_ratio : FnScope ["value"] ["value"] (defScope s_is_ratio) := ⟨rfl, rfl, rfl, by decide +kernel, rfl, by decide +kernel, by decide +kernel⟩
theorem len_is_ratio : ∀ ds r, (R1 fun d => .bool (isRt d)) ds r → ds.length = (["value"] : List Str).length := by
  rintro _ _ ⟨_, rfl, _⟩; rfl
theorem ok_is_ratio (T : Tx K mg Z0 Z1) (D : DefAt K mg "is_ratio" s_is_ratio []) (c_is_whole : CalX P w K mg base CX0 1 "is_whole" [] (R1 fun d => .bool (isWh d))) : CalX P w K mg base CX0 2 "is_ratio" [] (R1 fun d => .bool (isRt d)) := by
  refine okN D (bind0 (fun _ _ _ _ _ _ us hl => match us, hl with | [_], _ => rfl)) sc_is_ratio len_is_ratio fun f cdv A outer s H Ex hr => ⟨_, (pss_cons (ps_if (PW.pt (pw_or (pt_not (pt_val (pe_callB call_isi (by rfl) T.n_isinstance (by decide +kernel) (pa_cons (pv 0) (pa_cons (pe_bltn (v := .ty "tuple") (u := .type "tuple") (by rfl) T.n_tuple (by decide +kernel) rfl) pa_nil))))) (pw_or1 (pt_cmpR (op_neU (hu64 hr)) (pe_callB call_len (by rfl) T.n_len (by decide +kernel) (pa_cons (pv 0) pa_nil)) pe_int (nomark _))))) (pss_one (ps_ret pe_bl)) pss_nil)
    (pss_cons (ps_if (PW.pt (pw_or (pt_not (pt_val (pe_cal c_is_whole hr (by decide) (fun σ => p0At σ) (pa_cons (pe_ix ix_seq (pv 0) pe_int (fun _ _ => rfl)) pa_nil)))) (pw_or1 (pt_not (pt_val (pe_cal c_is_whole hr (by decide) (fun σ => p0At σ) (pa_cons (pe_ix ix_seq (pv 0) pe_int (fun _ _ => rfl)) pa_nil))))))) (pss_one (ps_ret pe_bl)) pss_nil)
    (pss_one (ps_ret (pe_and (pe_cmpR op_ge (pe_ix ix_seq (pv 0) pe_int (fun _ _ => rfl)) pe_int (nomark _)) (pe_one (pe_cmpR (op_eqU (hu64 hr)) (pe_callBfun cr_gcd (by rfl) T.m_gcd (pa_cons (pe_ix ix_seq (pv 0) pe_int (fun _ _ => rfl)) (pa_cons (pe_ix ix_seq (pv 0) pe_int (fun _ _ => rfl)) pa_nil))) pe_int (nomark _)))))))), ?_⟩

  rintro ds r ⟨d, rfl, ok, rfl⟩
  by_cases ht : ∃ l, d = .tuple l
  · obtain ⟨l, rfl⟩ := ht
    by_cases h2 : l.length = 2
    · obtain ⟨x, y, rfl⟩ : ∃ x y, l = [x, y] := by
        match l, h2 with
        | [x, y], _ => exact ⟨x, y, rfl⟩
      have okx : okD x = true := okAll_at (l := [x, y]) (i := 0) ok rfl
      have oky : okD y = true := okAll_at (l := [x, y]) (i := 1) ok rfl
      have w1 : R1 (fun d => .bool (isWh d)) [x] (.ok (.bool (isWh x))) := ⟨x, rfl, okx, rfl⟩
      have w2 : R1 (fun d => .bool (isWh d)) [y] (.ok (.bool (isWh y))) := ⟨y, rfl, oky, rfl⟩
      by_cases hw : isWh x = true ∧ isWh y = true
      · obtain ⟨a, rfl⟩ : ∃ a, x = .int a := by
          cases x <;> first | exact ⟨_, rfl⟩ | exact absurd hw.1 (by simp [isWh])
        obtain ⟨b, rfl⟩ : ∃ a, y = .int a := by
          cases y <;> first | exact ⟨_, rfl⟩ | exact absurd hw.2 (by simp [isWh])
        refine ⟨.rt _, rn_seq (rn_ifF' (by walk_at "ev") (by rfl) rn_next) (rn_seq (rn_ifF' (by walk_at "ev") (by rfl) rn_next) (rn_ret (by walk_at "ev"))), ?_⟩
        show Except.ok (PyData.bool (isRt _)) = _
        unfold isRt
        simp
      · refine ⟨.rt _, rn_seq (rn_ifF' (by walk_at "ev") (by rfl) rn_next) (rn_seqR (rn_ifT' (by walk_at "ev") ?_ (rn_ret (by walk_at "ev")))), ?_⟩
        · cases h1 : isWh x <;> cases h2 : isWh y <;> simp_all
        · show Except.ok (PyData.bool (isRt _)) = _
          have : isRt (.tuple [x, y]) = false := by
            cases x <;> cases y <;> first | rfl | exact absurd ⟨rfl, rfl⟩ hw
          rw [this]
    · refine ⟨.rt _, rn_seqR (rn_ifT' (by walk_at "ev") (by simp; omega) (rn_ret (by walk_at "ev"))), ?_⟩
      show Except.ok (PyData.bool (isRt _)) = _
      have : isRt (.tuple l) = false := by
        unfold isRt
        split
        · rename_i e; cases e; exact absurd rfl h2
        · rfl
      rw [this]
  · have ki : kitB (tyD d) "tuple" = some false := by
      cases d <;> first | rfl | exact absurd ⟨_, rfl⟩ ht
    refine ⟨.rt _, rn_seqR (rn_ifT (et_orT (by walk_at "ev") (by rfl)) (rn_ret (by walk_at "ev"))), ?_⟩
    show Except.ok (PyData.bool (isRt _)) = _
    have : isRt d = false := by
      cases d <;> first | rfl | exact absurd ⟨_, rfl⟩ ht
    rw [this]
abbrev s__law_gcd : Stmt := topS 45
theorem sc__law_gcd : FnScope ["a", "b", "k", "rest"] ["a", "b"] (defScope s__law_gcd) := ⟨rfl, rfl, rfl, by decide +kernel, rfl, by decide +kernel, by decide +kernel⟩
theorem len__law_gcd : ∀ ds r, R_law_gcd ds r → ds.length = (["a", "b"] : List Str).length := by
  rintro _ _ ⟨_, _, rfl, _⟩; rfl
theorem ok__law_gcd (T : Tx K mg Z0 Z1) (D : DefAt K mg "_law_gcd" s__law_gcd [])  : CalX P w K mg base CX0 1 "_law_gcd" [] R_law_gcd := by
  refine okN D (bind0 (fun _ _ _ _ _ _ us hl => match us, hl with | [_, _], _ => rfl)) sc__law_gcd len__law_gcd fun f cdv A outer s H Ex hr => ⟨_, (pss_cons (ps_set (i := 0) sc__law_gcd.nd rfl (by first | exact Or.inl rfl | exact Or.inr rfl) (pe_callB call_abs (by rfl) T.n_abs (by decide +kernel) (pa_cons (pv 0) pa_nil)))
    (pss_cons (ps_set (i := 1) sc__law_gcd.nd rfl (by first | exact Or.inl rfl | exact Or.inr rfl) (pe_callB call_abs (by rfl) T.n_abs (by decide +kernel) (pa_cons (pv 1) pa_nil)))
    (pss_cons (ps_for PassesOwn.never rfl (pi_range1 rfl T.n_range (pa_cons pe_int pa_nil)) (pg_name (i := 2) sc__law_gcd.nd rfl (by first | exact Or.inl rfl | exact Or.inr rfl)) (pss_cons (ps_if (pt_cmpR (op_eqU (hu64 hr)) (pv 1) pe_int (nomark _)) (pss_one (ps_ret (pv 0))) pss_nil)
    (pss_cons (ps_set (i := 3) sc__law_gcd.nd rfl (by first | exact Or.inl rfl | exact Or.inr rfl) (pe_op op_modN (pe_callTy (call_intU T.nd) (by rfl) T.n_int (by decide +kernel) (pa_cons (pv 0) pa_nil)) (pv 1)))
    (pss_cons (ps_set (i := 0) sc__law_gcd.nd rfl (by first | exact Or.inl rfl | exact Or.inr rfl) (pv 1))
    (pss_one (ps_set (i := 1) sc__law_gcd.nd rfl (by first | exact Or.inl rfl | exact Or.inr rfl) (pv 3)))))))
    (pss_one (ps_ret pe_int))))), ?_⟩

  rintro ds r ⟨a, b, rfl, hb, rfl⟩
  have hb2 : b.natAbs < 2 ^ 4400 := hb
  obtain ⟨j, j1, j2⟩ := eu_end a.natAbs b.natAbs 4400 hb2
  obtain ⟨m, m1, m2, m3⟩ := least (P := fun k => (eu a.natAbs b.natAbs k).2 = 0) j j2
  have hm : m < 9000 := by omega
  refine en_seq (rn_asgE (d := .int (a.natAbs : Int)) (ev_is (by walk_at "ev") (by rw [abs_nat])) rfl) ?_
  refine en_seq (rn_asgE (d := .int (b.natAbs : Int)) (ev_is (by walk_at "ev") (by rw [abs_nat])) rfl) ?_
  refine en_R (d := .int ((Nat.gcd a.natAbs b.natAbs : Nat) : Int)) ?_ rfl
  refine rn_for (js := [2]) (fun i => [.val (.int ((eu a.natAbs b.natAbs i).1 : Nat)), .val (.int ((eu a.natAbs b.natAbs i).2 : Nat)), .no, .no]) m (by rw [iota_len]; exact Nat.le_of_lt hm) (src_rng1 (W := fun _ _ _ _ => False) (j := 9000) (by walk_at "ev") (by decide) (by decide)) (fun i d hi hd => ?_) (.inr ?_)
  · have hz := m3 i hi
    have hz' : ((eu a.natAbs b.natAbs i).2 : Int) ≠ 0 := by omega
    refine ⟨_, .nx _, as_name, rfl, rn_weak (by walk_at "less") (rn_seq (rn_ifF' (by walk_at "ev") (by simpa using hz) rn_next) (rn_seq (rn_asgE (d := .int (((eu a.natAbs b.natAbs i).1 % (eu a.natAbs b.natAbs i).2 : Nat) : Int)) (ev_is (by walk_at "ev") (by rw [fmod_nat])) rfl) (rn_seq (rn_asgE (by walk_at "ev") rfl) (rn_asgE (by walk_at "ev") rfl))))⟩
  · refine ⟨_, _, .rt _, iota_get hm, as_name, rfl, rn_seqR (rn_ifT' (by walk_at "ev") (by simpa using m2) (rn_ret (ev_is (by walk_at "ev") ?_)))⟩
    have := eu_gcd a.natAbs b.natAbs m
    rw [m2, Nat.gcd_zero_right] at this
    rw [← this]
abbrev s__law_ratio : Stmt := topS 46
theorem sc__law_ratio : FnScope ["top", "bottom", "part"] ["top", "bottom"] (defScope s__law_ratio) := ⟨rfl, rfl, rfl, by decide +kernel, rfl, by decide +kernel, by decide +kernel⟩
theorem len__law_ratio : ∀ ds r, R_law_ratio ds r → ds.length = (["top", "bottom"] : List Str).length := by
  rintro _ _ ⟨_, _, rfl, _⟩; rfl
theorem ok__law_ratio (T : Tx K mg Z0 Z1) (D : DefAt K mg "_law_ratio" s__law_ratio []) (c__law_gcd : CalX P w K mg base CX0 1 "_law_gcd" [] R_law_gcd) : CalX P w K mg base CX0 2 "_law_ratio" [] R_law_ratio := by
  refine okN D (bind0 (fun _ _ _ _ _ _ us hl => match us, hl with | [_, _], _ => rfl)) sc__law_ratio len__law_ratio fun f cdv A outer s H Ex hr => ⟨_, (pss_cons (ps_set (i := 2) sc__law_ratio.nd rfl (by first | exact Or.inl rfl | exact Or.inr rfl) (pe_callB (call_max2 rfl) (by rfl) T.n_max (by decide +kernel) (pa_cons pe_int (pa_cons (pe_cal c__law_gcd hr (by decide) (fun σ => p0At σ) (pa_cons (pv 0) (pa_cons (pv 1) pa_nil))) pa_nil))))
    (pss_cons (ps_if (pt_cmpR op_lt (pv 1) pe_int (nomark _)) (pss_one (ps_set (i := 2) sc__law_ratio.nd rfl (by first | exact Or.inl rfl | exact Or.inr rfl) (pe_un un_neg (pv 2)))) pss_nil)
    (pss_one (ps_ret (pe_tup (pa_cons (pe_op op_fdivX (pv 0) (pv 2)) (pa_cons (pe_op op_fdivX (pv 1) (pv 2)) pa_nil))))))), ?_⟩

  rintro ds r ⟨t, b, rfl, h1, h2, hb, rfl⟩
  have g0 := gcd_ne (t := t) hb
  have g1 := sz_fits (gcd_sz (t := t) hb h2)
  have gm : (if ((Nat.gcd t.natAbs b.natAbs : Nat) : Int) > 1 then ((Nat.gcd t.natAbs b.natAbs : Nat) : Int) else 1) = ((Nat.gcd t.natAbs b.natAbs : Nat) : Int) := by
    split <;> omega
  refine en_seq (rn_asgE (d := .int ((Nat.gcd t.natAbs b.natAbs : Nat) : Int)) (ev_is (ev_cb (ea_cons ev_int (ea_cons (ev_call0 (by walk_at "ev") ⟨t, b, rfl, h2, rfl⟩) ea_nil)) rc_max2) (by rw [gm])) rfl) ?_
  by_cases hn : b < 0
  · have g0' : -((Nat.gcd t.natAbs b.natAbs : Nat) : Int) ≠ 0 := by omega
    have g1' : (-((Nat.gcd t.natAbs b.natAbs : Nat) : Int)).natAbs.log2 < 9000 := by rw [Int.natAbs_neg]; exact g1
    refine en_seq (rn_ifT' (by walk_at "ev") (by simpa using hn) (rn_asgE (by walk_at "ev") rfl)) ?_
    refine en_rt (rn_ret (by walk_at "ev")) ?_
    show _ = Except.ok (rat (nrm t b))
    unfold nrm; rw [if_pos hn]
  · refine en_seq (rn_ifF' (by walk_at "ev") (by simpa using hn) rn_next) ?_
    refine en_rt (rn_ret (by walk_at "ev")) ?_
    show _ = Except.ok (rat (nrm t b))
    unfold nrm; rw [if_neg hn]
abbrev s__law_add : Stmt := topS 47
theorem sc__law_add : FnScope ["a", "b"] ["a", "b"] (defScope s__law_add) := ⟨rfl, rfl, rfl, by decide +kernel, rfl, by decide +kernel, by decide +kernel⟩
theorem len__law_add : ∀ ds r, (RQ 2100 fun a b => rat (qadd a b)) ds r → ds.length = (["a", "b"] : List Str).length := by
  rintro _ _ ⟨_, _, rfl, _⟩; rfl
theorem ok__law_add (T : Tx K mg Z0 Z1) (D : DefAt K mg "_law_add" s__law_add []) (c__law_ratio : CalX P w K mg base CX0 2 "_law_ratio" [] R_law_ratio) : CalX P w K mg base CX0 3 "_law_add" [] (RQ 2100 fun a b => rat (qadd a b)) := by
  refine okN D (bind0 (fun _ _ _ _ _ _ us hl => match us, hl with | [_, _], _ => rfl)) sc__law_add len__law_add fun f cdv A outer s H Ex hr => ⟨_, (pss_one (ps_ret (pe_cal c__law_ratio hr (by decide) (fun σ => p0At σ) (pa_cons (pe_op op_addU (pe_op op_mulU (pe_ix ix_seq (pv 0) pe_int (fun _ _ => rfl)) (pe_ix ix_seq (pv 1) pe_int (fun _ _ => rfl))) (pe_op op_mulU (pe_ix ix_seq (pv 1) pe_int (fun _ _ => rfl)) (pe_ix ix_seq (pv 0) pe_int (fun _ _ => rfl)))) (pa_cons (pe_op op_mulU (pe_ix ix_seq (pv 0) pe_int (fun _ _ => rfl)) (pe_ix ix_seq (pv 1) pe_int (fun _ _ => rfl))) pa_nil))))), ?_⟩

  rintro ds r ⟨a, b, rfl, ha, hb, rfl⟩
  have a1 := ha.t; have a2 := ha.b; have b1 := hb.t; have b2 := hb.b
  have hz : a.2 * b.2 ≠ 0 := Int.mul_ne_zero ha.z hb.z
  refine ⟨.rt _, rn_ret (ev_call0 (by walk_at "ev") ⟨_, _, rfl, Sz.mono (by walk_at "sz") (by decide), Sz.mono (by walk_at "sz") (by decide), hz, rfl⟩), rfl⟩
abbrev s__law_mul : Stmt := topS 48
theorem sc__law_mul : FnScope ["a", "b"] ["a", "b"] (defScope s__law_mul) := ⟨rfl, rfl, rfl, by decide +kernel, rfl, by decide +kernel, by decide +kernel⟩
theorem len__law_mul : ∀ ds r, (RQ 2100 fun a b => rat (qmul a b)) ds r → ds.length = (["a", "b"] : List Str).length := by
  rintro _ _ ⟨_, _, rfl, _⟩; rfl
theorem ok__law_mul (T : Tx K mg Z0 Z1) (D : DefAt K mg "_law_mul" s__law_mul []) (c__law_ratio : CalX P w K mg base CX0 2 "_law_ratio" [] R_law_ratio) : CalX P w K mg base CX0 3 "_law_mul" [] (RQ 2100 fun a b => rat (qmul a b)) := by
  refine okN D (bind0 (fun _ _ _ _ _ _ us hl => match us, hl with | [_, _], _ => rfl)) sc__law_mul len__law_mul fun f cdv A outer s H Ex hr => ⟨_, (pss_one (ps_ret (pe_cal c__law_ratio hr (by decide) (fun σ => p0At σ) (pa_cons (pe_op op_mulU (pe_ix ix_seq (pv 0) pe_int (fun _ _ => rfl)) (pe_ix ix_seq (pv 1) pe_int (fun _ _ => rfl))) (pa_cons (pe_op op_mulU (pe_ix ix_seq (pv 0) pe_int (fun _ _ => rfl)) (pe_ix ix_seq (pv 1) pe_int (fun _ _ => rfl))) pa_nil))))), ?_⟩

  rintro ds r ⟨a, b, rfl, ha, hb, rfl⟩
  have a1 := ha.t; have a2 := ha.b; have b1 := hb.t; have b2 := hb.b
  have hz : a.2 * b.2 ≠ 0 := Int.mul_ne_zero ha.z hb.z
  refine ⟨.rt _, rn_ret (ev_call0 (by walk_at "ev") ⟨_, _, rfl, Sz.mono (by walk_at "sz") (by decide), Sz.mono (by walk_at "sz") (by decide), hz, rfl⟩), rfl⟩
abbrev s__law_below : Stmt := topS 49
theorem sc__law_below : FnScope ["a", "b"] ["a", "b"] (defScope s__law_below) := ⟨rfl, rfl, rfl, by decide +kernel, rfl, by decide +kernel, by decide +kernel⟩
theorem len__law_below : ∀ ds r, (RQ 2100 fun a b => .bool (decide (a.1 * b.2 < b.1 * a.2))) ds r → ds.length = (["a", "b"] : List Str).length := by
  rintro _ _ ⟨_, _, rfl, _⟩; rfl
theorem ok__law_below (T : Tx K mg Z0 Z1) (D : DefAt K mg "_law_below" s__law_below [])  : CalX P w K mg base CX0 1 "_law_below" [] (RQ 2100 fun a b => .bool (decide (a.1 * b.2 < b.1 * a.2))) := by
  refine okN D (bind0 (fun _ _ _ _ _ _ us hl => match us, hl with | [_, _], _ => rfl)) sc__law_below len__law_below fun f cdv A outer s H Ex hr => ⟨_, (pss_one (ps_ret (pe_cmpR op_lt (pe_op op_mulU (pe_ix ix_seq (pv 0) pe_int (fun _ _ => rfl)) (pe_ix ix_seq (pv 1) pe_int (fun _ _ => rfl))) (pe_op op_mulU (pe_ix ix_seq (pv 1) pe_int (fun _ _ => rfl)) (pe_ix ix_seq (pv 0) pe_int (fun _ _ => rfl))) (nomark _)))), ?_⟩

  rintro ds r ⟨a, b, rfl, ha, hb, rfl⟩
  have a1 := ha.t; have a2 := ha.b; have b1 := hb.t; have b2 := hb.b
  exact en_rt (rn_ret (by walk_at "ev")) rfl
abbrev s__law_is_whole : Stmt := topS 50
theorem sc__law_is_whole : FnScope ["x"] ["x"] (defScope s__law_is_whole) := ⟨rfl, rfl, rfl, by decide +kernel, rfl, by decide +kernel, by decide +kernel⟩
theorem len__law_is_whole : ∀ ds r, (R1 fun d => .bool (isWh d)) ds r → ds.length = (["x"] : List Str).length := by
  rintro _ _ ⟨_, rfl, _⟩; rfl
theorem ok__law_is_whole (T : Tx K mg Z0 Z1) (D : DefAt K mg "_law_is_whole" s__law_is_whole [])  : CalX P w K mg base CX0 1 "_law_is_whole" [] (R1 fun d => .bool (isWh d)) := by
  refine okN D (bind0 (fun _ _ _ _ _ _ us hl => match us, hl with | [_], _ => rfl)) sc__law_is_whole len__law_is_whole fun f cdv A outer s H Ex hr => ⟨_, (pss_one (ps_ret (pe_and (pe_callB call_isi (by rfl) T.n_isinstance (by decide +kernel) (pa_cons (pv 0) (pa_cons (pe_bltn (v := .ty "int") (u := .type "int") (by rfl) T.n_int (by decide +kernel) rfl) pa_nil))) (pe_one (pe_not (pe_callB call_isi (by rfl) T.n_isinstance (by decide +kernel) (pa_cons (pv 0) (pa_cons (pe_bltn (v := .ty "bool") (u := .type "bool") (by rfl) T.n_bool (by decide +kernel) rfl) pa_nil)))))))), ?_⟩

  rintro ds r ⟨d, rfl, ok, rfl⟩
  cases d <;> refine ⟨.rt _, rn_ret (by walk_at "ev"), ?_⟩ <;> rfl
abbrev s__law_is_ratio : Stmt := topS 51
theorem sc__law_is_ratio : FnScope ["x"] ["x"] (defScope s__law_is_ratio) := ⟨rfl, rfl, rfl, by decide +kernel, rfl, by decide +kernel, by decide +kernel⟩
theorem len__law_is_ratio : ∀ ds r, R_law_is_ratio ds r → ds.length = (["x"] : List Str).length := by
  rintro _ _ ⟨_, rfl, _⟩; rfl
theorem ok__law_is_ratio (T : Tx K mg Z0 Z1) (D : DefAt K mg "_law_is_ratio" s__law_is_ratio []) (c__law_is_whole : CalX P w K mg base CX0 1 "_law_is_whole" [] (R1 fun d => .bool (isWh d))) (c__law_gcd : CalX P w K mg base CX0 1 "_law_gcd" [] R_law_gcd) : CalX P w K mg base CX0 2 "_law_is_ratio" [] R_law_is_ratio := by
  refine okN D (bind0 (fun _ _ _ _ _ _ us hl => match us, hl with | [_], _ => rfl)) sc__law_is_ratio len__law_is_ratio fun f cdv A outer s H Ex hr => ⟨_, (pss_cons (ps_if (PW.pt (pw_or (pt_not (pt_val (pe_callB call_isi (by rfl) T.n_isinstance (by decide +kernel) (pa_cons (pv 0) (pa_cons (pe_bltn (v := .ty "tuple") (u := .type "tuple") (by rfl) T.n_tuple (by decide +kernel) rfl) pa_nil))))) (pw_or (pt_cmpR (op_neU (hu64 hr)) (pe_callB call_len (by rfl) T.n_len (by decide +kernel) (pa_cons (pv 0) pa_nil)) pe_int (nomark _)) (pw_or (pt_not (pt_val (pe_cal c__law_is_whole hr (by decide) (fun σ => p0At σ) (pa_cons (pe_ix ix_seq (pv 0) pe_int (fun _ _ => rfl)) pa_nil)))) (pw_or1 (pt_not (pt_val (pe_cal c__law_is_whole hr (by decide) (fun σ => p0At σ) (pa_cons (pe_ix ix_seq (pv 0) pe_int (fun _ _ => rfl)) pa_nil))))))))) (pss_one (ps_ret pe_bl)) pss_nil)
    (pss_one (ps_ret (pe_and (pe_cmpR op_ge (pe_ix ix_seq (pv 0) pe_int (fun _ _ => rfl)) pe_int (nomark _)) (pe_one (pe_cmpR (op_eqU (hu64 hr)) (pe_cal c__law_gcd hr (by decide) (fun σ => p0At σ) (pa_cons (pe_ix ix_seq (pv 0) pe_int (fun _ _ => rfl)) (pa_cons (pe_ix ix_seq (pv 0) pe_int (fun _ _ => rfl)) pa_nil))) pe_int (nomark _))))))), ?_⟩

  rintro ds r ⟨d, rfl, ok, hz, rfl⟩
  by_cases ht : ∃ l, d = .tuple l
  · obtain ⟨l, rfl⟩ := ht
    by_cases h2 : l.length = 2
    · obtain ⟨x, y, rfl⟩ : ∃ x y, l = [x, y] := by
        match l, h2 with
        | [x, y], _ => exact ⟨x, y, rfl⟩
      have okx : okD x = true := okAll_at (l := [x, y]) (i := 0) ok rfl
      have oky : okD y = true := okAll_at (l := [x, y]) (i := 1) ok rfl
      have w1 : R1 (fun d => .bool (isWh d)) [x] (.ok (.bool (isWh x))) := ⟨x, rfl, okx, rfl⟩
      have w2 : R1 (fun d => .bool (isWh d)) [y] (.ok (.bool (isWh y))) := ⟨y, rfl, oky, rfl⟩
      by_cases hw : isWh x = true ∧ isWh y = true
      · obtain ⟨a, rfl⟩ : ∃ a, x = .int a := by
          cases x <;> first | exact ⟨_, rfl⟩ | exact absurd hw.1 (by simp [isWh])
        obtain ⟨b, rfl⟩ : ∃ a, y = .int a := by
          cases y <;> first | exact ⟨_, rfl⟩ | exact absurd hw.2 (by simp [isWh])
        have cg : R_law_gcd [.int a, .int b] (.ok (.int ((Nat.gcd a.natAbs b.natAbs : Nat) : Int))) := ⟨a, b, rfl, hz a b rfl, rfl⟩
        refine en_seq (rn_ifF' (by walk_at "ev") (by rfl) rn_next) (en_rt (rn_ret (by walk_at "ev")) ?_)
        show _ = Except.ok (PyData.bool (isRt _))
        unfold isRt
        simp
      · refine en_R (rn_ifT' (by walk_at "ev") ?_ (rn_ret (by walk_at "ev"))) ?_
        · cases h1 : isWh x <;> cases h2 : isWh y <;> simp_all
        · have : isRt (.tuple [x, y]) = false := by
            cases x <;> cases y <;> first | rfl | exact absurd ⟨rfl, rfl⟩ hw
          rw [this]
    · refine en_R (rn_ifT (et_orF (by walk_at "ev") (by rfl) (et_orT (by walk_at "ev") (by simp; omega))) (rn_ret (by walk_at "ev"))) ?_
      have : isRt (.tuple l) = false := by
        unfold isRt
        split
        · rename_i e; cases e; exact absurd rfl h2
        · rfl
      rw [this]
  · have ki : kitB (tyD d) "tuple" = some false := by
      cases d <;> first | rfl | exact absurd ⟨_, rfl⟩ ht
    refine en_R (rn_ifT (et_orT (by walk_at "ev") (by rfl)) (rn_ret (by walk_at "ev"))) ?_
    have : isRt d = false := by
      cases d <;> first | rfl | exact absurd ⟨_, rfl⟩ ht
    rw [this]
abbrev s__law_cell : Stmt := topS 43
theorem sc__law_cell : FnScope ["script", "k"] ["script", "k"] (defScope s__law_cell) := ⟨rfl, rfl, rfl, by decide +kernel, rfl, by decide +kernel, by decide +kernel⟩
theorem len__law_cell : ∀ ds r, R_law_cell ds r → ds.length = (["script", "k"] : List Str).length := by
  rintro _ _ ⟨_, _, rfl, _⟩; rfl
theorem ok__law_cell (T : Tx K mg Z0 Z1) (D : DefAt K mg "_law_cell" s__law_cell [])  : CalX P w K mg base CX0 1 "_law_cell" [] R_law_cell := by
  refine okN D (bind0 (fun _ _ _ _ _ _ us hl => match us, hl with | [_, _], _ => rfl)) sc__law_cell len__law_cell fun f cdv A outer s H Ex hr => ⟨_, (pss_cons (ps_if (pt_cmpR op_lt (pv 1) (pe_callB call_len (by rfl) T.n_len (by decide +kernel) (pa_cons (pv 0) pa_nil)) (nomark _)) (pss_one (ps_ret (pe_ix ix_seq (pv 0) (pv 1) (fun _ _ => rfl)))) pss_nil)
    (pss_one (ps_ret (pe_op op_addU (pe_op op_addU (pe_op op_mulU (pe_callB (cr_sum rfl) (by rfl) T.n_sum (by decide +kernel) (pa_cons (pv 0) pa_nil)) pe_int) (pe_op op_mulU pe_int (pv 1))) pe_int)))), ?_⟩

  rintro ds r ⟨ns, k, rfl, rfl⟩
  have ln : RC K (fun xs H Q => ∃ x n, xs = [x] ∧ LenV K x H n ∧ Q (.int n) H) [.list (ns.map .int)] (.int (ns.length : Nat)) := by
    have := rc_len_l (K := K) (l := ns.map PyData.int)
    rwa [List.length_map] at this
  have sm : RC K (rSum K) [.list (ns.map .int)] (.int ns.sum) := rc_sum
  by_cases h : k < ns.length
  · have e : cellF ns k = ns.getD k 0 := if_pos h
    rw [e]
    exact en_R (rn_ifT' (et_test (ev_op (by walk_at "ev") (ev_cb (by walk_at "ev") ln) rd_I0b)) (by simpa using h) (rn_ret (ev_op (by walk_at "ev") (by walk_at "ev") (rd_ix_L (at_int h))))) rfl
  · have e : cellF ns k = ns.sum * 31 + 17 * (k : Int) + 5 := if_neg h
    rw [e]
    exact en_seq (rn_ifF' (et_test (ev_op (by walk_at "ev") (ev_cb (by walk_at "ev") ln) rd_I0b)) (by simpa using h) rn_next) (en_rt (rn_ret (by walk_at "ev")) rfl)
abbrev s__law_draws : Stmt := topS 44
theorem sc__law_draws : FnScope ["cell", "many", "seed", "left", "big", "found", "k", "mixed"] ["cell", "many"] (defScope s__law_draws) := ⟨rfl, rfl, rfl, by decide +kernel, rfl, by decide +kernel, by decide +kernel⟩
theorem len__law_draws : ∀ ds r, R_law_draws ds r → ds.length = (["cell", "many"] : List Str).length := by
  rintro _ _ ⟨_, _, rfl, _⟩; rfl
theorem ok__law_draws (T : Tx K mg Z0 Z1) (D : DefAt K mg "_law_draws" s__law_draws [])  : CalX P w K mg base CX0 1 "_law_draws" [] R_law_draws := by
  refine okN D (bind0 (fun _ _ _ _ _ _ us hl => match us, hl with | [_, _], _ => rfl)) sc__law_draws len__law_draws fun f cdv A outer s H Ex hr => ⟨_, (pss_cons (ps_set (i := 2) sc__law_draws.nd rfl (by first | exact Or.inl rfl | exact Or.inr rfl) (pe_callB call_abs (by rfl) T.n_abs (by decide +kernel) (pa_cons (pe_callTy (call_intU T.nd) (by rfl) T.n_int (by decide +kernel) (pa_cons (pv 0) pa_nil)) pa_nil)))
    (pss_cons (ps_set (i := 3) sc__law_draws.nd rfl (by first | exact Or.inl rfl | exact Or.inr rfl) (pv 2))
    (pss_cons (ps_set (i := 4) sc__law_draws.nd rfl (by first | exact Or.inl rfl | exact Or.inr rfl) (pe_cmpR op_ge (pv 2) (pe_op op_pow pe_int pe_int) (nomark _)))
    (pss_cons (ps_set (i := 5) sc__law_draws.nd rfl (by first | exact Or.inl rfl | exact Or.inr rfl) (pe_lst pa_nil))
    (pss_cons (ps_for PassesOwn.never rfl (pi_range1 rfl T.n_range (pa_cons (pv 1) pa_nil)) (pg_name (i := 6) sc__law_draws.nd rfl (by first | exact Or.inl rfl | exact Or.inr rfl)) (pss_one (ps_if (PW.pt (pw_and (pt_val (pv 4)) (pw_and1 (pt_cmpR op_gt (pv 3) pe_int (nomark _))))) (pss_cons (ps_expr (pe_bm PySem.F.plainAttrs_list PySem.F.slot_list_append PySem.F.type_list_append mt_append (pv 5) (pa_cons (pe_op op_modN (pv 3) pe_int) pa_nil)))
    (pss_one (ps_set (i := 3) sc__law_draws.nd rfl (by first | exact Or.inl rfl | exact Or.inr rfl) (pe_op op_fdivX (pv 3) pe_int)))) (pss_cons (ps_set (i := 7) sc__law_draws.nd rfl (by first | exact Or.inl rfl | exact Or.inr rfl) (pe_op op_modN (pe_callTy (call_intU T.nd) (by rfl) T.n_int (by decide +kernel) (pa_cons (pe_op op_addU (pe_op op_mulU (pe_op op_addU (pe_op op_modN (pv 2) pe_int) pe_int) pe_int) (pe_op op_mulU (pe_op op_addU (pv 6) pe_int) pe_int)) pa_nil)) pe_int))
    (pss_cons (ps_set (i := 7) sc__law_draws.nd rfl (by first | exact Or.inl rfl | exact Or.inr rfl) (pe_op op_modN (pe_callTy (call_intU T.nd) (by rfl) T.n_int (by decide +kernel) (pa_cons (pe_op op_addU (pe_op op_addU (pe_op op_mulU (pv 7) (pv 7)) (pe_op op_mulU pe_int (pv 6))) pe_int) pa_nil)) pe_int))
    (pss_cons (ps_set (i := 7) sc__law_draws.nd rfl (by first | exact Or.inl rfl | exact Or.inr rfl) (pe_op op_modN (pe_callTy (call_intU T.nd) (by rfl) T.n_int (by decide +kernel) (pa_cons (pe_op op_addU (pe_op op_addU (pe_op op_addU (pe_op op_mulU (pv 7) (pv 7)) (pe_op op_mulU pe_int (pv 7))) (pv 6)) pe_int) pa_nil)) pe_int))
    (pss_one (ps_expr (pe_bm PySem.F.plainAttrs_list PySem.F.slot_list_append PySem.F.type_list_append mt_append (pv 5) (pa_cons (pe_op op_modN (pe_op op_fdivX (pv 7) pe_int) pe_int) pa_nil))))))))))
    (pss_one (ps_ret (pv 5)))))))), ?_⟩

  rintro ds r ⟨c, n, rfl, hn, rfl⟩
  refine en_seq (rn_asgE (d := .int (c.natAbs : Int)) (ev_is (by walk_at "ev") (by rw [abs_nat])) rfl) ?_
  refine en_seq (rn_asgE (by walk_at "ev") rfl) ?_
  refine en_seq (rn_asgE (by walk_at "ev") rfl) ?_
  refine en_seq (rn_asgO ea_nil) ?_
  refine en_seq (δ1 := [.val (.int c), .val (.int (n : Int)), .val (.int (c.natAbs : Int)), .val (.int (drF (c.natAbs : Int) n).1), .val (.bool (decide ((10 : Int) ^ 18 ≤ (c.natAbs : Int)))), .own ((drF (c.natAbs : Int) n).2.map .int), .no, .no]) ?_ (rn_frzE (i := 5) rfl (en_rt (rn_ret (by walk_at "ev")) rfl))
  generalize hs : (c.natAbs : Int) = s
  refine rn_at (δ := [.val (.int c), .val (.int (n : Int)), .val (.int s), .val (.int s), .val (.bool (decide ((10 : Int) ^ 18 ≤ s))), .own [], .no, .no]) rfl ?_
  have src := (src_rng1 (K := K) (δ := [.val (.int c), .val (.int (n : Int)), .val (.int s), .val (.int s), .val (.bool (decide ((10 : Int) ^ 18 ≤ s))), .own [], .no, .no]) (W := fun _ _ _ _ => False) (j := (n : Int)) (ta := tCons (tVar 1) tNil) (by walk_at "ev") (by omega) (by omega))
  refine rn_for (js := [6]) (fun k => [.val (.int c), .val (.int (n : Int)), .val (.int s), .val (.int (drF s k).1), .val (.bool (decide ((10 : Int) ^ 18 ≤ s))), .own ((drF s k).2.map .int), .no, .no]) n ?_ src (fun k d hk hd => ?_) (.inl ⟨?_, rfl⟩)
  · rw [iota_len]; simp
  rotate_left
  · rw [iota_len]; simp
  rw [iota_get (by simpa using hk)] at hd
  cases hd
  have e0 : (0 : Int) + (k : Nat) = (k : Int) := by omega
  rw [e0]
  have hl : ((drF s k).2.map PyData.int).length < sizeLine := by rw [List.length_map, (drF_ok s k).1, sizeLine_eq]; omega
  by_cases hb : (10 : Int) ^ 18 ≤ s ∧ (drF s k).1 > 0
  · have e : drF s (k + 1) = ((drF s k).1.fdiv 1000, (drF s k).2 ++ [(drF s k).1.fmod 1000]) := by
      show (if _ then _ else _) = _
      rw [if_pos hb]
    rw [e, List.map_append]
    refine ⟨_, .nx _, as_name, rfl, rn_weak (δ1 := [.val (.int c), .val (.int (n : Int)), .val (.int s), .val (.int ((drF s k).1.fdiv 1000)), .val (.bool (decide ((10 : Int) ^ 18 ≤ s))), .own ((drF s k).2.map .int ++ [.int ((drF s k).1.fmod 1000)]), .val (.int (k : Int)), .no]) (by walk_at "less") ?_⟩
    exact rn_ifT' (by walk_at "ev") (by rw [decide_eq_true hb.1, decide_eq_true hb.2]; rfl) (rn_seq (rn_app (i := 5) rfl (by walk_at "ev") hl) (rn_asgE (by walk_at "ev") rfl))
  · have e : drF s (k + 1) = ((drF s k).1, (drF s k).2 ++ [mixF s k]) := by
      show (if _ then _ else _) = _
      rw [if_neg hb]
    rw [e, List.map_append]
    refine ⟨_, .nx _, as_name, rfl, rn_weak (δ1 := [.val (.int c), .val (.int (n : Int)), .val (.int s), .val (.int (drF s k).1), .val (.bool (decide ((10 : Int) ^ 18 ≤ s))), .own ((drF s k).2.map .int ++ [.int (mixF s k)]), .val (.int (k : Int)), .val (.int (m3F s k))]) (by walk_at "less") ?_⟩
    have sk : Sz 10 (k : Int) := by
      show (k : Int).natAbs < 2 ^ 10
      have : (2 : Nat) ^ 10 = 1024 := rfl
      omega
    refine rn_ifF' (by walk_at "ev") ?_ (rn_seq (rn_asgE (by walk_at "ev") rfl) (rn_seq (rn_asgE (by walk_at "ev") rfl) (rn_seq (rn_asgE (by walk_at "ev") rfl) (rn_nxE (rn_app (i := 5) rfl (by walk_at "ev") hl) rfl))))
    rw [← Bool.not_eq_true, Bool.and_eq_true, decide_eq_true_eq, decide_eq_true_eq]
    exact hb
abbrev s__law_match : Stmt := topS 54
theorem sc__law_match : FnScope ["actual", "due", "k"] ["actual", "due"] (defScope s__law_match) := ⟨rfl, rfl, rfl, by decide +kernel, rfl, by decide +kernel, by decide +kernel⟩
theorem len__law_match (nn : Nat) : ∀ ds r, (RM nn) ds r → ds.length = (["actual", "due"] : List Str).length := by
  cases nn with
  | zero => intro _ _ h; exact h.elim
  | succ m => rintro _ _ ⟨_, rfl, _⟩; rfl
theorem step__law_match {nn kk : Nat} (hk : 2 ≤ kk) (T : Tx K mg Z0 Z1) (D : DefAt K mg "_law_match" s__law_match []) (c__law_is_whole : CalX P w K mg base CX0 1 "_law_is_whole" [] (R1 fun d => .bool (isWh d))) (c__law_match : CalX P w K mg base CX0 kk "_law_match" [] (RM nn)) : CalX P w K mg base CX0 (kk + 1) "_law_match" [] (RM (nn + 1)) := by
  refine okN D (bind0 (fun _ _ _ _ _ _ us hl => match us, hl with | [_, _], _ => rfl)) sc__law_match (len__law_match (nn + 1)) fun f cdv A outer s H Ex hr => ⟨_, (pss_cons (ps_if (pt_cmp (pc_isN (pv 1)) rfl) (pss_one (ps_ret (pe_cmp (pc_isN (pv 0)) rfl))) pss_nil)
    (pss_cons (ps_if (pt_val (pe_callB call_isi (by rfl) T.n_isinstance (by decide +kernel) (pa_cons (pv 1) (pa_cons (pe_bltn (v := .ty "bool") (u := .type "bool") (by rfl) T.n_bool (by decide +kernel) rfl) pa_nil)))) (pss_one (ps_ret (pe_and (pe_callB call_isi (by rfl) T.n_isinstance (by decide +kernel) (pa_cons (pv 0) (pa_cons (pe_bltn (v := .ty "bool") (u := .type "bool") (by rfl) T.n_bool (by decide +kernel) rfl) pa_nil))) (pe_one (pe_cmpR (op_eqU (hu64 hr)) (pv 0) (pv 1) (nomark _)))))) pss_nil)
    (pss_cons (ps_if (pt_val (pe_callB call_isi (by rfl) T.n_isinstance (by decide +kernel) (pa_cons (pv 1) (pa_cons (pe_bltn (v := .ty "int") (u := .type "int") (by rfl) T.n_int (by decide +kernel) rfl) pa_nil)))) (pss_one (ps_ret (pe_and (pe_cal c__law_is_whole hr (Nat.le_trans (by decide) hk) (fun σ => p0At σ) (pa_cons (pv 0) pa_nil)) (pe_one (pe_cmpR (op_eqU (hu64 hr)) (pv 0) (pv 1) (nomark _)))))) pss_nil)
    (pss_cons (ps_if (pt_val (pe_callB call_isi (by rfl) T.n_isinstance (by decide +kernel) (pa_cons (pv 1) (pa_cons (pe_bltn (v := .ty "str") (u := .type "str") (by rfl) T.n_str (by decide +kernel) rfl) pa_nil)))) (pss_one (ps_ret (pe_and (pe_callB call_isi (by rfl) T.n_isinstance (by decide +kernel) (pa_cons (pv 0) (pa_cons (pe_bltn (v := .ty "str") (u := .type "str") (by rfl) T.n_str (by decide +kernel) rfl) pa_nil))) (pe_one (pe_cmpR (op_eqU (hu64 hr)) (pv 0) (pv 1) (nomark _)))))) pss_nil)
    (pss_cons (ps_if (PW.pt (pw_or (pt_not (pt_val (pe_callB call_isi (by rfl) T.n_isinstance (by decide +kernel) (pa_cons (pv 0) (pa_cons (pe_bltn (v := .ty "tuple") (u := .type "tuple") (by rfl) T.n_tuple (by decide +kernel) rfl) pa_nil))))) (pw_or1 (pt_cmpR (op_neU (hu64 hr)) (pe_callB call_len (by rfl) T.n_len (by decide +kernel) (pa_cons (pv 0) pa_nil)) (pe_callB call_len (by rfl) T.n_len (by decide +kernel) (pa_cons (pv 1) pa_nil)) (nomark _))))) (pss_one (ps_ret pe_bl)) pss_nil)
    (pss_cons (ps_for PassesOwn.never rfl (pi_range1 rfl T.n_range (pa_cons (pe_callB call_len (by rfl) T.n_len (by decide +kernel) (pa_cons (pv 1) pa_nil)) pa_nil)) (pg_name (i := 2) sc__law_match.nd rfl (by first | exact Or.inl rfl | exact Or.inr rfl)) (pss_one (ps_if (pt_not (pt_val (pe_cal c__law_match hr (Nat.le_refl _) (fun σ => p0At σ) (pa_cons (pe_ix ix_seq (pv 0) (pv 2) (fun _ _ => rfl)) (pa_cons (pe_ix ix_seq (pv 1) (pv 2) (fun _ _ => rfl)) pa_nil))))) (pss_one (ps_ret pe_bl)) pss_nil)))
    (pss_one (ps_ret pe_bl)))))))), ?_⟩

  rintro ds r ⟨d, rfl, hd, rfl⟩
  have ok := mOk_ok hd
  cases d with
  | none => exact en_R (rn_ifT' (by walk_at "ev") (by rfl) (rn_ret (by walk_at "ev"))) (okB (by rfl))
  | bool b =>
    refine en_seq (rn_ifF' (by walk_at "ev") (by rfl) rn_next) (en_R (rn_ifT' (by walk_at "ev") (by rfl) (rn_ret (by walk_at "ev"))) (okB ?_))
    simp
  | int i =>
    have w1 : R1 (fun d => .bool (isWh d)) [.int i] (.ok (.bool true)) := ⟨_, rfl, rfl, rfl⟩
    refine en_seq (rn_ifF' (by walk_at "ev") (by rfl) rn_next) (en_seq (rn_ifF' (by walk_at "ev") (by rfl) rn_next) (en_R (rn_ifT' (by walk_at "ev") (by rfl) (rn_ret (by walk_at "ev"))) (okB ?_)))
    simp [isWh]
  | str z =>
    refine en_seq (rn_ifF' (by walk_at "ev") (by rfl) rn_next) (en_seq (rn_ifF' (by walk_at "ev") (by rfl) rn_next) (en_seq (rn_ifF' (by walk_at "ev") (by rfl) rn_next) (en_R (rn_ifT' (by walk_at "ev") (by rfl) (rn_ret (by walk_at "ev"))) (okB ?_))))
    simp
  | tuple l =>
    cases nn with
    | zero => exact hd.elim
    | succ m =>
      obtain ⟨hl, hd⟩ := hd
      refine en_seq (rn_ifF' (by walk_at "ev") (by rfl) rn_next) (en_seq (rn_ifF' (by walk_at "ev") (by rfl) rn_next) (en_seq (rn_ifF' (by walk_at "ev") (by rfl) rn_next) (en_seq (rn_ifF' (by walk_at "ev") (by rfl) rn_next) (en_seq (rn_ifF' (by walk_at "ev") (by simp) rn_next) (en_seq (rn_none (js := [2]) (src_rng1 (W := fun _ _ _ _ => False) (j := (l.length : Int)) (by walk_at "ev") (by omega) (by omega)) (fun i d hd' => ?_)) (en_rt (rn_ret (by walk_at "ev")) rfl))))))
      have hi : i < l.length := by
        have := (List.getElem?_eq_some_iff.mp hd').1
        rw [iota_len] at this
        simpa using this
      rw [iota_get (by simpa using hi)] at hd'
      cases hd'
      have e0 : (0 : Int) + (i : Nat) = (i : Int) := by omega
      rw [e0]
      have hx : atI l (i : Int) = some l[i] := by rw [at_nat, List.getElem?_eq_getElem hi]
      have ix := rd_ix_T (K := K) hx
      have cm : RM (m + 1) [l[i], l[i]] (.ok (.bool true)) := ⟨_, rfl, hd _ (List.getElem_mem hi), rfl⟩
      exact ⟨_, _, as_name, rn_ifF' (by walk_at "ev") (by rfl) rn_next, by walk_at "less"⟩
  | list l => cases nn <;> exact hd.elim
  | dict l => cases nn <;> exact hd.elim
theorem hot__law_match {nn kk : Nat} (hk : 2 ≤ kk) (T : Tx K mg Z0 Z1) (D : DefAt K mg "_law_match" s__law_match []) (h__law_is_whole : CalH P w K mg base 1 "_law_is_whole" (R1 fun d => .bool (isWh d))) (h__law_match : CalH P w K mg base kk "_law_match" (RM nn)) : CalH P w K mg base (kk + 1) "_law_match" (RM (nn + 1)) := by
  refine okH D (bind0 (fun _ _ _ _ _ _ us hl => match us, hl with | [_, _], _ => rfl)) sc__law_match (len__law_match (nn + 1)) fun f cdv A outer s H Ex p hot hr => ?_
  have hc := hot_def (P := P) (w := w) (K := K) (mg := mg) (base := base) (N := ["actual", "due", "k"]) (qual := "_law_match") (scope := defScope s__law_match) (f := f) (cd := cdv) (outer := outer) (s := s) (H := H) (E := Ex) hot
  refine ⟨_, (pss_cons (ps_if (pt_cmp (pc_isN (pv 1)) rfl) (pss_one (ps_ret (pe_cmp (pc_isN (pv 0)) rfl))) pss_nil)
    (pss_cons (ps_if (pt_val (pe_callB call_isi (by rfl) T.n_isinstance (by decide +kernel) (pa_cons (pv 1) (pa_cons (pe_bltn (v := .ty "bool") (u := .type "bool") (by rfl) T.n_bool (by decide +kernel) rfl) pa_nil)))) (pss_one (ps_ret (pe_and (pe_callB call_isi (by rfl) T.n_isinstance (by decide +kernel) (pa_cons (pv 0) (pa_cons (pe_bltn (v := .ty "bool") (u := .type "bool") (by rfl) T.n_bool (by decide +kernel) rfl) pa_nil))) (pe_one (pe_cmpR (op_eqU (hu64H hr)) (pv 0) (pv 1) (nomark _)))))) pss_nil)
    (pss_cons (ps_if (pt_val (pe_callB call_isi (by rfl) T.n_isinstance (by decide +kernel) (pa_cons (pv 1) (pa_cons (pe_bltn (v := .ty "int") (u := .type "int") (by rfl) T.n_int (by decide +kernel) rfl) pa_nil)))) (pss_one (ps_ret (pe_and (pe_calH h__law_is_whole hr (Nat.le_trans (by decide) hk) hc (pa_cons (pv 0) pa_nil)) (pe_one (pe_cmpR (op_eqU (hu64H hr)) (pv 0) (pv 1) (nomark _)))))) pss_nil)
    (pss_cons (ps_if (pt_val (pe_callB call_isi (by rfl) T.n_isinstance (by decide +kernel) (pa_cons (pv 1) (pa_cons (pe_bltn (v := .ty "str") (u := .type "str") (by rfl) T.n_str (by decide +kernel) rfl) pa_nil)))) (pss_one (ps_ret (pe_and (pe_callB call_isi (by rfl) T.n_isinstance (by decide +kernel) (pa_cons (pv 0) (pa_cons (pe_bltn (v := .ty "str") (u := .type "str") (by rfl) T.n_str (by decide +kernel) rfl) pa_nil))) (pe_one (pe_cmpR (op_eqU (hu64H hr)) (pv 0) (pv 1) (nomark _)))))) pss_nil)
    (pss_cons (ps_if (PW.pt (pw_or (pt_not (pt_val (pe_callB call_isi (by rfl) T.n_isinstance (by decide +kernel) (pa_cons (pv 0) (pa_cons (pe_bltn (v := .ty "tuple") (u := .type "tuple") (by rfl) T.n_tuple (by decide +kernel) rfl) pa_nil))))) (pw_or1 (pt_cmpR (op_neU (hu64H hr)) (pe_callB call_len (by rfl) T.n_len (by decide +kernel) (pa_cons (pv 0) pa_nil)) (pe_callB call_len (by rfl) T.n_len (by decide +kernel) (pa_cons (pv 1) pa_nil)) (nomark _))))) (pss_one (ps_ret pe_bl)) pss_nil)
    (pss_cons (L2H.ps_forH (passes_of rfl) hc (L2H.pi_range1H rfl T.n_range (pa_cons (pe_callB call_len (by rfl) T.n_len (by decide +kernel) (pa_cons (pv 1) pa_nil)) pa_nil)) (pg_name (i := 2) sc__law_match.nd rfl (by first | exact Or.inl rfl | exact Or.inr rfl)) (pss_one (ps_if (pt_not (pt_val (pe_calH h__law_match hr (Nat.le_refl _) hc (pa_cons (pe_ix ix_seq (pv 0) (pv 2) (fun _ _ => rfl)) (pa_cons (pe_ix ix_seq (pv 1) (pv 2) (fun _ _ => rfl)) pa_nil))))) (pss_one (ps_ret pe_bl)) pss_nil)))
    (pss_one (ps_ret pe_bl)))))))), ?_⟩

  rintro ds r ⟨d, rfl, hd, rfl⟩
  have ok := mOk_ok hd
  cases d with
  | none => exact en_R (rn_ifT' (by walk_at "ev") (by rfl) (rn_ret (by walk_at "ev"))) (okB (by rfl))
  | bool b =>
    refine en_seq (rn_ifF' (by walk_at "ev") (by rfl) rn_next) (en_R (rn_ifT' (by walk_at "ev") (by rfl) (rn_ret (by walk_at "ev"))) (okB ?_))
    simp
  | int i =>
    have w1 : R1 (fun d => .bool (isWh d)) [.int i] (.ok (.bool true)) := ⟨_, rfl, rfl, rfl⟩
    refine en_seq (rn_ifF' (by walk_at "ev") (by rfl) rn_next) (en_seq (rn_ifF' (by walk_at "ev") (by rfl) rn_next) (en_R (rn_ifT' (by walk_at "ev") (by rfl) (rn_ret (by walk_at "ev"))) (okB ?_)))
    simp [isWh]
  | str z =>
    refine en_seq (rn_ifF' (by walk_at "ev") (by rfl) rn_next) (en_seq (rn_ifF' (by walk_at "ev") (by rfl) rn_next) (en_seq (rn_ifF' (by walk_at "ev") (by rfl) rn_next) (en_R (rn_ifT' (by walk_at "ev") (by rfl) (rn_ret (by walk_at "ev"))) (okB ?_))))
    simp
  | tuple l =>
    cases nn with
    | zero => exact hd.elim
    | succ m =>
      obtain ⟨hl, hd⟩ := hd
      refine en_seq (rn_ifF' (by walk_at "ev") (by rfl) rn_next) (en_seq (rn_ifF' (by walk_at "ev") (by rfl) rn_next) (en_seq (rn_ifF' (by walk_at "ev") (by rfl) rn_next) (en_seq (rn_ifF' (by walk_at "ev") (by rfl) rn_next) (en_seq (rn_ifF' (by walk_at "ev") (by simp) rn_next) (en_seq (rn_none (js := [2]) (src_rng1 (W := fun _ _ _ _ => False) (j := (l.length : Int)) (by walk_at "ev") (by omega) (by omega)) (fun i d hd' => ?_)) (en_rt (rn_ret (by walk_at "ev")) rfl))))))
      have hi : i < l.length := by
        have := (List.getElem?_eq_some_iff.mp hd').1
        rw [iota_len] at this
        simpa using this
      rw [iota_get (by simpa using hi)] at hd'
      cases hd'
      have e0 : (0 : Int) + (i : Nat) = (i : Int) := by omega
      rw [e0]
      have hx : atI l (i : Int) = some l[i] := by rw [at_nat, List.getElem?_eq_getElem hi]
      have ix := rd_ix_T (K := K) hx
      have cm : RM (m + 1) [l[i], l[i]] (.ok (.bool true)) := ⟨_, rfl, hd _ (List.getElem_mem hi), rfl⟩
      exact ⟨_, _, as_name, rn_ifF' (by walk_at "ev") (by rfl) rn_next, by walk_at "less"⟩
  | list l => cases nn <;> exact hd.elim
  | dict l => cases nn <;> exact hd.elim
end
end K74
end
section
/-! ### the reading tactics -/
local macro_rules | `(tactic| walk_at "sz") => `(tactic| first
  | assumption
  | (apply DL.Sz.neg
     · walk_at "sz")
  | (apply DL.Sz.mul
     · walk_at "sz"
     · walk_at "sz")
  | (apply DL.Sz.add
     · walk_at "sz"
     · walk_at "sz")
  | (apply DL.Sz.sub
     · walk_at "sz"
     · walk_at "sz")
  | (apply DL.Sz.fmod
     · decide
     · walk_at "sz")
  | exact DL.Sz.self)
local macro_rules | `(tactic| walk_at "side") => `(tactic| first
  | assumption
  | (apply DL.cmulW_of
     · walk_at "sz"
     · walk_at "sz"
     · first | decide +kernel | omega)
  | rfl
  | decide
  | omega
  | (simp only [List.length_cons, List.length_nil]; decide)
  | (simp; done)
  | (simp only [PySem.sizeLine_eq, List.length_cons, List.length_nil]; omega))
local macro_rules | `(tactic| walk_at "rd") => `(tactic| first
  | exact DL.rd_addI
  | exact DL.rd_sub
  | exact DL.rd_mulL (by decide) (by decide)
  | exact DL.rd_mulR (by decide) (by decide)
  | (refine DL.rd_mulI ?_
     · walk_at "side")
  | exact DL.rd_pow ⟨by decide, by decide, by decide⟩
  | exact DL.rd_mod (by show (_ : Int) ≠ _; first | decide | assumption)
  | exact DL.rd_ix_T rfl
  | exact DL.rd_ix_L rfl
  | exact DL.rd_eqI
  | exact DL.rd_inC
  | exact DL.rd_niC
  | exact DL.rd_ix_S (by assumption) (by assumption)
  | exact DL.rd_neI
  | exact DL.rd_eqT
  | exact DL.rd_neT
  | exact DL.rd_eqB
  | exact DL.rd_I0b
  | (refine DL.rd_addS ?_
     · walk_at "side")
  | (refine DL.rd_addT ?_
     · walk_at "side")
  | (refine DL.rd_fdiv ?_ ?_
     · walk_at "side"
     · walk_at "side")
  | (refine DL.rd_mod ?_
     · walk_at "side")
  | assumption)
local macro_rules | `(tactic| walk_at "rc") => `(tactic| first
  | exact DL.rc_gcd
  | exact DL.rc_abs
  | exact DL.rc_max2
  | exact DL.rc_intV
  | exact DL.rc_intB
  | exact DL.rc_len_t
  | exact DL.rc_list_l
  | exact DL.rc_list_t
  | exact DL.rc_tup_l
  | exact DL.rc_len_l
  | (apply DL.rc_len_s
     · walk_at "side")
  | (apply DL.rc_str
     · walk_at "side")
  | assumption)
local macro_rules | `(tactic| walk_at "call") => `(tactic| first
  | exact ⟨_, rfl, by assumption, rfl⟩
  | exact ⟨_, rfl, rfl⟩
  | exact ⟨_, _, rfl, rfl⟩
  | assumption
  | fail "call: no contract")
local macro_rules | `(tactic| walk_at "ep") => `(tactic| first
  | with_reducible exact DL.ep_no
  | (with_reducible apply DL.ep_some
     · walk_at "ev"))
local macro_rules | `(tactic| walk_at "ev") => `(tactic| first
  | assumption
  | (with_reducible apply DL.ev_var
     · rfl)
  | with_reducible exact DL.ev_int
  | with_reducible exact DL.ev_str
  | with_reducible exact DL.ev_bl
  | with_reducible exact DL.ev_non
  | with_reducible exact DL.ea_nil
  | exact DL.ev_glob (by assumption)
  | (with_reducible apply DL.ev_op
     · walk_at "ev"
     · walk_at "ev"
     · walk_at "rd")
  | (with_reducible apply DL.ea_cons
     · walk_at "ev"
     · walk_at "ev")
  | (with_reducible apply DL.ev_sl
     · walk_at "ev"
     · walk_at "ep"
     · walk_at "ep"
     · first | exact DL.rs_s (by assumption) | exact DL.rs_l | exact DL.rs_t)
  | (with_reducible apply DL.ev_un
     · walk_at "ev"
     · with_reducible exact DL.ru_neg)
  | (with_reducible apply DL.ev_isiE
     · walk_at "ev"
     · first | rfl | assumption
     · first | rfl | assumption
     · rfl)
  | (with_reducible apply DL.ev_tupH
     · walk_at "ev"
     · walk_at "side")
  | (with_reducible apply DL.ev_lstH
     · walk_at "ev"
     · walk_at "side")
  | (with_reducible apply DL.ev_cb
     · walk_at "ev"
     · walk_at "rc")
  | (with_reducible apply DL.et_test
     · walk_at "ev")
  | (with_reducible apply DL.et_B
     · walk_at "ev")
  | (with_reducible apply DL.et_not
     · walk_at "ev")
  | (with_reducible apply DL.et_and
     · walk_at "ev"
     · (intro _; walk_at "ev"))
  | (with_reducible apply DL.et_or
     · walk_at "ev"
     · (intro _; walk_at "ev"))
  | (with_reducible apply DL.ev_xf
     · rfl
     · rfl)
  | (with_reducible apply DL.ev_chain
     · walk_at "ev"
     · walk_at "ev"
     · walk_at "rd"
     · (intro _; walk_at "ev")
     · (intro _; walk_at "rd"))
  | (with_reducible apply DL.ev_fld
     · walk_at "ev"
     · assumption
     · assumption
     · rfl)
  | (with_reducible apply DL.ev_isN
     · walk_at "ev")
  | (with_reducible apply DL.ev_notN
     · walk_at "ev")
  | (with_reducible apply DL.ev_andV
     · walk_at "ev"
     · (intro _; walk_at "ev"))
  | (with_reducible apply DL.ev_orV
     · walk_at "ev"
     · (intro _; walk_at "ev"))
  | (with_reducible apply DL.ev_notV
     · walk_at "ev")
  | (with_reducible apply DL.ev_callE
     · walk_at "ev"
     · walk_at "call"
     · rfl)
  | (with_reducible apply DL.ev_callSE
     · walk_at "ev"
     · walk_at "call"
     · rfl))
local macro_rules | `(tactic| walk_at "less") => `(tactic| (
  (try simp only [List.set_cons_zero, List.set_cons_succ])
  repeat (first | exact DL.less_nil | apply DL.less_same | apply DL.less_no)))
local macro_rules | `(tactic| walk_at "nat") => `(tactic| first
  | assumption
  | (with_reducible apply DL.ev_var
     · rfl)
  | exact DL.ev_int
  | (apply DL.en_ix
     · walk_at "nat"
     · walk_at "nat"
     · omega)
  | (apply DL.en_add
     · walk_at "nat"
     · walk_at "nat")
  | (apply DL.en_mod
     · walk_at "nat"
     · walk_at "nat"
     · omega)
  | (apply DL.en_div
     · walk_at "nat"
     · walk_at "nat"
     · omega
     · omega)
  | (apply DL.en_mul
     · walk_at "nat"
     · walk_at "nat"
     · first | decide | omega
     · first | decide | omega))

set_option Elab.async false
set_option linter.all false
set_option maxRecDepth 100000
set_option maxHeartbeats 4000000
set_option exponentiation.threshold 10000
/-! K74B: names, rounds -/
namespace K74
open PySem PySem.Spec PyProof.Rows L2 DL
section
variable {P : Program} {w : World} {K : PySem.W.Frag} {mg : Str → Option Value} {base : Heap} {Z0 Z1 CB CM CK CT CX1 : Addr}

abbrev s_is_name : Stmt := topS 26
theorem sc_is_name : FnScope ["word", "sign"] ["word"] (defScope s_is_name) := ⟨rfl, rfl, rfl, by decide +kernel, rfl, by decide +kernel, by decide +kernel⟩
def R_is_name (ds : List PyData) (r : Res PyData) : Prop := ∃ z : Str, ds = [.str z] ∧ NmOk z ∧ r = .ok (.bool true)
theorem len_is_name : ∀ ds r, R_is_name ds r → ds.length = (["word"] : List Str).length := by
  rintro _ _ ⟨_, rfl, _⟩; rfl
theorem ok_is_name (T : Tx K mg Z0 Z1) (D : DefAt K mg "is_name" s_is_name [])  : CalX P w K mg base CX0 1 "is_name" [] R_is_name := by
  refine okN D (bind0 (fun _ _ _ _ _ _ us hl => match us, hl with | [_], _ => rfl)) sc_is_name len_is_name fun f cdv A outer s H Ex hr => ⟨_, (pss_cons (ps_if (PW.pt (pw_or (pt_not (pt_val (pe_callB call_isi (by rfl) T.n_isinstance (by decide +kernel) (pa_cons (pv 0) (pa_cons (pe_bltn (v := .ty "str") (u := .type "str") (by rfl) T.n_str (by decide +kernel) rfl) pa_nil))))) (pw_or1 (pt_not (pt_chain op_le op_le pe_int (pe_callB call_len (by rfl) T.n_len (by decide +kernel) (pa_cons (pv 0) pa_nil)) (pe_cI T.c_MOST_SIGNS)))))) (pss_one (ps_ret pe_bl)) pss_nil)
    (pss_cons (ps_for PassesOwn.never rfl (pi_str (pv 0)) (pg_name (i := 1) sc_is_name.nd rfl (by first | exact Or.inl rfl | exact Or.inr rfl)) (pss_one (ps_if (pt_cmpR op_notIn_sign (pv 1) (pe_cS T.c_SIGNS) (by rfl)) (pss_one (ps_ret pe_bl)) pss_nil)))
    (pss_one (ps_ret (pe_cmpR op_in_sign (pe_ix ix_seq (pv 0) pe_int (fun _ _ => rfl)) (pe_cS T.c_LETTERS) (by rfl)))))), ?_⟩

  rintro ds r ⟨z, rfl, h, rfl⟩
  have h1 := h.l1
  have h2 := h.l2
  obtain ⟨c, l, hc, hl⟩ := h.hd
  have hs : z.length ≤ sizeLine := by rw [sizeLine_eq]; omega
  have he : atI z.cps.toList 0 = some c := by rw [hc]; exact atI_zero
  refine en_seq (rn_ifF' (by walk_at "ev") (by simp; omega) rn_next) ?_
  refine en_seq (rn_none (js := [1]) (src_str (W := fun _ _ _ _ => False) (by walk_at "ev")) (fun i d hd => ?_)) (en_rt (rn_ret (by walk_at "ev")) (okB (decide_eq_true hl)))
  obtain ⟨c', q1, rfl⟩ := signs_get hd
  exact ⟨_, _, as_name, rn_ifF' (by walk_at "ev") (by rw [decide_eq_true (h.sg c' (List.mem_of_getElem? q1))]; rfl) rn_next, by walk_at "less"⟩
abbrev s_checked_rounds : Stmt := topS 27
theorem sc_checked_rounds : FnScope ["rounds", "seen", "at", "name", "names"] ["rounds"] (defScope s_checked_rounds) := ⟨rfl, rfl, rfl, by decide +kernel, rfl, by decide +kernel, by decide +kernel⟩
def R_checked_rounds (ds : List PyData) (r : Res PyData) : Prop := ∃ (fo : List PyData → PyData) (rs : List (List Str)), (fo = PyData.list ∨ fo = PyData.tuple) ∧ ds = [fo (rs.map rndD)] ∧ RndOk rs ∧ r = .ok (.tuple (rs.map rndD))
def rpK (at_ : Nat) (ns : List Str) : List (Key × PyData) := ns.map fun n => (.inr n, .int (at_ : Int))
def seenK (rs : List (List Str)) : Nat → List (Key × PyData)
  | 0 => []
  | i + 1 => seenK rs i ++ rpK i (rs.getD i [])
theorem seenK_mem (rs : List (List Str)) (z : Str) : ∀ i, i ≤ rs.length → ((seenK rs i).any fun p => decide (p.1 = (.inr z : Key))) = decide (z ∈ (rs.take i).flatten)
  | 0, _ => by simp [seenK]
  | i + 1, h => by
    rw [seenK, List.any_append, seenK_mem rs z i (by omega), List.take_add_one, List.flatten_append]
    have e : rs[i]? = some (rs.getD i []) := by rw [DL.getD_at (by omega), List.getElem?_eq_getElem (by omega)]
    rw [e]
    have q : ((rpK i (rs.getD i [])).any fun p => decide (p.1 = (.inr z : Key))) = decide (z ∈ rs.getD i []) := by
      unfold rpK
      rw [List.any_map]
      generalize rs.getD i [] = l
      induction l with
      | nil => simp
      | cons a r ih =>
        rw [List.any_cons, ih]
        have : decide (((.inr a : Key), PyData.int (i : Int)).1 = (.inr z : Key)) = decide (a = z) := by simp
        by_cases c : a = z
        · subst c; simp
        · simp [c, Ne.symm c]
    rw [q]
    simp
theorem len_checked_rounds : ∀ ds r, R_checked_rounds ds r → ds.length = (["rounds"] : List Str).length := by
  rintro _ _ ⟨_, _, _, rfl, _⟩; rfl
theorem ok_checked_rounds (T : Tx K mg Z0 Z1) (D : DefAt K mg "checked_rounds" s_checked_rounds []) (c_is_name : CalX P w K mg base CX0 1 "is_name" [] R_is_name) (e_BadTask : Err2 P w K mg base "BadTask" CK "word" "place") (e_TooMany : Err2 P w K mg base "TooMany" CM "word" "limit") : CalX P w K mg base (L2N.CX P w) 2 "checked_rounds" [] R_checked_rounds := by
  refine okR D (bind0 (fun _ _ _ _ _ _ us hl => match us, hl with | [_], _ => rfl)) sc_checked_rounds len_checked_rounds fun f cdv A outer s H Ex hr => ⟨_, (pss_cons (ps_if (pt_cmpR (op_eqU (hu64 hr)) (pe_callB call_len (by rfl) T.n_len (by decide +kernel) (pa_cons (pv 0) pa_nil)) pe_int (nomark _)) (pss_one (L2N.ps_raise rfl (L2N.takes_of rfl rfl rfl rfl) (pmk_e2 e_BadTask hr (by decide) (pa_cons pe_str (pa_cons pe_int pa_nil))))) pss_nil)
    (pss_cons (ps_if (pt_cmpR op_gt (pe_callB call_len (by rfl) T.n_len (by decide +kernel) (pa_cons (pv 0) pa_nil)) (pe_cI T.c_MOST_ROUNDS) (nomark _)) (pss_one (L2N.ps_raise rfl (L2N.takes_of rfl rfl rfl rfl) (pmk_e2 e_TooMany hr (by decide) (pa_cons pe_str (pa_cons (pe_cI T.c_MOST_ROUNDS) pa_nil))))) pss_nil)
    (pss_cons (ps_set (i := 1) sc_checked_rounds.nd rfl (by first | exact Or.inl rfl | exact Or.inr rfl) pe_dnewK)
    (pss_cons (ps_for (passes_of rfl) rfl (pi_range1 rfl T.n_range (pa_cons (pe_callB call_len (by rfl) T.n_len (by decide +kernel) (pa_cons (pv 0) pa_nil)) pa_nil)) (pg_name (i := 2) sc_checked_rounds.nd rfl (by first | exact Or.inl rfl | exact Or.inr rfl)) (pss_cons (ps_if (pt_cmpR op_gt (pe_callB call_len (by rfl) T.n_len (by decide +kernel) (pa_cons (pe_ix ix_seq (pv 0) (pv 2) (fun _ _ => rfl)) pa_nil)) (pe_cI T.c_MOST_VARIABLES) (nomark _)) (pss_one (L2N.ps_raise rfl (L2N.takes_of rfl rfl rfl rfl) (pmk_e2 e_TooMany hr (by decide) (pa_cons pe_str (pa_cons (pe_cI T.c_MOST_VARIABLES) pa_nil))))) pss_nil)
    (pss_one (ps_for (passes_of rfl) rfl (pi_seq (K := K) rfl (pe_ix ix_seq (pv 0) (pv 2) (fun _ _ => rfl))) (pg_name (i := 3) sc_checked_rounds.nd rfl (by first | exact Or.inl rfl | exact Or.inr rfl)) (pss_cons (ps_if (PW.pt (pw_or (pt_not (pt_val (pe_cal c_is_name hr (by decide) (fun σ => p0At σ) (pa_cons (pv 3) pa_nil)))) (pw_or1 (pt_cmp (pc_din (hu1 hr) (pv 3) (pv 1)) rfl)))) (pss_one (L2N.ps_raise rfl (L2N.takes_of rfl rfl rfl rfl) (pmk_e2 e_BadTask hr (by decide) (pa_cons pe_str (pa_cons (pv 2) pa_nil))))) pss_nil)
    (pss_one (ps_dput (hu1 hr) (pv 1) (pv 3) (pv 2) (by rfl))))))))
    (pss_one (ps_ret (pe_callTy call_tuple_of (by rfl) T.n_tuple (by decide +kernel) (pa_cons (pe_lc (own := [("names", 4)]) rfl sc_checked_rounds.nd (pi_seq (K := K) rfl (pv 0)) (blkOk_by (by show blkC ["rounds", "seen", "at", "name", "names"] (defScope s_checked_rounds) _ [("names", 4)] = true; decide +kernel)) (fun _ _ _ _ _ => (pg_name (i := 4) sc_checked_rounds.nd rfl (by first | exact Or.inl rfl | exact Or.inr rfl))) (fun _ _ _ _ _ => pts_nil) (fun _ _ _ _ _ => (pe_callTy (call_tuple_ofK (K := K) rfl) (by rfl) T.n_tuple (by decide +kernel) (pa_cons (pv 4) pa_nil)))) pa_nil)))))))), ?_⟩

  rintro ds r ⟨fo, rs, hF, rfl, h, rfl⟩
  have k1 := h.l1
  have k2 := h.l2
  have tot : ∀ i, i ≤ rs.length → (seenK rs i).length ≤ 3 * i := by
    intro i
    induction i with
    | zero => intro _; exact Nat.le_refl _
    | succ i ih =>
      intro hi
      have a := ih (by omega)
      have b := h.few (rs.getD i []) (by rw [DL.getD_at (by omega)]; exact List.getElem_mem _)
      rw [seenK, List.length_append]
      unfold rpK
      rw [List.length_map]; omega
  have ln : RC K (fun xs H Q => ∃ x n, xs = [x] ∧ LenV K x H n ∧ Q (.int n) H) [fo (rs.map rndD)] (.int (rs.length : Nat)) := by
    rcases hF with rfl | rfl
    · have := rc_len_l (K := K) (l := rs.map rndD)
      rwa [List.length_map] at this
    · have := rc_len_t (K := K) (l := rs.map rndD)
      rwa [List.length_map] at this
  have at_ : ∀ i : Nat, i < rs.length → atI (rs.map rndD) (i : Int) = some (rndD (rs.getD i [])) := fun i hi => by
    rw [at_nat, List.getElem?_map, DL.getD_at hi, List.getElem?_eq_getElem hi]; rfl
  have ix : ∀ i : Nat, i < rs.length → RD K (rIx K) (fo (rs.map rndD)) (.int (i : Int)) (rndD (rs.getD i [])) := fun i hi => by
    rcases hF with rfl | rfl
    · exact rd_ix_L (at_ i hi)
    · exact rd_ix_T (at_ i hi)
  have src : ∀ {W : WX} {δ : Dn} {te : TE}, EvD K W te δ (.ok (fo (rs.map rndD))) → SrcD K (iSeq K te) δ (rs.map rndD) := fun he => by
    rcases hF with rfl | rfl
    · exact src_sl he
    · exact src_st he
  refine en_seq (rn_ifF' (et_test (ev_op (ev_cb (by walk_at "ev") ln) ev_int rd_eqI)) (by exact decide_eq_false (by omega)) rn_next) ?_
  refine en_seq (rn_ifF' (et_test (ev_op (ev_cb (by walk_at "ev") ln) (by walk_at "ev") rd_I0b)) (by exact decide_eq_false (by omega)) rn_next) ?_
  refine en_seq rn_asgK ?_
  refine en_seq (rn_loop (js := [2]) (δ' := [.val (fo (rs.map rndD)), .gen (ownK (mergeD [] (seenK rs rs.length))), .no, .no, .no]) (fun i => [.val (fo (rs.map rndD)), .gen (ownK (mergeD [] (seenK rs i))), .no, .no, .no]) rfl (src_rng1 (W := fun _ _ _ _ => False) (j := (rs.length : Int)) (ea_cons (ev_cb (by walk_at "ev") ln) ea_nil) (by omega) (by omega)) (fun i d _ hd => ?_) (by rw [iota_len]; rfl)) ?_
  · obtain ⟨hi, rfl⟩ := iota_at hd
    have hi : i < rs.length := by simpa using hi
    have ixi := ix i hi
    have hm : rs.getD i [] ∈ rs := by rw [DL.getD_at hi]; exact List.getElem_mem _
    have few := h.few _ hm
    have lr : RC K (fun xs H Q => ∃ x n, xs = [x] ∧ LenV K x H n ∧ Q (.int n) H) [rndD (rs.getD i [])] (.int ((rs.getD i []).length : Nat)) := by
      have := rc_len_t (K := K) (l := (rs.getD i []).map PyData.str)
      rwa [List.length_map] at this
    refine ⟨_, _, as_name, rn_seq (rn_ifF' (et_test (ev_op (ev_cb (ea_cons (ev_op (by walk_at "ev") (by walk_at "ev") ixi) ea_nil) lr) (by walk_at "ev") rd_I0b)) (by exact decide_eq_false (by omega)) rn_next) (rn_loop (js := [3]) (δ' := [.val (fo (rs.map rndD)), .gen (ownK (mergeD [] (seenK rs (i + 1)))), .val (.int (i : Int)), .no, .no]) (fun j => [.val (fo (rs.map rndD)), .gen (ownK (mergeD [] (seenK rs i ++ rpK i ((rs.getD i []).take j)))), .val (.int (i : Int)), .no, .no]) (by rw [List.take_zero]; unfold rpK; rw [List.map_nil, List.append_nil]; rfl) (src_st (W := fun _ _ _ _ => False) (l := (rs.getD i []).map PyData.str) (ev_op (by walk_at "ev") (by walk_at "ev") ixi)) (fun j d hj hd => ?_) (by rw [List.length_map, List.take_length]; rfl)), by walk_at "less"⟩
    rw [List.getElem?_map] at hd
    cases hz : (rs.getD i [])[j]? with
    | none => rw [hz] at hd; cases hd
    | some z =>
      rw [hz] at hd
      cases hd
      have zm := List.mem_of_getElem? hz
      have rn : R_is_name [.str z] (.ok (.bool true)) := ⟨z, rfl, h.nm _ hm z zm, rfl⟩
      have jl := (List.getElem?_eq_some_iff.mp hz).1
      have nw : (valD (mergeD [] (seenK rs i ++ rpK i ((rs.getD i []).take j))) (.inr z)).isSome = false := by
        rw [mergeD_some]
        rw [List.any_append, seenK_mem rs z i (by omega)]
        have nd := h.nd
        have sp : rs = rs.take i ++ (rs.getD i [] :: rs.drop (i + 1)) := by
          rw [DL.getD_at hi, ← List.drop_eq_getElem_cons hi, List.take_append_drop]
        have s1 : z ∉ (rs.take i).flatten := fun hmem => by
          rw [sp, List.flatten_append, List.flatten_cons] at nd
          have := (List.nodup_append.mp nd).2.2 z hmem z (List.mem_append_left _ zm)
          exact this rfl
        have nd2 : (rs.getD i []).Nodup := by
          rw [sp, List.flatten_append, List.flatten_cons] at nd
          exact (List.nodup_append.mp (List.nodup_append.mp nd).2.1).1
        have s2 : z ∉ (rs.getD i []).take j := fun hmem => by
          have e : rs.getD i [] = (rs.getD i []).take j ++ (z :: (rs.getD i []).drop (j + 1)) := by
            have := (List.getElem?_eq_some_iff.mp hz).2
            rw [← this, ← List.drop_eq_getElem_cons jl, List.take_append_drop]
          rw [e] at nd2
          exact (List.nodup_append.mp nd2).2.2 z hmem z List.mem_cons_self rfl
        have s3 : ((rpK i ((rs.getD i []).take j)).any fun p => decide (p.1 = (.inr z : Key))) = false := by
          unfold rpK
          rw [List.any_map, List.any_eq_false]
          intro y hy
          simp
          rintro rfl
          exact s2 hy
        rw [decide_eq_false s1, s3]; rfl
      have cnt : (mergeD [] (seenK rs i ++ rpK i ((rs.getD i []).take j))).length < sizeLine := by
        have a := mergeD_len (seenK rs i ++ rpK i ((rs.getD i []).take j)) []
        have b := tot i (by omega)
        have c : (rpK i ((rs.getD i []).take j)).length ≤ 3 := by
          unfold rpK
          rw [List.length_map, List.length_take]; omega
        rw [List.length_append, List.length_nil] at a
        rw [sizeLine_eq]; omega
      refine ⟨_, _, as_name, rn_seq (rn_ifF' (et_or (et_not (et_B (ev_callWE (by walk_at "ev") rn rfl))) fun _ => et_test (ev_dinO (k := .inr z) rfl (by walk_at "ev"))) (by rw [nw]; rfl) rn_next) (rn_dput (k := .inr z) (i := 1) rfl (by walk_at "ev") (by walk_at "ev") cnt), ?_⟩
      have e : putD (mergeD [] (seenK rs i ++ rpK i ((rs.getD i []).take j))) (.inr z) (.int (i : Int)) = mergeD [] (seenK rs i ++ rpK i ((rs.getD i []).take (j + 1))) := by
        rw [List.take_add_one, hz]
        unfold rpK
        rw [List.map_append, ← List.append_assoc, mergeD_app [] (seenK rs i ++ _)]; rfl
      rw [e]
      walk_at "less"
  · refine en_rt (rn_ret (ev_cb (ea_cons (ev_lcM (W' := fun _ _ _ _ => False) (js := [4]) (fun d => d) (src (W := fun _ _ _ _ => False) (by walk_at "ev")) (by intro j hj; exact hj) (by rw [List.length_map, sizeLine_eq]; omega) (fun i d hd => ?_)) ea_nil) rc_tup_l)) (by rw [List.map_id'])
    rw [List.getElem?_map] at hd
    cases hz : rs[i]? with
    | none => rw [hz] at hd; cases hd
    | some z =>
      rw [hz] at hd
      cases hd
      exact ⟨_, as_name, ev_cb (by walk_at "ev") rc_tup_t⟩
end
end K74
end
section
/-! ### the reading tactics -/
local macro_rules | `(tactic| walk_at "sz") => `(tactic| first
  | assumption
  | (apply DL.Sz.neg
     · walk_at "sz")
  | (apply DL.Sz.mul
     · walk_at "sz"
     · walk_at "sz")
  | (apply DL.Sz.add
     · walk_at "sz"
     · walk_at "sz")
  | (apply DL.Sz.sub
     · walk_at "sz"
     · walk_at "sz")
  | (apply DL.Sz.fmod
     · decide
     · walk_at "sz")
  | exact DL.Sz.self)
local macro_rules | `(tactic| walk_at "side") => `(tactic| first
  | assumption
  | (apply DL.cmulW_of
     · walk_at "sz"
     · walk_at "sz"
     · first | decide +kernel | omega)
  | rfl
  | decide
  | omega
  | (simp only [List.length_cons, List.length_nil]; decide)
  | (simp; done)
  | (simp only [PySem.sizeLine_eq, List.length_cons, List.length_nil]; omega))
local macro_rules | `(tactic| walk_at "rd") => `(tactic| first
  | exact DL.rd_addI
  | exact DL.rd_sub
  | exact DL.rd_mulL (by decide) (by decide)
  | exact DL.rd_mulR (by decide) (by decide)
  | (refine DL.rd_mulI ?_
     · walk_at "side")
  | exact DL.rd_pow ⟨by decide, by decide, by decide⟩
  | exact DL.rd_mod (by show (_ : Int) ≠ _; first | decide | assumption)
  | exact DL.rd_ix_T rfl
  | exact DL.rd_ix_L rfl
  | exact DL.rd_eqI
  | exact DL.rd_inC
  | exact DL.rd_niC
  | exact DL.rd_ix_S (by assumption) (by assumption)
  | exact DL.rd_neI
  | exact DL.rd_eqT
  | exact DL.rd_neT
  | exact DL.rd_eqB
  | exact DL.rd_I0b
  | (refine DL.rd_addS ?_
     · walk_at "side")
  | (refine DL.rd_addT ?_
     · walk_at "side")
  | (refine DL.rd_fdiv ?_ ?_
     · walk_at "side"
     · walk_at "side")
  | (refine DL.rd_mod ?_
     · walk_at "side")
  | assumption)
local macro_rules | `(tactic| walk_at "rc") => `(tactic| first
  | exact DL.rc_gcd
  | exact DL.rc_abs
  | exact DL.rc_max2
  | exact DL.rc_intV
  | exact DL.rc_intB
  | exact DL.rc_len_t
  | exact DL.rc_list_l
  | exact DL.rc_list_t
  | exact DL.rc_tup_l
  | exact DL.rc_len_l
  | (apply DL.rc_len_s
     · walk_at "side")
  | (apply DL.rc_str
     · walk_at "side")
  | assumption)
local macro_rules | `(tactic| walk_at "call") => `(tactic| first
  | exact ⟨_, rfl, by assumption, rfl⟩
  | exact ⟨_, rfl, rfl⟩
  | exact ⟨_, _, rfl, rfl⟩
  | assumption
  | fail "call: no contract")
local macro_rules | `(tactic| walk_at "ep") => `(tactic| first
  | with_reducible exact DL.ep_no
  | (with_reducible apply DL.ep_some
     · walk_at "ev"))
local macro_rules | `(tactic| walk_at "ev") => `(tactic| first
  | assumption
  | (with_reducible apply DL.ev_var
     · rfl)
  | with_reducible exact DL.ev_int
  | with_reducible exact DL.ev_str
  | with_reducible exact DL.ev_bl
  | with_reducible exact DL.ev_non
  | with_reducible exact DL.ea_nil
  | exact DL.ev_glob (by assumption)
  | (with_reducible apply DL.ev_op
     · walk_at "ev"
     · walk_at "ev"
     · walk_at "rd")
  | (with_reducible apply DL.ea_cons
     · walk_at "ev"
     · walk_at "ev")
  | (with_reducible apply DL.ev_sl
     · walk_at "ev"
     · walk_at "ep"
     · walk_at "ep"
     · first | exact DL.rs_s (by assumption) | exact DL.rs_l | exact DL.rs_t)
  | (with_reducible apply DL.ev_un
     · walk_at "ev"
     · with_reducible exact DL.ru_neg)
  | (with_reducible apply DL.ev_isiE
     · walk_at "ev"
     · first | rfl | assumption
     · first | rfl | assumption
     · rfl)
  | (with_reducible apply DL.ev_tupH
     · walk_at "ev"
     · walk_at "side")
  | (with_reducible apply DL.ev_lstH
     · walk_at "ev"
     · walk_at "side")
  | (with_reducible apply DL.ev_cb
     · walk_at "ev"
     · walk_at "rc")
  | (with_reducible apply DL.et_test
     · walk_at "ev")
  | (with_reducible apply DL.et_B
     · walk_at "ev")
  | (with_reducible apply DL.et_not
     · walk_at "ev")
  | (with_reducible apply DL.et_and
     · walk_at "ev"
     · (intro _; walk_at "ev"))
  | (with_reducible apply DL.et_or
     · walk_at "ev"
     · (intro _; walk_at "ev"))
  | (with_reducible apply DL.ev_xf
     · rfl
     · rfl)
  | (with_reducible apply DL.ev_chain
     · walk_at "ev"
     · walk_at "ev"
     · walk_at "rd"
     · (intro _; walk_at "ev")
     · (intro _; walk_at "rd"))
  | (with_reducible apply DL.ev_fld
     · walk_at "ev"
     · assumption
     · assumption
     · rfl)
  | (with_reducible apply DL.ev_isN
     · walk_at "ev")
  | (with_reducible apply DL.ev_notN
     · walk_at "ev")
  | (with_reducible apply DL.ev_andV
     · walk_at "ev"
     · (intro _; walk_at "ev"))
  | (with_reducible apply DL.ev_orV
     · walk_at "ev"
     · (intro _; walk_at "ev"))
  | (with_reducible apply DL.ev_notV
     · walk_at "ev")
  | (with_reducible apply DL.ev_callE
     · walk_at "ev"
     · walk_at "call"
     · rfl)
  | (with_reducible apply DL.ev_callSE
     · walk_at "ev"
     · walk_at "call"
     · rfl))
local macro_rules | `(tactic| walk_at "less") => `(tactic| (
  (try simp only [List.set_cons_zero, List.set_cons_succ])
  repeat (first | exact DL.less_nil | apply DL.less_same | apply DL.less_no)))
local macro_rules | `(tactic| walk_at "nat") => `(tactic| first
  | assumption
  | (with_reducible apply DL.ev_var
     · rfl)
  | exact DL.ev_int
  | (apply DL.en_ix
     · walk_at "nat"
     · walk_at "nat"
     · omega)
  | (apply DL.en_add
     · walk_at "nat"
     · walk_at "nat")
  | (apply DL.en_mod
     · walk_at "nat"
     · walk_at "nat"
     · omega)
  | (apply DL.en_div
     · walk_at "nat"
     · walk_at "nat"
     · omega
     · omega)
  | (apply DL.en_mul
     · walk_at "nat"
     · walk_at "nat"
     · first | decide | omega
     · first | decide | omega))

set_option Elab.async false
set_option linter.all false
set_option maxRecDepth 100000
set_option maxHeartbeats 4000000
set_option exponentiation.threshold 10000
/-! K74C: depths, rows -/
namespace K74
open PySem PySem.Spec PyProof.Rows L2 DL
section
variable {P : Program} {w : World} {K : PySem.W.Frag} {mg : Str → Option Value} {base : Heap} {Z0 Z1 CB CM CK CT CX1 : Addr}

abbrev s_checked_depth : Stmt := topS 28
theorem sc_checked_depth : FnScope ["at", "parent", "depths", "last"] ["at", "parent", "depths", "last"] (defScope s_checked_depth) := ⟨rfl, rfl, rfl, by decide +kernel, rfl, by decide +kernel, by decide +kernel⟩
def R_checked_depth (ds : List PyData) (r : Res PyData) : Prop := ∃ (fo : List PyData → PyData) (at_ : Nat) (par : Option Nat) (deps : List Nat) (last : Nat), (fo = PyData.list ∨ fo = PyData.tuple) ∧ ds = [.int (at_ : Int), parD par, fo (deps.map fun n : Nat => PyData.int (n : Int)), .int (last : Int)] ∧
  ((at_ = 0 ∧ par = none) ∨ ∃ p, 0 < at_ ∧ par = some p ∧ p < at_ ∧ p < deps.length ∧ deps.getD p 0 ≠ last) ∧ r = .ok (.int ((match par with
    | none => 0
    | some p => deps.getD p 0 + 1 : Nat) : Int))
theorem len_checked_depth : ∀ ds r, R_checked_depth ds r → ds.length = (["at", "parent", "depths", "last"] : List Str).length := by
  rintro _ _ ⟨_, _, _, _, _, _, rfl, _⟩; rfl
theorem ok_checked_depth (T : Tx K mg Z0 Z1) (D : DefAt K mg "checked_depth" s_checked_depth []) (c_is_whole : CalX P w K mg base CX0 1 "is_whole" [] (R1 fun d => .bool (isWh d))) (e_BadTask : Err2 P w K mg base "BadTask" CK "word" "place") : CalX P w K mg base (L2N.CX P w) 2 "checked_depth" [] R_checked_depth := by
  refine okR D (bind0 (fun _ _ _ _ _ _ us hl => match us, hl with | [_, _, _, _], _ => rfl)) sc_checked_depth len_checked_depth fun f cdv A outer s H Ex hr => ⟨_, (pss_cons (ps_if (pt_cmpR (op_eqU (hu64 hr)) (pv 0) pe_int (nomark _)) (pss_cons (ps_if (pt_cmp (pc_notN (pv 1)) rfl) (pss_one (L2N.ps_raise rfl (L2N.takes_of rfl rfl rfl rfl) (pmk_e2 e_BadTask hr (by decide) (pa_cons pe_str (pa_cons (pv 0) pa_nil))))) pss_nil)
    (pss_one (ps_ret pe_int))) pss_nil)
    (pss_cons (ps_if (PW.pt (pw_or (pt_not (pt_val (pe_cal c_is_whole hr (by decide) (fun σ => p0At σ) (pa_cons (pv 1) pa_nil)))) (pw_or (pt_not (pt_chain op_le op_lt pe_int (pv 1) (pv 0))) (pw_or1 (pt_cmpR (op_eqU (hu64 hr)) (pe_ix ix_seq (pv 2) (pv 1) (fun _ _ => rfl)) (pv 3) (nomark _)))))) (pss_one (L2N.ps_raise rfl (L2N.takes_of rfl rfl rfl rfl) (pmk_e2 e_BadTask hr (by decide) (pa_cons pe_str (pa_cons (pv 0) pa_nil))))) pss_nil)
    (pss_one (ps_ret (pe_op op_addU (pe_ix ix_seq (pv 2) (pv 1) (fun _ _ => rfl)) pe_int))))), ?_⟩

  rintro ds r ⟨fo, at_, par, deps, last, hF, rfl, hc, rfl⟩
  rcases hc with ⟨rfl, rfl⟩ | ⟨p, h1, rfl, h2, h3, h4⟩
  · exact en_R (rn_ifT' (by walk_at "ev") (by rfl) (rn_seq (rn_ifF' (by first | exact et_test (ev_notN (ev_var rfl)) | exact et_B (ev_notN (ev_var rfl))) (by rfl) rn_next) (rn_ret (by walk_at "ev")))) (by rfl)
  · have ix : RD K (rIx K) (fo (deps.map fun n : Nat => PyData.int (n : Int))) (.int (p : Int)) (.int ((deps.getD p 0 : Nat) : Int)) := by
      have e : atI (deps.map fun n : Nat => PyData.int (n : Int)) (p : Int) = some (.int ((deps.getD p 0 : Nat) : Int)) := by
        rw [at_nat, List.getElem?_map, DL.getD_at h3, List.getElem?_eq_getElem h3]; rfl
      rcases hF with rfl | rfl
      · exact rd_ix_L e
      · exact rd_ix_T e
    have w1 : R1 (fun d => .bool (isWh d)) [parD (some p)] (.ok (.bool true)) := ⟨_, rfl, rfl, rfl⟩
    refine en_seq (rn_ifF' (by walk_at "ev") (by exact decide_eq_false (by omega)) rn_next) ?_
    refine en_seq (rn_ifF' (et_or (et_not (et_B (ev_callWE (by walk_at "ev") w1 rfl))) fun _ => et_or (et_not (et_test (ev_chain (x := .int 0) (y := .int (p : Int)) (z := .int (at_ : Int)) ev_int (ev_var rfl) rd_I0b (fun _ => ev_var rfl) fun _ => rd_I0b))) fun _ => et_test (ev_op (ev_op (ev_var rfl) (ev_var rfl) ix) (ev_var rfl) rd_eqI)) ?_ rn_next) ?_
    · rw [decide_eq_true (show (0 : Int) ≤ (p : Int) by omega), decide_eq_true (show (p : Int) < (at_ : Int) by omega), decide_eq_false (show ¬ ((deps.getD p 0 : Nat) : Int) = (last : Int) by omega)]; rfl
    · exact en_rt (rn_ret (ev_op (ev_op (ev_var rfl) (ev_var rfl) ix) ev_int rd_addI)) rfl
abbrev s_checked_row : Stmt := topS 29
theorem sc_checked_row : FnScope ["row", "known", "terms", "bound", "seen", "name", "factor"] ["row", "known"] (defScope s_checked_row) := ⟨rfl, rfl, rfl, by decide +kernel, rfl, by decide +kernel, by decide +kernel⟩
def R_checked_row (ds : List PyData) (r : Res PyData) : Prop := ∃ (r0 : TRow) (kd : List (Key × PyData)) (known : List Str), ds = [rowD r0, dicD kd] ∧ RowOk known r0 ∧ (∀ z ∈ known, (valD kd (.inr z)).isSome = true) ∧ r = .ok (rowD r0)
def trmK (l : List (Str × Q2)) : List (Key × PyData) := l.map fun t => (.inr t.1, .bool true)
theorem len_checked_row : ∀ ds r, R_checked_row ds r → ds.length = (["row", "known"] : List Str).length := by
  rintro _ _ ⟨_, _, _, rfl, _⟩; rfl
theorem ok_checked_row (T : Tx K mg Z0 Z1) (D : DefAt K mg "checked_row" s_checked_row []) (c_is_ratio : CalX P w K mg base CX0 2 "is_ratio" [] (R1 fun d => .bool (isRt d))) : CalX P w K mg base CX0 3 "checked_row" [] R_checked_row := by
  refine okN D (bind0 (fun _ _ _ _ _ _ us hl => match us, hl with | [_, _], _ => rfl)) sc_checked_row len_checked_row fun f cdv A outer s H Ex hr => ⟨_, (pss_cons (ps_asg (pv 0) (pg_tup (n := 2) (by rfl) (pgs_cons (pg_name (i := 2) sc_checked_row.nd rfl (by first | exact Or.inl rfl | exact Or.inr rfl)) (pgs_cons (pg_name (i := 3) sc_checked_row.nd rfl (by first | exact Or.inl rfl | exact Or.inr rfl)) pgs_nil))))
    (pss_cons (ps_set (i := 4) sc_checked_row.nd rfl (by first | exact Or.inl rfl | exact Or.inr rfl) pe_dnewK)
    (pss_cons (ps_for PassesOwn.never rfl (pi_seq (K := K) rfl (pv 2)) (pg_tup (n := 2) (by rfl) (pgs_cons (pg_name (i := 5) sc_checked_row.nd rfl (by first | exact Or.inl rfl | exact Or.inr rfl)) (pgs_cons (pg_name (i := 6) sc_checked_row.nd rfl (by first | exact Or.inl rfl | exact Or.inr rfl)) pgs_nil))) (pss_cons (ps_if (PW.pt (pw_or (pt_cmp (pc_dnotin (hu1 hr) (pv 5) (pv 1)) rfl) (pw_or (pt_cmp (pc_din (hu1 hr) (pv 5) (pv 4)) rfl) (pw_or (pt_not (pt_val (pe_cal c_is_ratio hr (by decide) (fun σ => p0At σ) (pa_cons (pv 6) pa_nil)))) (pw_or1 (pt_cmpR (op_eqU (hu64 hr)) (pe_ix ix_seq (pv 6) pe_int (fun _ _ => rfl)) pe_int (nomark _))))))) (pss_one (ps_ret pe_non)) pss_nil)
    (pss_one (ps_dput (hu1 hr) (pv 4) (pv 5) pe_bl (by rfl)))))
    (pss_cons (ps_if (pt_not (pt_val (pe_cal c_is_ratio hr (by decide) (fun σ => p0At σ) (pa_cons (pv 3) pa_nil)))) (pss_one (ps_ret pe_non)) pss_nil)
    (pss_one (ps_ret (pe_tup (pa_cons (pe_callTy call_tuple_of (by rfl) T.n_tuple (by decide +kernel) (pa_cons (pe_lc (own := [("name", 5), ("factor", 6)]) rfl sc_checked_row.nd (pi_seq (K := K) rfl (pv 2)) (blkOk_by (by show blkC ["row", "known", "terms", "bound", "seen", "name", "factor"] (defScope s_checked_row) _ [("name", 5), ("factor", 6)] = true; decide +kernel)) (fun _ _ _ _ _ => (pg_tupK (K := K) (n := 2) (by rfl) (pgs_cons (pg_name (i := 5) sc_checked_row.nd rfl (by first | exact Or.inl rfl | exact Or.inr rfl)) (pgs_cons (pg_name (i := 6) sc_checked_row.nd rfl (by first | exact Or.inl rfl | exact Or.inr rfl)) pgs_nil)))) (fun _ _ _ _ _ => pts_nil) (fun _ _ _ _ _ => (pe_tup (pa_cons (pv 5) (pa_cons (pv 6) pa_nil))))) pa_nil)) (pa_cons (pv 3) pa_nil))))))))), ?_⟩

  rintro ds r ⟨r0, kd, known, rfl, h, hk, rfl⟩
  have few := h.few
  refine en_seq (rn_asgG (js := [2, 3]) (by walk_at "ev") (as_tup (as_cons as_name (as_cons as_name as_nil)) rfl)) ?_
  refine en_seq rn_asgK ?_
  refine en_seq (rn_loop (js := [5, 6]) (δ' := [.val (rowD r0), .val (dicD kd), .val (.tuple (r0.1.map termD)), .val (rat r0.2), .gen (ownK (mergeD [] (trmK r0.1))), .no, .no]) (fun i => [.val (rowD r0), .val (dicD kd), .val (.tuple (r0.1.map termD)), .val (rat r0.2), .gen (ownK (mergeD [] (trmK (r0.1.take i)))), .no, .no]) rfl (src_st (W := fun _ _ _ _ => False) (l := r0.1.map termD) (by walk_at "ev")) (fun i d hi hd => ?_) (by rw [List.length_map, List.take_length])) ?_
  · rw [List.getElem?_map] at hd
    cases hz : r0.1[i]? with
    | none => rw [hz] at hd; cases hd
    | some t =>
      rw [hz] at hd
      cases hd
      have tm := List.mem_of_getElem? hz
      have il := (List.getElem?_eq_some_iff.mp hz).1
      have nf := h.nf t tm
      have k1 := hk _ (h.kn t tm)
      have rt : R1 (fun d => .bool (isRt d)) [rat t.2] (.ok (.bool true)) := rt_ok nf.1
      have nw : (valD (mergeD [] (trmK (r0.1.take i))) (.inr t.1)).isSome = false := by
        rw [mergeD_some]
        have nd := h.nd
        have e : r0.1 = r0.1.take i ++ (t :: r0.1.drop (i + 1)) := by
          have := (List.getElem?_eq_some_iff.mp hz).2
          rw [← this, ← List.drop_eq_getElem_cons il, List.take_append_drop]
        have s3 : ((trmK (r0.1.take i)).any fun p => decide (p.1 = (.inr t.1 : Key))) = false := by
          unfold trmK
          rw [List.any_map, List.any_eq_false]
          intro y hy
          simp
          intro hyt
          rw [e, List.map_append, List.map_cons] at nd
          exact (List.nodup_append.mp nd).2.2 _ (List.mem_map_of_mem hy) _ List.mem_cons_self hyt
        rw [s3]; rfl
      have cnt : (mergeD [] (trmK (r0.1.take i))).length < sizeLine := by
        have a := mergeD_len (trmK (r0.1.take i)) []
        unfold trmK at a ⊢
        rw [List.length_map, List.length_take, List.length_nil] at a
        rw [sizeLine_eq]; omega
      have ix : RD K (rIx K) (rat t.2) (.int 0) (.int t.2.1) := rd_ix_T rfl
      refine ⟨_, _, as_tup (as_cons as_name (as_cons as_name as_nil)) rfl, rn_seq (rn_ifF' (et_or (et_test (ev_dni (k := .inr t.1) (kd := kd) (by walk_at "ev") (by walk_at "ev"))) fun _ => et_or (et_test (ev_dinO (k := .inr t.1) rfl (by walk_at "ev"))) fun _ => et_or (et_not (et_B (ev_callWE (by walk_at "ev") rt rfl))) fun _ => et_test (ev_op (ev_op (by walk_at "ev") (by walk_at "ev") ix) (by walk_at "ev") rd_eqI)) (by rw [nw, k1, decide_eq_false nf.2]; rfl) rn_next) (rn_dput (k := .inr t.1) (i := 4) rfl (by walk_at "ev") (by walk_at "ev") cnt), ?_⟩
      have e : putD (mergeD [] (trmK (r0.1.take i))) (.inr t.1) (.bool true) = mergeD [] (trmK (r0.1.take (i + 1))) := by
        rw [List.take_add_one, hz]
        unfold trmK
        rw [List.map_append, mergeD_app]; rfl
      rw [e]
      walk_at "less"
  · have rb : R1 (fun d => .bool (isRt d)) [rat r0.2] (.ok (.bool true)) := rt_ok h.bd
    refine en_seq (rn_ifF' (et_not (et_B (ev_callWE (by walk_at "ev") rb rfl))) (by rfl) rn_next) ?_
    refine en_rt (rn_ret (ev_tupH (ea_cons (ev_cb (ea_cons (ev_lcM (W' := fun _ _ _ _ => False) (js := [5, 6]) (fun d => d) (src_st (W := fun _ _ _ _ => False) (l := r0.1.map termD) (by walk_at "ev")) (by intro j hj; exact hj) (by rw [List.length_map, sizeLine_eq]; omega) (fun i d hd => ?_)) ea_nil) rc_tup_l) (ea_cons (by walk_at "ev") ea_nil)) (by show 2 ≤ sizeLine; decide))) (by rw [List.map_id']; rfl)
    rw [List.getElem?_map] at hd
    cases hz : r0.1[i]? with
    | none => rw [hz] at hd; cases hd
    | some t =>
      rw [hz] at hd
      cases hd
      exact ⟨_, as_tup (as_cons as_name (as_cons as_name as_nil)) rfl, ev_is (by walk_at "ev") (by rfl)⟩
end
end K74
end
section
/-! ### the reading tactics -/
local macro_rules | `(tactic| walk_at "sz") => `(tactic| first
  | assumption
  | (apply DL.Sz.neg
     · walk_at "sz")
  | (apply DL.Sz.mul
     · walk_at "sz"
     · walk_at "sz")
  | (apply DL.Sz.add
     · walk_at "sz"
     · walk_at "sz")
  | (apply DL.Sz.sub
     · walk_at "sz"
     · walk_at "sz")
  | (apply DL.Sz.fmod
     · decide
     · walk_at "sz")
  | exact DL.Sz.self)
local macro_rules | `(tactic| walk_at "side") => `(tactic| first
  | assumption
  | (apply DL.cmulW_of
     · walk_at "sz"
     · walk_at "sz"
     · first | decide +kernel | omega)
  | rfl
  | decide
  | omega
  | (simp only [List.length_cons, List.length_nil]; decide)
  | (simp; done)
  | (simp only [PySem.sizeLine_eq, List.length_cons, List.length_nil]; omega))
local macro_rules | `(tactic| walk_at "rd") => `(tactic| first
  | exact DL.rd_addI
  | exact DL.rd_sub
  | exact DL.rd_mulL (by decide) (by decide)
  | exact DL.rd_mulR (by decide) (by decide)
  | (refine DL.rd_mulI ?_
     · walk_at "side")
  | exact DL.rd_pow ⟨by decide, by decide, by decide⟩
  | exact DL.rd_mod (by show (_ : Int) ≠ _; first | decide | assumption)
  | exact DL.rd_ix_T rfl
  | exact DL.rd_ix_L rfl
  | exact DL.rd_eqI
  | exact DL.rd_inC
  | exact DL.rd_niC
  | exact DL.rd_ix_S (by assumption) (by assumption)
  | exact DL.rd_neI
  | exact DL.rd_eqT
  | exact DL.rd_neT
  | exact DL.rd_eqB
  | exact DL.rd_I0b
  | (refine DL.rd_addS ?_
     · walk_at "side")
  | (refine DL.rd_addT ?_
     · walk_at "side")
  | (refine DL.rd_fdiv ?_ ?_
     · walk_at "side"
     · walk_at "side")
  | (refine DL.rd_mod ?_
     · walk_at "side")
  | assumption)
local macro_rules | `(tactic| walk_at "rc") => `(tactic| first
  | exact DL.rc_gcd
  | exact DL.rc_abs
  | exact DL.rc_max2
  | exact DL.rc_intV
  | exact DL.rc_intB
  | exact DL.rc_len_t
  | exact DL.rc_list_l
  | exact DL.rc_list_t
  | exact DL.rc_tup_l
  | exact DL.rc_len_l
  | (apply DL.rc_len_s
     · walk_at "side")
  | (apply DL.rc_str
     · walk_at "side")
  | assumption)
local macro_rules | `(tactic| walk_at "call") => `(tactic| first
  | exact ⟨_, rfl, by assumption, rfl⟩
  | exact ⟨_, rfl, rfl⟩
  | exact ⟨_, _, rfl, rfl⟩
  | assumption
  | fail "call: no contract")
local macro_rules | `(tactic| walk_at "ep") => `(tactic| first
  | with_reducible exact DL.ep_no
  | (with_reducible apply DL.ep_some
     · walk_at "ev"))
local macro_rules | `(tactic| walk_at "ev") => `(tactic| first
  | assumption
  | (with_reducible apply DL.ev_var
     · rfl)
  | with_reducible exact DL.ev_int
  | with_reducible exact DL.ev_str
  | with_reducible exact DL.ev_bl
  | with_reducible exact DL.ev_non
  | with_reducible exact DL.ea_nil
  | exact DL.ev_glob (by assumption)
  | (with_reducible apply DL.ev_op
     · walk_at "ev"
     · walk_at "ev"
     · walk_at "rd")
  | (with_reducible apply DL.ea_cons
     · walk_at "ev"
     · walk_at "ev")
  | (with_reducible apply DL.ev_sl
     · walk_at "ev"
     · walk_at "ep"
     · walk_at "ep"
     · first | exact DL.rs_s (by assumption) | exact DL.rs_l | exact DL.rs_t)
  | (with_reducible apply DL.ev_un
     · walk_at "ev"
     · with_reducible exact DL.ru_neg)
  | (with_reducible apply DL.ev_isiE
     · walk_at "ev"
     · first | rfl | assumption
     · first | rfl | assumption
     · rfl)
  | (with_reducible apply DL.ev_tupH
     · walk_at "ev"
     · walk_at "side")
  | (with_reducible apply DL.ev_lstH
     · walk_at "ev"
     · walk_at "side")
  | (with_reducible apply DL.ev_cb
     · walk_at "ev"
     · walk_at "rc")
  | (with_reducible apply DL.et_test
     · walk_at "ev")
  | (with_reducible apply DL.et_B
     · walk_at "ev")
  | (with_reducible apply DL.et_not
     · walk_at "ev")
  | (with_reducible apply DL.et_and
     · walk_at "ev"
     · (intro _; walk_at "ev"))
  | (with_reducible apply DL.et_or
     · walk_at "ev"
     · (intro _; walk_at "ev"))
  | (with_reducible apply DL.ev_xf
     · rfl
     · rfl)
  | (with_reducible apply DL.ev_chain
     · walk_at "ev"
     · walk_at "ev"
     · walk_at "rd"
     · (intro _; walk_at "ev")
     · (intro _; walk_at "rd"))
  | (with_reducible apply DL.ev_fld
     · walk_at "ev"
     · assumption
     · assumption
     · rfl)
  | (with_reducible apply DL.ev_isN
     · walk_at "ev")
  | (with_reducible apply DL.ev_notN
     · walk_at "ev")
  | (with_reducible apply DL.ev_andV
     · walk_at "ev"
     · (intro _; walk_at "ev"))
  | (with_reducible apply DL.ev_orV
     · walk_at "ev"
     · (intro _; walk_at "ev"))
  | (with_reducible apply DL.ev_notV
     · walk_at "ev")
  | (with_reducible apply DL.ev_callE
     · walk_at "ev"
     · walk_at "call"
     · rfl)
  | (with_reducible apply DL.ev_callSE
     · walk_at "ev"
     · walk_at "call"
     · rfl))
local macro_rules | `(tactic| walk_at "less") => `(tactic| (
  (try simp only [List.set_cons_zero, List.set_cons_succ])
  repeat (first | exact DL.less_nil | apply DL.less_same | apply DL.less_no)))
local macro_rules | `(tactic| walk_at "nat") => `(tactic| first
  | assumption
  | (with_reducible apply DL.ev_var
     · rfl)
  | exact DL.ev_int
  | (apply DL.en_ix
     · walk_at "nat"
     · walk_at "nat"
     · omega)
  | (apply DL.en_add
     · walk_at "nat"
     · walk_at "nat")
  | (apply DL.en_mod
     · walk_at "nat"
     · walk_at "nat"
     · omega)
  | (apply DL.en_div
     · walk_at "nat"
     · walk_at "nat"
     · omega
     · omega)
  | (apply DL.en_mul
     · walk_at "nat"
     · walk_at "nat"
     · first | decide | omega
     · first | decide | omega))

set_option Elab.async false
set_option linter.all false
set_option maxRecDepth 100000
set_option maxHeartbeats 4000000
set_option exponentiation.threshold 10000
/-! K74D: nodes -/
namespace K74
open PySem PySem.Spec PyProof.Rows L2 DL
section
variable {P : Program} {w : World} {K : PySem.W.Frag} {mg : Str → Option Value} {base : Heap} {Z0 Z1 CB CM CK CT CX1 : Addr}

abbrev s_checked_node : Stmt := topS 30
theorem sc_checked_node : FnScope ["at", "node", "rounds", "depth", "parent", "chance", "costs", "rows", "cost", "known", "kept", "row", "sound", "names", "name"] ["at", "node", "rounds", "depth"] (defScope s_checked_node) := ⟨rfl, rfl, rfl, by decide +kernel, rfl, by decide +kernel, by decide +kernel⟩
def R_checked_node (ds : List PyData) (r : Res PyData) : Prop := ∃ (at_ : Nat) (rs : List (List Str)) (dep : Nat) (n : Nd), ds = [.int (at_ : Int), ndD n, .tuple (rs.map rndD), .int (dep : Int)] ∧ rs.length ≤ 4 ∧ (∀ r ∈ rs, r.length ≤ 3) ∧ NdOk rs dep n ∧ (at_ = 0 → n.ch = (1, 1)) ∧ r = .ok (ndD n)
def inK : PyData → List PyData
  | .tuple l => l
  | _ => []
def keyK : PyData → Key × PyData
  | .str z => (.inr z, .bool true)
  | _ => (.inl 0, .bool true)
theorem known_in {l : List (List Str)} {z : Str} (h : z ∈ l.flatten) : (valD (mergeD [] ((l.map rndD).flatMap fun d => (inK d).map keyK)) (.inr z)).isSome = true := by
  rw [mergeD_some, Bool.or_eq_true]
  left
  obtain ⟨r, hr, hz⟩ := List.mem_flatten.mp h
  refine List.any_eq_true.mpr ⟨(.inr z, .bool true), List.mem_flatMap.mpr ⟨rndD r, List.mem_map_of_mem hr, ?_⟩, by simp⟩
  exact List.mem_map.mpr ⟨.str z, List.mem_map_of_mem hz, rfl⟩
theorem known_few {l : List (List Str)} : ∀ n, l.length ≤ n → (∀ r ∈ l, r.length ≤ 3) → ((l.map rndD).flatMap fun d => (inK d).map keyK).length ≤ 3 * n := by
  induction l with
  | nil => intro n _ _; simp
  | cons a r ih =>
    intro n hn h
    cases n with
    | zero => simp at hn
    | succ n =>
      have q := ih n (by simpa using hn) fun x hx => h x (List.mem_cons_of_mem _ hx)
      have b := h a List.mem_cons_self
      rw [List.map_cons, List.flatMap_cons, List.length_append]
      have : ((inK (rndD a)).map keyK).length = a.length := by
        show ((a.map PyData.str).map keyK).length = _
        rw [List.length_map, List.length_map]
      omega
theorem len_checked_node : ∀ ds r, R_checked_node ds r → ds.length = (["at", "node", "rounds", "depth"] : List Str).length := by
  rintro _ _ ⟨_, _, _, _, rfl, _⟩; rfl
theorem ok_checked_node (T : Tx K mg Z0 Z1) (D : DefAt K mg "checked_node" s_checked_node []) (c_checked_row : CalX P w K mg base CX0 3 "checked_row" [] R_checked_row) (c_is_ratio : CalX P w K mg base CX0 2 "is_ratio" [] (R1 fun d => .bool (isRt d))) (e_BadTask : Err2 P w K mg base "BadTask" CK "word" "place") (e_TooMany : Err2 P w K mg base "TooMany" CM "word" "limit") : CalX P w K mg base (L2N.CX P w) 4 "checked_node" [] R_checked_node := by
  refine okR D (bind0 (fun _ _ _ _ _ _ us hl => match us, hl with | [_, _, _, _], _ => rfl)) sc_checked_node len_checked_node fun f cdv A outer s H Ex hr => ⟨_, (pss_cons (ps_asg (pv 1) (pg_tup (n := 4) (by rfl) (pgs_cons (pg_name (i := 4) sc_checked_node.nd rfl (by first | exact Or.inl rfl | exact Or.inr rfl)) (pgs_cons (pg_name (i := 5) sc_checked_node.nd rfl (by first | exact Or.inl rfl | exact Or.inr rfl)) (pgs_cons (pg_name (i := 6) sc_checked_node.nd rfl (by first | exact Or.inl rfl | exact Or.inr rfl)) (pgs_cons (pg_name (i := 7) sc_checked_node.nd rfl (by first | exact Or.inl rfl | exact Or.inr rfl)) pgs_nil))))))
    (pss_cons (ps_if (PW.pt (pw_or (pt_not (pt_val (pe_cal c_is_ratio hr (by decide) (fun σ => p0At σ) (pa_cons (pv 5) pa_nil)))) (pw_or (pt_cmpR op_le (pe_ix ix_seq (pv 5) pe_int (fun _ _ => rfl)) pe_int (nomark _)) (pw_or1 (PW.pt (pw_and (pt_cmpR (op_eqU (hu64 hr)) (pv 0) pe_int (nomark _)) (pw_and1 (pt_cmpR (op_neU (hu64 hr)) (pv 5) (pe_cT T.c_ONE) (nomark _))))))))) (pss_one (L2N.ps_raise rfl (L2N.takes_of rfl rfl rfl rfl) (pmk_e2 e_BadTask hr (by decide) (pa_cons pe_str (pa_cons (pv 0) pa_nil))))) pss_nil)
    (pss_cons (ps_if (pt_cmpR (op_neU (hu64 hr)) (pe_callB call_len (by rfl) T.n_len (by decide +kernel) (pa_cons (pv 6) pa_nil)) (pe_callB call_len (by rfl) T.n_len (by decide +kernel) (pa_cons (pe_ix ix_seq (pv 2) (pv 3) (fun _ _ => rfl)) pa_nil)) (nomark _)) (pss_one (L2N.ps_raise rfl (L2N.takes_of rfl rfl rfl rfl) (pmk_e2 e_BadTask hr (by decide) (pa_cons pe_str (pa_cons (pv 0) pa_nil))))) pss_nil)
    (pss_cons (ps_for (passes_of rfl) rfl (pi_seq (K := K) rfl (pv 6)) (pg_name (i := 8) sc_checked_node.nd rfl (by first | exact Or.inl rfl | exact Or.inr rfl)) (pss_one (ps_if (pt_not (pt_val (pe_cal c_is_ratio hr (by decide) (fun σ => p0At σ) (pa_cons (pv 8) pa_nil)))) (pss_one (L2N.ps_raise rfl (L2N.takes_of rfl rfl rfl rfl) (pmk_e2 e_BadTask hr (by decide) (pa_cons pe_str (pa_cons (pv 0) pa_nil))))) pss_nil)))
    (pss_cons (ps_if (pt_cmpR op_gt (pe_callB call_len (by rfl) T.n_len (by decide +kernel) (pa_cons (pv 7) pa_nil)) (pe_cI T.c_MOST_ROWS) (nomark _)) (pss_one (L2N.ps_raise rfl (L2N.takes_of rfl rfl rfl rfl) (pmk_e2 e_TooMany hr (by decide) (pa_cons pe_str (pa_cons (pe_cI T.c_MOST_ROWS) pa_nil))))) pss_nil)
    (pss_cons (ps_setDd (i := 9) (own := [("names", 13), ("name", 14)]) (vs1 := [14]) rfl sc_checked_node.nd rfl rfl (sw_dd rfl rfl rfl (by decide +kernel)) (pi_seq (K := K) rfl (pe_slice sl_U (pv 2) po_none (po_some (pe_op op_addU (pv 3) pe_int)))) (blkOk_by (by show blkC ["at", "node", "rounds", "depth", "parent", "chance", "costs", "rows", "cost", "known", "kept", "row", "sound", "names", "name"] (defScope s_checked_node) _ [("names", 13), ("name", 14)] = true; decide +kernel)) (by decide) (fun _ _ _ _ _ => (pg_name (i := 13) sc_checked_node.nd rfl (by first | exact Or.inl rfl | exact Or.inr rfl))) (fun _ _ _ _ _ => (pi_seq (K := K) rfl (pv 13))) (fun _ _ _ _ _ => (pg_name (i := 14) sc_checked_node.nd rfl (by first | exact Or.inl rfl | exact Or.inr rfl))) (fun _ _ _ _ _ => (pv 14)) (fun _ _ _ _ _ => pe_bl))
    (pss_cons (ps_set (i := 10) sc_checked_node.nd rfl (by first | exact Or.inl rfl | exact Or.inr rfl) (pe_lst pa_nil))
    (pss_cons (ps_for (passes_of rfl) rfl (pi_seq (K := K) rfl (pv 7)) (pg_name (i := 11) sc_checked_node.nd rfl (by first | exact Or.inl rfl | exact Or.inr rfl)) (pss_cons (ps_set (i := 12) sc_checked_node.nd rfl (by first | exact Or.inl rfl | exact Or.inr rfl) (pe_cal c_checked_row hr (by decide) (fun σ => p0At σ) (pa_cons (pv 11) (pa_cons (pv 9) pa_nil))))
    (pss_cons (ps_if (pt_cmp (pc_isN (pv 12)) rfl) (pss_one (L2N.ps_raise rfl (L2N.takes_of rfl rfl rfl rfl) (pmk_e2 e_BadTask hr (by decide) (pa_cons pe_str (pa_cons (pv 0) pa_nil))))) pss_nil)
    (pss_one (ps_expr (pe_bm PySem.F.plainAttrs_list PySem.F.slot_list_append PySem.F.type_list_append mt_append (pv 10) (pa_cons (pv 12) pa_nil)))))))
    (pss_one (ps_ret (pe_tup (pa_cons (pv 4) (pa_cons (pv 5) (pa_cons (pe_callTy call_tuple_of (by rfl) T.n_tuple (by decide +kernel) (pa_cons (pv 6) pa_nil)) (pa_cons (pe_callTy call_tuple_of (by rfl) T.n_tuple (by decide +kernel) (pa_cons (pv 10) pa_nil)) pa_nil))))))))))))))), ?_⟩

  rintro ds r ⟨at_, rs, dep, n, rfl, hrl, hr3, h, h0, rfl⟩
  have hO := T.c_ONE.d
  have few := h.rl
  have dl := h.dl
  have cl := h.cl
  have rt := rt_ok h.chn
  have hdr : rs.getD dep [] ∈ rs := by rw [DL.getD_at dl]; exact List.getElem_mem _
  have c3 := hr3 _ hdr
  refine en_seq (rn_asgG (js := [4, 5, 6, 7]) (by walk_at "ev") (as_tup (as_cons as_name (as_cons as_name (as_cons as_name (as_cons as_name as_nil)))) rfl)) ?_
  refine en_seq (rn_ifF' (et_or (et_not (et_B (ev_callWE (by walk_at "ev") rt rfl))) fun _ => et_or (et_test (ev_op (ev_op (by walk_at "ev") (by walk_at "ev") (rd_ix_T rfl)) (by walk_at "ev") rd_I0b)) fun _ => et_and (et_test (ev_op (by walk_at "ev") (by walk_at "ev") rd_eqI)) fun _ => et_test (ev_op (by walk_at "ev") (by walk_at "ev") (rd_neX (by rfl) (by rfl)))) ?_ rn_next) ?_
  · have p1 := h.chp
    rw [decide_eq_false (show ¬ n.ch.1 ≤ 0 by omega)]
    by_cases e : at_ = 0
    · subst e
      rw [h0 rfl]; rfl
    · rw [decide_eq_false (show ¬ (at_ : Int) = 0 by omega)]; rfl
  have at1 : atI (rs.map rndD) (dep : Int) = some (rndD (rs.getD dep [])) := by
    rw [at_nat, List.getElem?_map, DL.getD_at dl, List.getElem?_eq_getElem dl]; rfl
  have ln1 : RC K (fun xs H Q => ∃ x n, xs = [x] ∧ LenV K x H n ∧ Q (.int n) H) [.tuple (n.costs.map rat)] (.int (n.costs.length : Nat)) := by
    have := rc_len_t (K := K) (l := n.costs.map rat)
    rwa [List.length_map] at this
  have ln2 : RC K (fun xs H Q => ∃ x n, xs = [x] ∧ LenV K x H n ∧ Q (.int n) H) [rndD (rs.getD dep [])] (.int ((rs.getD dep []).length : Nat)) := by
    have := rc_len_t (K := K) (l := (rs.getD dep []).map PyData.str)
    rwa [List.length_map] at this
  have ln3 : RC K (fun xs H Q => ∃ x n, xs = [x] ∧ LenV K x H n ∧ Q (.int n) H) [.tuple (n.rows.map rowD)] (.int (n.rows.length : Nat)) := by
    have := rc_len_t (K := K) (l := n.rows.map rowD)
    rwa [List.length_map] at this
  refine en_seq (rn_ifF' (et_test (ev_op (ev_cb (by walk_at "ev") ln1) (ev_cb (ea_cons (ev_op (by walk_at "ev") (by walk_at "ev") (rd_ix_T at1)) ea_nil) ln2) rd_neI)) (by rw [decide_eq_true (show (n.costs.length : Int) = ((rs.getD dep []).length : Int) by omega)]; rfl) rn_next) ?_
  refine en_seq (rn_none (js := [8]) (src_st (W := fun _ _ _ _ => False) (l := n.costs.map rat) (by walk_at "ev")) (fun i d hd => ?_)) ?_
  · obtain ⟨c, hc, rfl⟩ := List.mem_map.mp (List.mem_of_getElem? hd)
    have rc := rt_ok (h.cn c hc)
    exact ⟨_, _, as_name, rn_ifF' (et_not (et_B (ev_callWE (by walk_at "ev") rc rfl))) (by rfl) rn_next, by walk_at "less"⟩
  refine en_seq (rn_ifF' (et_test (ev_op (ev_cb (by walk_at "ev") ln3) (by walk_at "ev") rd_I0b)) (by exact decide_eq_false (by omega)) rn_next) ?_
  have cutr : DL.cutD (rs.map rndD) none (some ((dep : Int) + 1)) = (rs.take (dep + 1)).map rndD := by
    rw [show (dep : Int) + 1 = ((dep + 1 : Nat) : Int) by omega, cut_to, List.map_take]
  refine en_seq (rn_asgE (ev_dd (W' := fun _ _ _ _ => False) (js := [13]) (js1 := [14]) (l := (rs.take (dep + 1)).map rndD) (fun d => (inK d).map keyK) inK (src_st (W := fun _ _ _ _ => False) (ev_is (by walk_at "ev") (by rw [cutr]))) (by decide) (by decide) ?_ (fun i d hd => ?_)) rfl) ?_
  · have := known_few (l := rs.take (dep + 1)) 4 (by rw [List.length_take]; omega) fun r hr => hr3 r (List.mem_of_mem_take hr)
    rw [sizeLine_eq]; omega
  · obtain ⟨q, hq, rfl⟩ := List.mem_map.mp (List.mem_of_getElem? hd)
    refine ⟨_, as_name, src_st (W := fun _ _ _ _ => False) (ev_is (by walk_at "ev") (by rfl)), by rw [List.length_map], fun j d1 p hj hp => ?_⟩
    have hj' : (q.map PyData.str)[j]? = some d1 := hj
    rw [List.getElem?_map] at hp
    rw [hj] at hp
    rw [List.getElem?_map] at hj'
    cases hz : q[j]? with
    | none => rw [hz] at hj'; cases hj'
    | some z =>
      rw [hz] at hj'
      cases hj'
      cases hp
      exact ⟨_, as_name, ev_is (by walk_at "ev") (by rfl), ev_is (by walk_at "ev") (by rfl)⟩
  refine en_seq (rn_asgO ea_nil (by decide)) ?_
  refine en_seq (rn_loop (js := [11]) (δ' := [.val (.int (at_ : Int)), .val (ndD n), .val (.tuple (rs.map rndD)), .val (.int (dep : Int)), .val (parD n.par), .val (rat n.ch), .val (.tuple (n.costs.map rat)), .val (.tuple (n.rows.map rowD)), .no, .val (dicD (mergeD [] (((rs.take (dep + 1)).map rndD).flatMap fun d => (inK d).map keyK))), .own (n.rows.map rowD), .no, .no, .no, .no]) (fun i => [.val (.int (at_ : Int)), .val (ndD n), .val (.tuple (rs.map rndD)), .val (.int (dep : Int)), .val (parD n.par), .val (rat n.ch), .val (.tuple (n.costs.map rat)), .val (.tuple (n.rows.map rowD)), .no, .val (dicD (mergeD [] (((rs.take (dep + 1)).map rndD).flatMap fun d => (inK d).map keyK))), .own ((n.rows.take i).map rowD), .no, .no, .no, .no]) rfl (src_st (W := fun _ _ _ _ => False) (l := n.rows.map rowD) (by walk_at "ev")) (fun i d hi hd => ?_) (by rw [List.length_map, List.take_length])) ?_
  · rw [List.getElem?_map] at hd
    cases hz : n.rows[i]? with
    | none => rw [hz] at hd; cases hd
    | some q =>
      rw [hz] at hd
      cases hd
      have rr : R_checked_row [rowD q, dicD (mergeD [] (((rs.take (dep + 1)).map rndD).flatMap fun d => (inK d).map keyK))] (.ok (rowD q)) := ⟨q, _, _, rfl, h.ro q (List.mem_of_getElem? hz), fun z hz => known_in hz, rfl⟩
      refine ⟨_, _, as_name, rn_seq (rn_asgE (ev_callWE (by walk_at "ev") rr rfl) rfl) (rn_seq (rn_ifF' (by first | exact et_test (ev_isN (ev_var rfl)) | exact et_B (ev_isN (ev_var rfl))) (by rfl) rn_next) (rn_app (i := 10) rfl (by walk_at "ev") (by rw [List.length_map, List.length_take, sizeLine_eq]; omega))), ?_⟩
      have et : (n.rows.take (i + 1)).map rowD = (n.rows.take i).map rowD ++ [rowD q] := by
        rw [List.take_add_one, hz, List.map_append]; rfl
      rw [et]
      walk_at "less"
  · refine rn_frzE (i := 10) (l := n.rows.map rowD) rfl ?_
    exact en_rt (rn_ret (ev_tupH (ea_cons (by walk_at "ev") (ea_cons (by walk_at "ev") (ea_cons (ev_cb (by walk_at "ev") rc_tup_t) (ea_cons (ev_cb (by walk_at "ev") rc_tup_l) ea_nil)))) (by show 4 ≤ sizeLine; decide))) (by rfl)
end
end K74
end
set_option Elab.async false
set_option linter.all false
set_option maxRecDepth 100000
set_option maxHeartbeats 4000000
/-! PT2: comparing plain tuples; an __init__ step by step; children. -/
namespace DL
open PySem PySem.Spec PyProof.Rows L2
theorem lay_ints {α : Type} (f : α → Int) : ∀ l : List α, PyData.canLayAll0 (l.map fun n => PyData.int (f n)) = true
  | [] => rfl
  | a :: r => by
    show (PyData.canLay0 (.int (f a)) && PyData.canLayAll0 (r.map fun n => PyData.int (f n))) = true
    rw [lay_ints f r]; rfl
theorem dep_ints {α : Type} (f : α → Int) : ∀ l : List α, PyData.depthAll (l.map fun n => PyData.int (f n)) = 0
  | [] => rfl
  | a :: r => by
    show max (PyData.depth (.int (f a))) (PyData.depthAll (r.map fun n => PyData.int (f n))) = 0
    rw [dep_ints f r]; rfl
theorem shaped_nats (l : List Nat) : SeqAt.shaped (natsD l) = true := by
  unfold SeqAt.shaped natsD
  have e1 : PyData.canLay0 (.tuple (l.map fun n : Nat => PyData.int (n : Int))) = PyData.canLayAll0 (l.map fun n : Nat => PyData.int (n : Int)) := rfl
  have e2 : PyData.depth (.tuple (l.map fun n : Nat => PyData.int (n : Int))) = PyData.depthAll (l.map fun n : Nat => PyData.int (n : Int)) + 1 := rfl
  rw [e1, e2, lay_ints, dep_ints]; rfl
theorem shaped_rat (p : Q2) : SeqAt.shaped (rat p) = true := rfl
theorem shaped_nil : SeqAt.shaped (.tuple []) = true := rfl
theorem eqv_nats (l : List Nat) : PyData.eqv (natsD l) (.tuple []) = l.isEmpty := by
  cases l <;> rfl
theorem eqv_rat (p q : Q2) : PyData.eqv (rat p) (rat q) = decide (p = q) := by
  show ((p.1 == q.1) && ((p.2 == q.2) && true)) = _
  cases p; cases q
  simp only [Prod.mk.injEq, Bool.and_true]
  rw [Bool.eq_iff_iff]; simp
/-! ### an __init__ -/
section
variable {K : PySem.W.Frag} {W : WX} {δ δ1 : Dn} {t u : TS} {a C : Addr} {r : Res PyData} {fd : List (Str × PyData)} {o : Own} {d : PyData} {i : Nat}
def EndsI (K : PySem.W.Frag) (W : WX) (t : TS) (δ : Dn) (a C : Addr) (r : Res PyData) : Prop := ∃ o, Rn K W t δ o ∧ endsI a C o r
theorem ei_seq (h : Rn K W t δ (.nx δ1)) (q : EndsI K W u δ1 a C r) : EndsI K W (tSeq t u) δ a C r := by
  obtain ⟨o, h1, h2⟩ := q
  exact ⟨o, rn_seq h h1, h2⟩
theorem ei_X {x : Exn} (h : Rn K W t δ (.ex δ1 x)) (e : Except.error x = r) : EndsI K W (tSeq t u) δ a C r := ⟨_, rn_seqX h, e.symm⟩
theorem ei_nx (h : Rn K W t δ (.nx δ1)) (h0 : δ1[0]? = some (.gen (ownI a C fd))) (e : Except.ok (objD C fd) = r) : EndsI K W t δ a C r := ⟨_, h, fd, h0, e.symm⟩
theorem ei_frz (hi : δ[i]? = some (.gen o)) (hq : Reads1 o d) (h : EndsI K W t (δ.set i (.val d)) a C r) : EndsI K W t δ a C r := by
  obtain ⟨o', h1, h2⟩ := h
  exact ⟨o', rn_frzG hi hq h1, h2⟩
theorem en_frz (hi : δ[i]? = some (.gen o)) (hq : Reads1 o d) (h : Ends K W t (δ.set i (.val d)) r) : Ends K W t δ r := by
  obtain ⟨o', h1, h2⟩ := h
  exact ⟨o', rn_frzG hi hq h1, h2⟩
end
theorem putG_new {f : Str} {d : PyData} : ∀ {fd : List (Str × PyData)}, (∀ p ∈ fd, p.1 ≠ f) → putG f d fd = fd ++ [(f, d)]
  | [], _ => rfl
  | (g, x) :: r, h => by
    unfold putG
    rw [if_neg (h (g, x) List.mem_cons_self), putG_new fun p hp => h p (List.mem_cons_of_mem _ hp)]; rfl
/-! ### children -/
structure PrOk (nds : List Nd) : Prop where
  l1 : 1 ≤ nds.length
  l2 : nds.length ≤ 16
  p0 : (nds.getD 0 default).par = none
  pr : ∀ k, 0 < k → k < nds.length → ∃ p, (nds.getD k default).par = some p ∧ p < k
theorem TkOk.pro {rs : List (List Str)} {nds : List Nd} (h : TkOk rs nds) : PrOk nds := ⟨h.l1, h.l2, h.p0, h.pr⟩
def lsAt (nds : List Nd) (m : Nat) : List (List PyData) := (List.range nds.length).map fun v => (chiN nds m v).map fun n : Nat => PyData.int (n : Int)
theorem chiN_succ (nds : List Nd) (m v : Nat) : chiN nds (m + 1) v = chiN nds m v ++ (if (nds.getD m default).par = some v then [m] else []) := by
  unfold chiN
  rw [List.range_succ, List.filter_append]
  congr 1
  by_cases h : (nds.getD m default).par = some v
  · rw [if_pos h, List.filter_cons, if_pos (by exact decide_eq_true h)]; rfl
  · rw [if_neg h, List.filter_cons, if_neg (by rw [decide_eq_false h]; decide)]; rfl
theorem lsAt_one {nds : List Nd} (h : PrOk nds) : lsAt nds 1 = List.replicate nds.length [] := by
  unfold lsAt
  refine List.ext_getElem? fun i => ?_
  rw [List.getElem?_map, List.getElem?_replicate]
  by_cases hi : i < nds.length
  · rw [List.getElem?_range hi, if_pos hi]
    show some (((chiN nds 1 i).map _)) = _
    rw [chiN_succ, h.p0, if_neg (by simp)]; rfl
  · rw [List.getElem?_eq_none (by simpa using hi), if_neg hi]; rfl
theorem lsAt_succ {nds : List Nd} {m p : Nat} (hp : (nds.getD m default).par = some p) (hl : p < nds.length) : lsAt nds (m + 1) = (lsAt nds m).set p (((chiN nds m p).map fun n : Nat => PyData.int (n : Int)) ++ [.int (m : Int)]) := by
  unfold lsAt
  refine List.ext_getElem? fun i => ?_
  rw [List.getElem?_map]
  by_cases hi : i < nds.length
  · by_cases e : p = i
    · subst e
      rw [List.getElem?_set_self (by simpa using hi), List.getElem?_range hi]
      show some ((chiN nds (m + 1) p).map _) = _
      rw [chiN_succ, hp, if_pos rfl, List.map_append]; rfl
    · rw [List.getElem?_set_ne e, List.getElem?_map, List.getElem?_range hi]
      show some ((chiN nds (m + 1) i).map _) = some ((chiN nds m i).map _)
      rw [chiN_succ, hp, if_neg (fun z => e (Option.some.inj z)), List.append_nil]
  · rw [List.getElem?_eq_none (by simpa using hi), List.getElem?_eq_none (by simpa using hi)]; rfl
theorem lsAt_get {nds : List Nd} {m p : Nat} (hl : p < nds.length) : (lsAt nds m)[p]? = some ((chiN nds m p).map fun n : Nat => PyData.int (n : Int)) := by
  unfold lsAt
  rw [List.getElem?_map, List.getElem?_range hl]; rfl
theorem lsAt_len (nds : List Nd) (m : Nat) : (lsAt nds m).length = nds.length := by simp [lsAt]
theorem chiN_few (nds : List Nd) (m v : Nat) : (chiN nds m v).length ≤ m := by
  have := List.length_filter_le (fun w => decide ((nds.getD w default).par = some v)) (List.range m)
  rw [List.length_range] at this
  exact this
theorem ixN_nat {n p : Nat} (h : p < n) : ixN n (p : Int) = some p := by
  unfold ixN
  rw [if_pos (by omega), if_pos (by omega)]
  simp
theorem chiF_lt {nds : List Nd} {v w : Nat} (h : w ∈ chiF nds v) : w < nds.length := by
  unfold chiF chiN at h
  exact List.mem_range.mp (List.mem_filter.mp h).1
theorem len_map_t {K : PySem.W.Frag} {α : Type} (f : α → PyData) (l : List α) : RC K (fun xs H Q => ∃ x n, xs = [x] ∧ LenV K x H n ∧ Q (.int n) H) [.tuple (l.map f)] (.int (l.length : Nat)) := by
  have := rc_len_t (K := K) (l := l.map f)
  rwa [List.length_map] at this
theorem len_map_l {K : PySem.W.Frag} {α : Type} (f : α → PyData) (l : List α) : RC K (fun xs H Q => ∃ x n, xs = [x] ∧ LenV K x H n ∧ Q (.int n) H) [.list (l.map f)] (.int (l.length : Nat)) := by
  have := rc_len_l (K := K) (l := l.map f)
  rwa [List.length_map] at this
theorem at_map {α : Type} [Inhabited α] (f : α → PyData) {l : List α} {i : Nat} (h : i < l.length) : atI (l.map f) (i : Int) = some (f (l.getD i default)) := by
  rw [at_nat, List.getElem?_map, DL.getD_at h, List.getElem?_eq_getElem h]; rfl
theorem at_mapD {α : Type} (d0 : α) (f : α → PyData) {l : List α} {i : Nat} (h : i < l.length) : atI (l.map f) (i : Int) = some (f (l.getD i d0)) := by
  rw [at_nat, List.getElem?_map, DL.getD_at h, List.getElem?_eq_getElem h]; rfl
/-- a sequence, a list or a tuple -/
structure Sq (fo : List PyData → PyData) : Prop where
  is : fo = PyData.list ∨ fo = PyData.tuple
section
variable {K : PySem.W.Frag} {fo : List PyData → PyData} {l : List PyData} {d : PyData}
theorem Sq.len (h : Sq fo) (l : List PyData) : RC K (fun xs H Q => ∃ x n, xs = [x] ∧ LenV K x H n ∧ Q (.int n) H) [fo l] (.int (l.length : Nat)) := by
  rcases h.is with rfl | rfl
  · exact rc_len_l
  · exact rc_len_t
theorem Sq.ix (h : Sq fo) {k : Int} (e : atI l k = some d) : RD K (rIx K) (fo l) (.int k) d := by
  rcases h.is with rfl | rfl
  · exact rd_ix_L e
  · exact rd_ix_T e
theorem Sq.src (h : Sq fo) {W : WX} {δ : Dn} {te : TE} (he : EvD K W te δ (.ok (fo l))) : SrcD K (iSeq K te) δ l := by
  rcases h.is with rfl | rfl
  · exact src_sl he
  · exact src_st he
end
end DL
section
/-! ### the reading tactics -/
local macro_rules | `(tactic| walk_at "sz") => `(tactic| first
  | assumption
  | (apply DL.Sz.neg
     · walk_at "sz")
  | (apply DL.Sz.mul
     · walk_at "sz"
     · walk_at "sz")
  | (apply DL.Sz.add
     · walk_at "sz"
     · walk_at "sz")
  | (apply DL.Sz.sub
     · walk_at "sz"
     · walk_at "sz")
  | (apply DL.Sz.fmod
     · decide
     · walk_at "sz")
  | exact DL.Sz.self)
local macro_rules | `(tactic| walk_at "side") => `(tactic| first
  | assumption
  | (apply DL.cmulW_of
     · walk_at "sz"
     · walk_at "sz"
     · first | decide +kernel | omega)
  | rfl
  | decide
  | omega
  | (simp only [List.length_cons, List.length_nil]; decide)
  | (simp; done)
  | (simp only [PySem.sizeLine_eq, List.length_cons, List.length_nil]; omega))
local macro_rules | `(tactic| walk_at "rd") => `(tactic| first
  | exact DL.rd_addI
  | exact DL.rd_sub
  | exact DL.rd_mulL (by decide) (by decide)
  | exact DL.rd_mulR (by decide) (by decide)
  | (refine DL.rd_mulI ?_
     · walk_at "side")
  | exact DL.rd_pow ⟨by decide, by decide, by decide⟩
  | exact DL.rd_mod (by show (_ : Int) ≠ _; first | decide | assumption)
  | exact DL.rd_ix_T rfl
  | exact DL.rd_ix_L rfl
  | exact DL.rd_eqI
  | exact DL.rd_inC
  | exact DL.rd_niC
  | exact DL.rd_ix_S (by assumption) (by assumption)
  | exact DL.rd_neI
  | exact DL.rd_eqT
  | exact DL.rd_neT
  | exact DL.rd_eqB
  | exact DL.rd_I0b
  | (refine DL.rd_addS ?_
     · walk_at "side")
  | (refine DL.rd_addT ?_
     · walk_at "side")
  | (refine DL.rd_fdiv ?_ ?_
     · walk_at "side"
     · walk_at "side")
  | (refine DL.rd_mod ?_
     · walk_at "side")
  | assumption)
local macro_rules | `(tactic| walk_at "rc") => `(tactic| first
  | exact DL.rc_gcd
  | exact DL.rc_abs
  | exact DL.rc_max2
  | exact DL.rc_intV
  | exact DL.rc_intB
  | exact DL.rc_len_t
  | exact DL.rc_list_l
  | exact DL.rc_list_t
  | exact DL.rc_tup_l
  | exact DL.rc_len_l
  | (apply DL.rc_len_s
     · walk_at "side")
  | (apply DL.rc_str
     · walk_at "side")
  | assumption)
local macro_rules | `(tactic| walk_at "call") => `(tactic| first
  | exact ⟨_, rfl, by assumption, rfl⟩
  | exact ⟨_, rfl, rfl⟩
  | exact ⟨_, _, rfl, rfl⟩
  | assumption
  | fail "call: no contract")
local macro_rules | `(tactic| walk_at "ep") => `(tactic| first
  | with_reducible exact DL.ep_no
  | (with_reducible apply DL.ep_some
     · walk_at "ev"))
local macro_rules | `(tactic| walk_at "ev") => `(tactic| first
  | assumption
  | (with_reducible apply DL.ev_var
     · rfl)
  | with_reducible exact DL.ev_int
  | with_reducible exact DL.ev_str
  | with_reducible exact DL.ev_bl
  | with_reducible exact DL.ev_non
  | with_reducible exact DL.ea_nil
  | exact DL.ev_glob (by assumption)
  | (with_reducible apply DL.ev_op
     · walk_at "ev"
     · walk_at "ev"
     · walk_at "rd")
  | (with_reducible apply DL.ea_cons
     · walk_at "ev"
     · walk_at "ev")
  | (with_reducible apply DL.ev_sl
     · walk_at "ev"
     · walk_at "ep"
     · walk_at "ep"
     · first | exact DL.rs_s (by assumption) | exact DL.rs_l | exact DL.rs_t)
  | (with_reducible apply DL.ev_un
     · walk_at "ev"
     · with_reducible exact DL.ru_neg)
  | (with_reducible apply DL.ev_isiE
     · walk_at "ev"
     · first | rfl | assumption
     · first | rfl | assumption
     · rfl)
  | (with_reducible apply DL.ev_tupH
     · walk_at "ev"
     · walk_at "side")
  | (with_reducible apply DL.ev_lstH
     · walk_at "ev"
     · walk_at "side")
  | (with_reducible apply DL.ev_cb
     · walk_at "ev"
     · walk_at "rc")
  | (with_reducible apply DL.et_test
     · walk_at "ev")
  | (with_reducible apply DL.et_B
     · walk_at "ev")
  | (with_reducible apply DL.et_not
     · walk_at "ev")
  | (with_reducible apply DL.et_and
     · walk_at "ev"
     · (intro _; walk_at "ev"))
  | (with_reducible apply DL.et_or
     · walk_at "ev"
     · (intro _; walk_at "ev"))
  | (with_reducible apply DL.ev_xf
     · rfl
     · rfl)
  | (with_reducible apply DL.ev_chain
     · walk_at "ev"
     · walk_at "ev"
     · walk_at "rd"
     · (intro _; walk_at "ev")
     · (intro _; walk_at "rd"))
  | (with_reducible apply DL.ev_fld
     · walk_at "ev"
     · assumption
     · assumption
     · rfl)
  | (with_reducible apply DL.ev_isN
     · walk_at "ev")
  | (with_reducible apply DL.ev_notN
     · walk_at "ev")
  | (with_reducible apply DL.ev_andV
     · walk_at "ev"
     · (intro _; walk_at "ev"))
  | (with_reducible apply DL.ev_orV
     · walk_at "ev"
     · (intro _; walk_at "ev"))
  | (with_reducible apply DL.ev_notV
     · walk_at "ev")
  | (with_reducible apply DL.ev_callE
     · walk_at "ev"
     · walk_at "call"
     · rfl)
  | (with_reducible apply DL.ev_callSE
     · walk_at "ev"
     · walk_at "call"
     · rfl))
local macro_rules | `(tactic| walk_at "less") => `(tactic| (
  (try simp only [List.set_cons_zero, List.set_cons_succ])
  repeat (first | exact DL.less_nil | apply DL.less_same | apply DL.less_no)))
local macro_rules | `(tactic| walk_at "nat") => `(tactic| first
  | assumption
  | (with_reducible apply DL.ev_var
     · rfl)
  | exact DL.ev_int
  | (apply DL.en_ix
     · walk_at "nat"
     · walk_at "nat"
     · omega)
  | (apply DL.en_add
     · walk_at "nat"
     · walk_at "nat")
  | (apply DL.en_mod
     · walk_at "nat"
     · walk_at "nat"
     · omega)
  | (apply DL.en_div
     · walk_at "nat"
     · walk_at "nat"
     · omega
     · omega)
  | (apply DL.en_mul
     · walk_at "nat"
     · walk_at "nat"
     · first | decide | omega
     · first | decide | omega))

set_option Elab.async false
set_option linter.all false
set_option maxRecDepth 100000
set_option maxHeartbeats 4000000
set_option exponentiation.threshold 10000
/-! K74E: children, the tree -/
namespace K74
open PySem PySem.Spec PyProof.Rows L2 DL
section
variable {P : Program} {w : World} {K : PySem.W.Frag} {mg : Str → Option Value} {base : Heap} {Z0 Z1 CB CM CK CT CX1 : Addr}

abbrev s_children_of : Stmt := topS 31
theorem sc_children_of : FnScope ["nodes", "found", "at", "node", "row"] ["nodes"] (defScope s_children_of) := ⟨rfl, rfl, rfl, by decide +kernel, rfl, by decide +kernel, by decide +kernel⟩
def R_children_of (ds : List PyData) (r : Res PyData) : Prop := ∃ nds : List Nd, ds = [.tuple (nds.map ndD)] ∧ PrOk nds ∧ r = .ok (.tuple ((List.range nds.length).map fun v => natsD (chiF nds v)))
def tupK : PyData → PyData
  | .list l => .tuple l
  | d => d
theorem len_children_of : ∀ ds r, R_children_of ds r → ds.length = (["nodes"] : List Str).length := by
  rintro _ _ ⟨_, rfl, _⟩; rfl
theorem ok_children_of (T : Tx K mg Z0 Z1) (D : DefAt K mg "children_of" s_children_of [])  : CalX P w K mg base CX0 1 "children_of" [] R_children_of := by
  refine okN D (bind0 (fun _ _ _ _ _ _ us hl => match us, hl with | [_], _ => rfl)) sc_children_of len_children_of fun f cdv A outer s H Ex hr => ⟨_, (pss_cons (ps_setLc (i := 1) (own := [("node", 3)]) rfl sc_children_of.nd rfl rfl (sw_true rfl rfl rfl (by decide +kernel)) (pi_seq (K := K) rfl (pv 0)) (blkOk_by (by show blkC ["nodes", "found", "at", "node", "row"] (defScope s_children_of) _ [("node", 3)] = true; decide +kernel)) (fun _ _ _ _ _ => (pg_name (i := 3) sc_children_of.nd rfl (by first | exact Or.inl rfl | exact Or.inr rfl))) (fun _ _ _ _ _ => pts_nil) (fun _ _ _ _ _ => (pe_lst pa_nil)))
    (pss_cons (ps_for PassesOwn.never rfl (pi_range2 rfl T.n_range (pa_cons pe_int (pa_cons (pe_callB call_len (by rfl) T.n_len (by decide +kernel) (pa_cons (pv 0) pa_nil)) pa_nil))) (pg_name (i := 2) sc_children_of.nd rfl (by first | exact Or.inl rfl | exact Or.inr rfl)) (pss_one (ps_expr (pe_bm PySem.F.plainAttrs_list PySem.F.slot_list_append PySem.F.type_list_append mt_append (pe_ix ix_seq (pv 1) (pe_ix ix_seq (pe_ix ix_seq (pv 0) (pv 2) (fun _ _ => rfl)) pe_int (fun _ _ => rfl)) (fun _ _ => rfl)) (pa_cons (pv 2) pa_nil)))))
    (pss_one (ps_ret (pe_callTy call_tuple_of (by rfl) T.n_tuple (by decide +kernel) (pa_cons (pe_lc (own := [("row", 4)]) rfl sc_children_of.nd (pi_list (pv 1)) (blkOk_by (by show blkC ["nodes", "found", "at", "node", "row"] (defScope s_children_of) _ [("row", 4)] = true; decide +kernel)) (fun _ _ _ _ _ => (pg_name (i := 4) sc_children_of.nd rfl (by first | exact Or.inl rfl | exact Or.inr rfl))) (fun _ _ _ _ _ => pts_nil) (fun _ _ _ _ _ => (pe_callTy (call_tuple_ofK (K := K) rfl) (by rfl) T.n_tuple (by decide +kernel) (pa_cons (pv 4) pa_nil)))) pa_nil)))))), ?_⟩

  rintro ds r ⟨nds, rfl, h, rfl⟩
  have l1 := h.l1
  have l2 := h.l2
  refine en_seq (rn_newLL (js := [3]) (src_st (W := fun _ _ _ _ => False) (l := nds.map ndD) (by walk_at "ev")) (by intro j hj; exact hj) (by rw [List.length_map, sizeLine_eq]; omega) (fun i d hd => ⟨_, as_name⟩)) ?_
  refine en_seq (rn_loop (js := [2]) (δ' := [.val (.tuple (nds.map ndD)), .gen (ownLL (lsAt nds nds.length)), .no, .no, .no]) (fun i => [.val (.tuple (nds.map ndD)), .gen (ownLL (lsAt nds (i + 1))), .no, .no, .no]) (by rw [lsAt_one h, List.length_map]; rfl) (src_rng2 (W := fun _ _ _ _ => False) (i := 1) (j := (nds.length : Int)) (ea_cons ev_int (ea_cons (ev_cb (by walk_at "ev") (len_map_t ndD nds)) ea_nil)) (by omega)) (fun i d hi hd => ?_) (by rw [iota_len]; rw [show ((nds.length : Int) - 1).toNat + 1 = nds.length by omega])) ?_
  · rw [iota_len] at hi
    rw [iota_get hi] at hd
    cases hd
    have hi' : i + 1 < nds.length := by omega
    rw [show (1 : Int) + (i : Nat) = ((i + 1 : Nat) : Int) by omega]
    obtain ⟨p, hp, hpl⟩ := h.pr (i + 1) (by omega) hi'
    have ix1 : RD K (rIx K) (.tuple (nds.map ndD)) (.int ((i + 1 : Nat) : Int)) (ndD (nds.getD (i + 1) default)) := rd_ix_T (at_map ndD hi')
    have ix2 : RD K (rIx K) (ndD (nds.getD (i + 1) default)) (.int 0) (.int (p : Int)) := by
      have : ndD (nds.getD (i + 1) default) = .tuple [.int (p : Int), rat (nds.getD (i + 1) default).ch, .tuple ((nds.getD (i + 1) default).costs.map rat), .tuple ((nds.getD (i + 1) default).rows.map rowD)] := by
        unfold ndD; rw [hp]; rfl
      rw [this]
      exact rd_ix_T rfl
    refine ⟨_, _, as_name, rn_appLL (i := 1) (n := p) (k := (p : Int)) rfl (ev_op (ev_op (by walk_at "ev") (by walk_at "ev") ix1) (by walk_at "ev") ix2) (ixN_nat (by rw [lsAt_len]; omega)) (lsAt_get (by omega)) (by walk_at "ev") (by have := chiN_few nds (i + 1) p; rw [List.length_map, sizeLine_eq]; omega), ?_⟩
    rw [lsAt_succ hp (by omega)]
    walk_at "less"
  · refine en_frz (i := 1) rfl reads_LL ?_
    have mp : ((lsAt nds nds.length).map PyData.list).map tupK = (List.range nds.length).map fun v => natsD (chiF nds v) := by
      unfold lsAt
      rw [List.map_map, List.map_map]; rfl
    refine en_rt (rn_ret (ev_cb (ea_cons (ev_lcM (W' := fun _ _ _ _ => False) (js := [4]) tupK (src_list (W := fun _ _ _ _ => False) (by walk_at "ev")) (by intro j hj; exact hj) (by rw [List.length_map, lsAt_len, sizeLine_eq]; omega) (fun i d hd => ?_)) ea_nil) rc_tup_l)) (by rw [mp])
    obtain ⟨l, hl, rfl⟩ := List.mem_map.mp (List.mem_of_getElem? hd)
    exact ⟨_, as_name, ev_cb (by walk_at "ev") rc_tup_l⟩
abbrev s_check_tree : Stmt := topS 32
theorem sc_check_tree : FnScope ["nodes", "children", "depths", "last", "at", "total", "child"] ["nodes", "children", "depths", "last"] (defScope s_check_tree) := ⟨rfl, rfl, rfl, by decide +kernel, rfl, by decide +kernel, by decide +kernel⟩
structure TrOk (nds : List Nd) (last : Nat) : Prop where
  l2 : nds.length ≤ 16
  nf : ∀ n ∈ nds, Nf n.ch ∧ Qz 100 n.ch
  lf : ∀ k, k < nds.length → leafB nds k = true → (depF nds).getD k 0 = last
  sm : ∀ k, k < nds.length → leafB nds k = false → qsumN ((chiF nds k).map fun w => (nds.getD w default).ch) (chiF nds k).length = (nds.getD k default).ch
def R_check_tree (ds : List PyData) (r : Res PyData) : Prop := ∃ (nds : List Nd) (last : Nat), ds = [.tuple (nds.map ndD), .tuple ((List.range nds.length).map fun v => natsD (chiF nds v)), natsD (depF nds), .int (last : Int)] ∧ TrOk nds last ∧ r = .ok .none
theorem qsumN_ok {xs : List Q2} (h : ∀ x ∈ xs, Qz 100 x) : ∀ k, k ≤ xs.length → Qz (1 + 101 * k) (qsumN xs k)
  | 0, _ => ⟨by show (0 : Int).natAbs < 2 ^ 1; decide, by show (1 : Int).natAbs < 2 ^ 1; decide, by show (1 : Int) ≠ 0; decide⟩
  | k + 1, hk => (qadd_qz (qsumN_ok h k (by omega)) (h (xs.getD k (0, 1)) (by rw [DL.getD_at (by omega)]; exact List.getElem_mem _))).mono (by omega)
theorem len_check_tree : ∀ ds r, R_check_tree ds r → ds.length = (["nodes", "children", "depths", "last"] : List Str).length := by
  rintro _ _ ⟨_, _, rfl, _⟩; rfl
theorem ok_check_tree (T : Tx K mg Z0 Z1) (D : DefAt K mg "check_tree" s_check_tree []) (c_plus : CalX P w K mg base CX0 3 "plus" [] (RQ 3000 fun a b => rat (qadd a b))) (e_BadTask : Err2 P w K mg base "BadTask" CK "word" "place") : CalX P w K mg base (L2N.CX P w) 4 "check_tree" [] R_check_tree := by
  refine okR D (bind0 (fun _ _ _ _ _ _ us hl => match us, hl with | [_, _, _, _], _ => rfl)) sc_check_tree len_check_tree fun f cdv A outer s H Ex hr => ⟨_, (pss_one (ps_for (passes_of rfl) rfl (pi_range1 rfl T.n_range (pa_cons (pe_callB call_len (by rfl) T.n_len (by decide +kernel) (pa_cons (pv 0) pa_nil)) pa_nil)) (pg_name (i := 4) sc_check_tree.nd rfl (by first | exact Or.inl rfl | exact Or.inr rfl)) (pss_one (ps_if (pt_cmpR (op_eqU (hu64 hr)) (pe_ix ix_seq (pv 1) (pv 4) (fun _ _ => rfl)) (pe_tup pa_nil) (nomark _)) (pss_one (ps_if (pt_cmpR (op_neU (hu64 hr)) (pe_ix ix_seq (pv 2) (pv 4) (fun _ _ => rfl)) (pv 3) (nomark _)) (pss_one (L2N.ps_raise rfl (L2N.takes_of rfl rfl rfl rfl) (pmk_e2 e_BadTask hr (by decide) (pa_cons pe_str (pa_cons (pv 4) pa_nil))))) pss_nil)) (pss_cons (ps_set (i := 5) sc_check_tree.nd rfl (by first | exact Or.inl rfl | exact Or.inr rfl) (pe_cT T.c_ZERO))
    (pss_cons (ps_for (passes_of rfl) rfl (pi_seq (K := K) rfl (pe_ix ix_seq (pv 1) (pv 4) (fun _ _ => rfl))) (pg_name (i := 6) sc_check_tree.nd rfl (by first | exact Or.inl rfl | exact Or.inr rfl)) (pss_one (ps_set (i := 5) sc_check_tree.nd rfl (by first | exact Or.inl rfl | exact Or.inr rfl) (pe_cal c_plus hr (by decide) (fun σ => p0At σ) (pa_cons (pv 5) (pa_cons (pe_ix ix_seq (pe_ix ix_seq (pv 0) (pv 6) (fun _ _ => rfl)) pe_int (fun _ _ => rfl)) pa_nil))))))
    (pss_one (ps_if (pt_cmpR (op_neU (hu64 hr)) (pv 5) (pe_ix ix_seq (pe_ix ix_seq (pv 0) (pv 4) (fun _ _ => rfl)) pe_int (fun _ _ => rfl)) (nomark _)) (pss_one (L2N.ps_raise rfl (L2N.takes_of rfl rfl rfl rfl) (pmk_e2 e_BadTask hr (by decide) (pa_cons pe_str (pa_cons (pv 4) pa_nil))))) pss_nil)))))))), ?_⟩

  rintro ds r ⟨nds, last, rfl, h, rfl⟩
  have l2 := h.l2
  have hZ := T.c_ZERO.d
  refine ⟨.nx _, rn_none (js := [4]) (src_rng1 (W := fun _ _ _ _ => False) (j := (nds.length : Int)) (ea_cons (ev_cb (by walk_at "ev") (len_map_t ndD nds)) ea_nil) (by omega) (by omega)) (fun i d hd => ?_), rfl⟩
  obtain ⟨hi, rfl⟩ := iota_at hd
  have hi : i < nds.length := by simpa using hi
  have ixc : RD K (rIx K) (.tuple ((List.range nds.length).map fun v => natsD (chiF nds v))) (.int (i : Int)) (natsD (chiF nds i)) := rd_ix_T (by rw [at_nat, List.getElem?_map, List.getElem?_range hi]; rfl)
  have ixd : RD K (rIx K) (natsD (depF nds)) (.int (i : Int)) (.int (((depF nds).getD i 0 : Nat) : Int)) := rd_ix_T (at_mapD 0 (fun n : Nat => PyData.int (n : Int)) (by unfold depF; rw [depN_len]; exact hi))
  have ixn : ∀ k, k < nds.length → RD K (rIx K) (.tuple (nds.map ndD)) (.int (k : Int)) (ndD (nds.getD k default)) := fun k hk => rd_ix_T (at_map ndD hk)
  have tst : ∀ {δ : Dn} {te : TE} {W : WX}, EvD K W te δ (.ok (natsD (chiF nds i))) → EvD K W (tOp (rEqU K) te (tTup tNil)) δ (.ok (.bool (leafB nds i))) := fun he => by
    unfold leafB
    rw [← eqv_nats]
    exact ev_op he (ev_tupH ea_nil (by decide)) (rd_eqX (shaped_nats _) rfl)
  refine ⟨_, _, as_name, ?_, Less.refl _⟩
  cases hb : leafB nds i with
  | true =>
    refine rn_weak (by walk_at "less") (rn_ifT' (et_test (tst (ev_op (by walk_at "ev") (by walk_at "ev") ixc))) hb (rn_ifF' (et_test (ev_op (ev_op (by walk_at "ev") (by walk_at "ev") ixd) (by walk_at "ev") rd_neI)) ?_ rn_next))
    rw [decide_eq_true (show (((depF nds).getD i 0 : Nat) : Int) = (last : Int) by rw [h.lf i hi hb])]; rfl
  | false =>
    have qz : ∀ x ∈ (chiF nds i).map (fun w => (nds.getD w default).ch), Qz 100 x := fun x hx => by
      obtain ⟨w, hw, rfl⟩ := List.mem_map.mp hx
      have hw' := chiF_lt hw
      exact (h.nf _ (by rw [DL.getD_at hw']; exact List.getElem_mem _)).2
    have cf := chiN_few nds nds.length i
    refine rn_weak (by walk_at "less") (rn_ifF' (et_test (tst (ev_op (by walk_at "ev") (by walk_at "ev") ixc))) hb (rn_seq (rn_asgE (by walk_at "ev") rfl) (rn_seq (rn_loop (js := [6]) (δ' := [.val (.tuple (nds.map ndD)), .val (.tuple ((List.range nds.length).map fun v => natsD (chiF nds v))), .val (natsD (depF nds)), .val (.int (last : Int)), .val (.int (i : Int)), .val (rat (qsumN ((chiF nds i).map fun w => (nds.getD w default).ch) (chiF nds i).length)), .no]) (fun j => [.val (.tuple (nds.map ndD)), .val (.tuple ((List.range nds.length).map fun v => natsD (chiF nds v))), .val (natsD (depF nds)), .val (.int (last : Int)), .val (.int (i : Int)), .val (rat (qsumN ((chiF nds i).map fun w => (nds.getD w default).ch) j)), .no]) rfl (src_st (W := fun _ _ _ _ => False) (l := (chiF nds i).map fun n : Nat => PyData.int (n : Int)) (ev_op (by walk_at "ev") (by walk_at "ev") ixc)) (fun j d hj hd => ?_) (by rw [List.length_map])) (rn_ifF' (et_test (ev_op (by walk_at "ev") (ev_op (ev_op (by walk_at "ev") (by walk_at "ev") (ixn i hi)) (by walk_at "ev") (rd_ix_T rfl)) (rd_neX (shaped_rat _) (shaped_rat _)))) ?_ rn_next))))
    · rw [List.getElem?_map] at hd
      cases hz : (chiF nds i)[j]? with
      | none => rw [hz] at hd; cases hd
      | some c =>
        rw [hz] at hd
        cases hd
        have hc := chiF_lt (List.mem_of_getElem? hz)
        have hjl := (List.getElem?_eq_some_iff.mp hz).1
        have e : ((chiF nds i).map fun w => (nds.getD w default).ch).getD j (0, 1) = (nds.getD c default).ch := by
          rw [List.getD_eq_getElem?_getD, List.getElem?_map, hz]; rfl
        have q1 := qsumN_ok qz j (by rw [List.length_map]; omega)
        have q2 : Qz 100 (nds.getD c default).ch := (h.nf _ (by rw [DL.getD_at hc]; exact List.getElem_mem _)).2
        have rp : RQ 3000 (fun a b => rat (qadd a b)) [rat (qsumN ((chiF nds i).map fun w => (nds.getD w default).ch) j), rat (nds.getD c default).ch] (.ok (rat (qsumN ((chiF nds i).map fun w => (nds.getD w default).ch) (j + 1)))) := by
          have : qsumN ((chiF nds i).map fun w => (nds.getD w default).ch) (j + 1) = qadd (qsumN ((chiF nds i).map fun w => (nds.getD w default).ch) j) (nds.getD c default).ch := by rw [qsumN, e]
          rw [this]
          exact rq_mk (q1.mono (by have : j ≤ 16 := (by unfold chiF at hjl; omega); omega)) (q2.mono (by decide))
        exact ⟨_, _, as_name, rn_asgE (ev_callWE (ea_cons (by walk_at "ev") (ea_cons (ev_op (ev_op (by walk_at "ev") (by walk_at "ev") (ixn c hc)) (by walk_at "ev") (rd_ix_T rfl)) ea_nil)) rp rfl) rfl, by walk_at "less"⟩
    · rw [h.sm i hi hb, eqv_rat, decide_eq_true rfl]; rfl
end
end K74
end
section
/-! ### the reading tactics -/
local macro_rules | `(tactic| walk_at "sz") => `(tactic| first
  | assumption
  | (apply DL.Sz.neg
     · walk_at "sz")
  | (apply DL.Sz.mul
     · walk_at "sz"
     · walk_at "sz")
  | (apply DL.Sz.add
     · walk_at "sz"
     · walk_at "sz")
  | (apply DL.Sz.sub
     · walk_at "sz"
     · walk_at "sz")
  | (apply DL.Sz.fmod
     · decide
     · walk_at "sz")
  | exact DL.Sz.self)
local macro_rules | `(tactic| walk_at "side") => `(tactic| first
  | assumption
  | (apply DL.cmulW_of
     · walk_at "sz"
     · walk_at "sz"
     · first | decide +kernel | omega)
  | rfl
  | decide
  | omega
  | (simp only [List.length_cons, List.length_nil]; decide)
  | (simp; done)
  | (simp only [PySem.sizeLine_eq, List.length_cons, List.length_nil]; omega))
local macro_rules | `(tactic| walk_at "rd") => `(tactic| first
  | exact DL.rd_addI
  | exact DL.rd_sub
  | exact DL.rd_mulL (by decide) (by decide)
  | exact DL.rd_mulR (by decide) (by decide)
  | (refine DL.rd_mulI ?_
     · walk_at "side")
  | exact DL.rd_pow ⟨by decide, by decide, by decide⟩
  | exact DL.rd_mod (by show (_ : Int) ≠ _; first | decide | assumption)
  | exact DL.rd_ix_T rfl
  | exact DL.rd_ix_L rfl
  | exact DL.rd_eqI
  | exact DL.rd_inC
  | exact DL.rd_niC
  | exact DL.rd_ix_S (by assumption) (by assumption)
  | exact DL.rd_neI
  | exact DL.rd_eqT
  | exact DL.rd_neT
  | exact DL.rd_eqB
  | exact DL.rd_I0b
  | (refine DL.rd_addS ?_
     · walk_at "side")
  | (refine DL.rd_addT ?_
     · walk_at "side")
  | (refine DL.rd_fdiv ?_ ?_
     · walk_at "side"
     · walk_at "side")
  | (refine DL.rd_mod ?_
     · walk_at "side")
  | assumption)
local macro_rules | `(tactic| walk_at "rc") => `(tactic| first
  | exact DL.rc_gcd
  | exact DL.rc_abs
  | exact DL.rc_max2
  | exact DL.rc_intV
  | exact DL.rc_intB
  | exact DL.rc_len_t
  | exact DL.rc_list_l
  | exact DL.rc_list_t
  | exact DL.rc_tup_l
  | exact DL.rc_len_l
  | (apply DL.rc_len_s
     · walk_at "side")
  | (apply DL.rc_str
     · walk_at "side")
  | assumption)
local macro_rules | `(tactic| walk_at "call") => `(tactic| first
  | exact ⟨_, rfl, by assumption, rfl⟩
  | exact ⟨_, rfl, rfl⟩
  | exact ⟨_, _, rfl, rfl⟩
  | assumption
  | fail "call: no contract")
local macro_rules | `(tactic| walk_at "ep") => `(tactic| first
  | with_reducible exact DL.ep_no
  | (with_reducible apply DL.ep_some
     · walk_at "ev"))
local macro_rules | `(tactic| walk_at "ev") => `(tactic| first
  | assumption
  | (with_reducible apply DL.ev_var
     · rfl)
  | with_reducible exact DL.ev_int
  | with_reducible exact DL.ev_str
  | with_reducible exact DL.ev_bl
  | with_reducible exact DL.ev_non
  | with_reducible exact DL.ea_nil
  | exact DL.ev_glob (by assumption)
  | (with_reducible apply DL.ev_op
     · walk_at "ev"
     · walk_at "ev"
     · walk_at "rd")
  | (with_reducible apply DL.ea_cons
     · walk_at "ev"
     · walk_at "ev")
  | (with_reducible apply DL.ev_sl
     · walk_at "ev"
     · walk_at "ep"
     · walk_at "ep"
     · first | exact DL.rs_s (by assumption) | exact DL.rs_l | exact DL.rs_t)
  | (with_reducible apply DL.ev_un
     · walk_at "ev"
     · with_reducible exact DL.ru_neg)
  | (with_reducible apply DL.ev_isiE
     · walk_at "ev"
     · first | rfl | assumption
     · first | rfl | assumption
     · rfl)
  | (with_reducible apply DL.ev_tupH
     · walk_at "ev"
     · walk_at "side")
  | (with_reducible apply DL.ev_lstH
     · walk_at "ev"
     · walk_at "side")
  | (with_reducible apply DL.ev_cb
     · walk_at "ev"
     · walk_at "rc")
  | (with_reducible apply DL.et_test
     · walk_at "ev")
  | (with_reducible apply DL.et_B
     · walk_at "ev")
  | (with_reducible apply DL.et_not
     · walk_at "ev")
  | (with_reducible apply DL.et_and
     · walk_at "ev"
     · (intro _; walk_at "ev"))
  | (with_reducible apply DL.et_or
     · walk_at "ev"
     · (intro _; walk_at "ev"))
  | (with_reducible apply DL.ev_xf
     · rfl
     · rfl)
  | (with_reducible apply DL.ev_chain
     · walk_at "ev"
     · walk_at "ev"
     · walk_at "rd"
     · (intro _; walk_at "ev")
     · (intro _; walk_at "rd"))
  | (with_reducible apply DL.ev_fld
     · walk_at "ev"
     · assumption
     · assumption
     · rfl)
  | (with_reducible apply DL.ev_isN
     · walk_at "ev")
  | (with_reducible apply DL.ev_notN
     · walk_at "ev")
  | (with_reducible apply DL.ev_andV
     · walk_at "ev"
     · (intro _; walk_at "ev"))
  | (with_reducible apply DL.ev_orV
     · walk_at "ev"
     · (intro _; walk_at "ev"))
  | (with_reducible apply DL.ev_notV
     · walk_at "ev")
  | (with_reducible apply DL.ev_callE
     · walk_at "ev"
     · walk_at "call"
     · rfl)
  | (with_reducible apply DL.ev_callSE
     · walk_at "ev"
     · walk_at "call"
     · rfl))
local macro_rules | `(tactic| walk_at "less") => `(tactic| (
  (try simp only [List.set_cons_zero, List.set_cons_succ])
  repeat (first | exact DL.less_nil | apply DL.less_same | apply DL.less_no)))
local macro_rules | `(tactic| walk_at "nat") => `(tactic| first
  | assumption
  | (with_reducible apply DL.ev_var
     · rfl)
  | exact DL.ev_int
  | (apply DL.en_ix
     · walk_at "nat"
     · walk_at "nat"
     · omega)
  | (apply DL.en_add
     · walk_at "nat"
     · walk_at "nat")
  | (apply DL.en_mod
     · walk_at "nat"
     · walk_at "nat"
     · omega)
  | (apply DL.en_div
     · walk_at "nat"
     · walk_at "nat"
     · omega
     · omega)
  | (apply DL.en_mul
     · walk_at "nat"
     · walk_at "nat"
     · first | decide | omega
     · first | decide | omega))

set_option Elab.async false
set_option linter.all false
set_option maxRecDepth 100000
set_option maxHeartbeats 4000000
set_option exponentiation.threshold 10000
/-! K74F: Task -/
namespace K74
open PySem PySem.Spec PyProof.Rows L2 DL
section
variable {P : Program} {w : World} {K : PySem.W.Frag} {mg : Str → Option Value} {base : Heap} {Z0 Z1 CB CM CK TKC CX1 : Addr}
structure TkC (K : PySem.W.Frag) (C : Addr) : Prop where
  cl : Cls K C
  rounds : NoAttr K C "rounds"
  nodes : NoAttr K C "nodes"
  depths : NoAttr K C "depths"
  children : NoAttr K C "children"
  courses : NoAttr K C "courses"
theorem rn_fldN {W : WX} {δ : Dn} {te : TE} {d : PyData} {a C : Addr} {fd : List (Str × PyData)} {f : Str} {i : Nat} (hi : δ[i]? = some (.gen (ownI a C fd))) (he : EvD K W te δ (.ok d)) (hc : Cls K C) (hn : NoAttr K C f) (hl : fd.length < 1000) (hk : (fd.all fun p => decide (p.1 ≠ f)) = true) : Rn K W (sFld K (tVar i) te f) δ (.nx (δ.set i (.gen (ownI a C (fd ++ [(f, d)]))))) := by
  have := rn_fldO hi he hc hn hl
  rwa [putG_new fun p hp => of_decide_eq_true (List.all_eq_true.mp hk p hp)] at this
theorem filter_ints (p : Nat → Bool) (g : PyData → Bool) : ∀ l : List Nat, (∀ n ∈ l, g (.int (n : Int)) = p n) → (l.map fun n : Nat => PyData.int (n : Int)).filter g = (l.filter p).map fun n : Nat => PyData.int (n : Int)
  | [], _ => rfl
  | a :: r, h => by
    rw [List.map_cons, List.filter_cons, List.filter_cons, h a List.mem_cons_self, filter_ints p g r fun n hn => h n (List.mem_cons_of_mem _ hn)]
    cases p a <;> rfl
theorem iota_map (n : Nat) : iota 0 n = (List.range n).map fun k : Nat => PyData.int (k : Int) := by
  refine List.ext_getElem? fun i => ?_
  rw [List.getElem?_map]
  by_cases h : i < n
  · rw [iota_get h, List.getElem?_range h]
    show some (PyData.int (0 + (i : Int))) = some (PyData.int (i : Int))
    rw [Int.zero_add]
  · rw [List.getElem?_eq_none (by rw [iota_len]; omega), List.getElem?_eq_none (by rw [List.length_range]; omega)]; rfl
theorem tk_tr {rs : List (List Str)} {nds : List Nd} (h : TkOk rs nds) : ∀ n ∈ nds, Nf n.ch ∧ Qz 100 n.ch := fun n hn => by
  obtain ⟨k, hk, e⟩ := List.mem_iff_getElem.mp hn
  have q := h.nd k hk
  rw [DL.getD_at hk, e] at q
  exact ⟨q.chn, q.chz⟩
theorem dep_last (nds : List Nd) {i : Nat} (hi : i < nds.length) : (depF nds).getD i 0 = (match (nds.getD i default).par with
    | none => 0
    | some p => (depN nds i).getD p 0 + 1) := by
  unfold depF
  rw [← depN_get nds (k := i + 1) (m := nds.length) (by omega) (by omega), depN]
  have e0 := depN_len nds i
  rw [List.getD_eq_getElem?_getD, List.getElem?_append_right (by omega), e0, Nat.sub_self]; rfl
theorem tk_dep {rs : List (List Str)} {nds : List Nd} (h : TkOk rs nds) {i p : Nat} (hi : i < nds.length) (hp : (nds.getD i default).par = some p) (hl : p < i) : (depN nds i).getD p 0 ≠ rs.length - 1 := by
  have q := (h.nd i hi).dl
  have e : (depF nds).getD i 0 = (depN nds i).getD p 0 + 1 := by
    rw [dep_last nds hi, hp]
  omega
theorem dep_now (nds : List Nd) {i : Nat} (hi : i < nds.length) : depN nds (i + 1) = depN nds i ++ [(depF nds).getD i 0] := by
  rw [dep_last nds hi, depN]; try rfl
theorem qnat (l : List Nat) (x : Nat) : (l ++ [x]).map (fun n : Nat => PyData.int (n : Int)) = l.map (fun n : Nat => PyData.int (n : Int)) ++ [.int (x : Int)] := by rw [List.map_append]; rfl
theorem at_last {l : List Nat} {x i : Nat} (h : l.length = i) : atI ((l ++ [x]).map fun n : Nat => PyData.int (n : Int)) (i : Int) = some (.int (x : Int)) := by
  rw [at_nat, List.getElem?_map, List.getElem?_append_right (by omega), h, Nat.sub_self]; rfl
def R_Task (C : Addr) (ds : List PyData) (r : Res PyData) : Prop := ∃ (fo fn : List PyData → PyData) (rs : List (List Str)) (nds : List Nd), Sq fo ∧ Sq fn ∧ ds = [fo (rs.map rndD), fn (nds.map ndD)] ∧ TkOk rs nds ∧ r = .ok (taskD C rs nds)

abbrev s_Task___init__ : Stmt := clsS 33 0
theorem sc_Task___init__ : FnScope ["self", "rounds", "nodes", "last", "depths", "kept", "at"] ["self", "rounds", "nodes"] (defScope s_Task___init__) := ⟨rfl, rfl, rfl, by decide +kernel, rfl, by decide +kernel, by decide +kernel⟩
theorem len_Task___init__ : ∀ ds r, (R_Task TKC) ds r → ds.length + 1 = (["self", "rounds", "nodes"] : List Str).length := by
  rintro _ _ ⟨_, _, _, _, _, _, rfl, _⟩; rfl
theorem ok_Task___init__ (T : Tx K mg Z0 Z1) (D : InitAt K mg "Task" TKC "Task.__init__" s_Task___init__) (c_checked_rounds : CalX P w K mg base (L2N.CX P w) 2 "checked_rounds" [] R_checked_rounds) (c_children_of : CalX P w K mg base CX0 1 "children_of" [] R_children_of) (c_check_tree : CalX P w K mg base (L2N.CX P w) 4 "check_tree" [] R_check_tree) (c_checked_depth : CalX P w K mg base (L2N.CX P w) 2 "checked_depth" [] R_checked_depth) (c_checked_node : CalX P w K mg base (L2N.CX P w) 4 "checked_node" [] R_checked_node) (k : TkC K TKC) (e_BadTask : Err2 P w K mg base "BadTask" CK "word" "place") (e_TooMany : Err2 P w K mg base "TooMany" CM "word" "limit") : CalI P w K mg base (L2N.CX P w) 5 "Task" TKC (R_Task TKC) := by
  refine okNew D (bindM0 (fun _ _ _ _ _ _ us hl => match us, hl with | [_, _, _], _ => rfl)) sc_Task___init__ len_Task___init__ fun f cdv A outer s H Ex hr => ⟨_, (pss_cons (ps_fld (pv 0) (pe_cal c_checked_rounds hr (by decide) (fun σ => pLN σ) (pa_cons (pv 1) pa_nil)) (by rfl))
    (pss_cons (ps_if (pt_cmpR (op_eqU (hu64 hr)) (pe_callB call_len (by rfl) T.n_len (by decide +kernel) (pa_cons (pv 2) pa_nil)) pe_int (nomark _)) (pss_one (L2N.ps_raise rfl (L2N.takes_of rfl rfl rfl rfl) (pmk_e2 e_BadTask hr (by decide) (pa_cons pe_str (pa_cons pe_int pa_nil))))) pss_nil)
    (pss_cons (ps_if (pt_cmpR op_gt (pe_callB call_len (by rfl) T.n_len (by decide +kernel) (pa_cons (pv 2) pa_nil)) (pe_cI T.c_MOST_NODES) (nomark _)) (pss_one (L2N.ps_raise rfl (L2N.takes_of rfl rfl rfl rfl) (pmk_e2 e_TooMany hr (by decide) (pa_cons pe_str (pa_cons (pe_cI T.c_MOST_NODES) pa_nil))))) pss_nil)
    (pss_cons (ps_set (i := 3) sc_Task___init__.nd rfl (by first | exact Or.inl rfl | exact Or.inr rfl) (pe_op op_sub (pe_callB call_len (by rfl) T.n_len (by decide +kernel) (pa_cons (pe_fldK (K := K) rfl (pv 0)) pa_nil)) pe_int))
    (pss_cons (ps_set (i := 4) sc_Task___init__.nd rfl (by first | exact Or.inl rfl | exact Or.inr rfl) (pe_lst pa_nil))
    (pss_cons (ps_set (i := 5) sc_Task___init__.nd rfl (by first | exact Or.inl rfl | exact Or.inr rfl) (pe_lst pa_nil))
    (pss_cons (ps_for (passes_of rfl) rfl (pi_range1 rfl T.n_range (pa_cons (pe_callB call_len (by rfl) T.n_len (by decide +kernel) (pa_cons (pv 2) pa_nil)) pa_nil)) (pg_name (i := 6) sc_Task___init__.nd rfl (by first | exact Or.inl rfl | exact Or.inr rfl)) (pss_cons (ps_expr (pe_bm PySem.F.plainAttrs_list PySem.F.slot_list_append PySem.F.type_list_append mt_append (pv 4) (pa_cons (pe_cal c_checked_depth hr (by decide) (fun σ => pLN σ) (pa_cons (pv 6) (pa_cons (pe_ix ix_seq (pe_ix ix_seq (pv 2) (pv 6) (fun _ _ => rfl)) pe_int (fun _ _ => rfl)) (pa_cons (pv 4) (pa_cons (pv 3) pa_nil))))) pa_nil)))
    (pss_one (ps_expr (pe_bm PySem.F.plainAttrs_list PySem.F.slot_list_append PySem.F.type_list_append mt_append (pv 5) (pa_cons (pe_cal c_checked_node hr (by decide) (fun σ => pLN σ) (pa_cons (pv 6) (pa_cons (pe_ix ix_seq (pv 2) (pv 6) (fun _ _ => rfl)) (pa_cons (pe_fldK (K := K) rfl (pv 0)) (pa_cons (pe_ix ix_seq (pv 4) (pv 6) (fun _ _ => rfl)) pa_nil))))) pa_nil))))))
    (pss_cons (ps_fld (pv 0) (pe_callTy call_tuple_of (by rfl) T.n_tuple (by decide +kernel) (pa_cons (pv 5) pa_nil)) (by rfl))
    (pss_cons (ps_fld (pv 0) (pe_callTy call_tuple_of (by rfl) T.n_tuple (by decide +kernel) (pa_cons (pv 4) pa_nil)) (by rfl))
    (pss_cons (ps_fld (pv 0) (pe_cal c_children_of hr (by decide) (fun σ => p0At σ) (pa_cons (pe_fldK (K := K) rfl (pv 0)) pa_nil)) (by rfl))
    (pss_cons (ps_expr (pe_cal c_check_tree hr (by decide) (fun σ => pLN σ) (pa_cons (pe_fldK (K := K) rfl (pv 0)) (pa_cons (pe_fldK (K := K) rfl (pv 0)) (pa_cons (pe_fldK (K := K) rfl (pv 0)) (pa_cons (pv 3) pa_nil))))))
    (pss_one (ps_fld (pv 0) (pe_callTy call_tuple_of (by rfl) T.n_tuple (by decide +kernel) (pa_cons (pe_lc (own := [("at", 6)]) rfl sc_Task___init__.nd (pi_range1 rfl T.n_range (pa_cons (pe_callB call_len (by rfl) T.n_len (by decide +kernel) (pa_cons (pv 5) pa_nil)) pa_nil)) (blkOk_by (by show blkC ["self", "rounds", "nodes", "last", "depths", "kept", "at"] (defScope s_Task___init__) _ [("at", 6)] = true; decide +kernel)) (fun _ _ _ _ _ => (pg_name (i := 6) sc_Task___init__.nd rfl (by first | exact Or.inl rfl | exact Or.inr rfl))) (fun _ _ _ _ _ => pts_one (pt_cmpR (op_eqK (K := K) (hu64 hr) rfl) (pe_ix (ix_K (K := K) rfl) (pe_fldK (K := K) rfl (pv 0)) (pv 6) (fun _ _ => rfl)) (pe_tup pa_nil) (nomark _))) (fun _ _ _ _ _ => (pv 6))) pa_nil)) (by rfl)))))))))))))), ?_⟩

  rintro a ds r ⟨fo, fn, rs, nds, hF, hN, rfl, h, rfl⟩
  have kc := k.cl
  have l1 := h.l1
  have l2 := h.l2
  have r1 := h.rnd.l1
  have r2 := h.rnd.l2
  have rr : R_checked_rounds [fo (rs.map rndD)] (.ok (.tuple (rs.map rndD))) := ⟨fo, rs, hF.is, rfl, h.rnd, rfl⟩
  have ln := hN.len (K := K) (nds.map ndD)
  rw [List.length_map] at ln
  have ixn : ∀ i, i < nds.length → RD K (rIx K) (fn (nds.map ndD)) (.int (i : Int)) (ndD (nds.getD i default)) := fun i hi => hN.ix (at_map ndD hi)
  refine ei_seq (rn_fldN (i := 0) rfl (ev_callWE (by walk_at "ev") rr rfl) kc k.rounds (Nat.le_of_ble_eq_true rfl) (by rfl)) ?_
  refine ei_seq (rn_ifF' (et_test (ev_op (ev_cb (by walk_at "ev") ln) (by walk_at "ev") rd_eqI)) (by exact decide_eq_false (by omega)) rn_next) ?_
  refine ei_seq (rn_ifF' (et_test (ev_op (ev_cb (by walk_at "ev") ln) (by walk_at "ev") rd_I0b)) (by exact decide_eq_false (by omega)) rn_next) ?_
  refine ei_seq (rn_asgE (i := 3) (d := .int ((rs.length - 1 : Nat) : Int)) (ev_is (ev_op (ev_cb (ea_cons (ev_fldO (i := 0) rfl kc k.rounds rfl) ea_nil) (len_map_t rndD rs)) ev_int rd_sub) (by congr 1; omega)) rfl) ?_
  refine ei_seq (rn_asgO ea_nil (by decide)) ?_
  refine ei_seq (rn_asgO ea_nil (by decide)) ?_
  refine ei_seq (rn_loop (js := [6]) (δ' := [.gen (ownI a TKC [("rounds", .tuple (rs.map rndD))]), .val (fo (rs.map rndD)), .val (fn (nds.map ndD)), .val (.int ((rs.length - 1 : Nat) : Int)), .own ((depF nds).map fun n : Nat => PyData.int (n : Int)), .own (nds.map ndD), .no]) (fun i => [.gen (ownI a TKC [("rounds", .tuple (rs.map rndD))]), .val (fo (rs.map rndD)), .val (fn (nds.map ndD)), .val (.int ((rs.length - 1 : Nat) : Int)), .own ((depN nds i).map fun n : Nat => PyData.int (n : Int)), .own ((nds.take i).map ndD), .no]) rfl (src_rng1 (W := fun _ _ _ _ => False) (j := (nds.length : Int)) (ea_cons (ev_cb (by walk_at "ev") ln) ea_nil) (by omega) (by omega)) (fun i d _ hd => ?_) (by rw [iota_len]; show [_, _, _, _, _, Sl.own ((nds.take nds.length).map ndD), _] = _; rw [List.take_length]; rfl)) ?_
  · obtain ⟨hi, rfl⟩ := iota_at hd
    have hi : i < nds.length := by simpa using hi
    have dq : R_checked_depth [.int (i : Int), parD (nds.getD i default).par, .list ((depN nds i).map fun n : Nat => PyData.int (n : Int)), .int ((rs.length - 1 : Nat) : Int)] (.ok (.int (((depF nds).getD i 0 : Nat) : Int))) := by
      refine ⟨.list, i, (nds.getD i default).par, depN nds i, rs.length - 1, .inl rfl, rfl, ?_, ?_⟩
      · by_cases e : i = 0
        · subst e; exact .inl ⟨rfl, h.p0⟩
        · obtain ⟨p, hp, hl⟩ := h.pr i (by omega) hi
          exact .inr ⟨p, by omega, hp, hl, by rw [depN_len]; exact hl, tk_dep h hi hp hl⟩
      · rw [dep_last nds hi]; try rfl
    have nq : R_checked_node [.int (i : Int), ndD (nds.getD i default), .tuple (rs.map rndD), .int (((depF nds).getD i 0 : Nat) : Int)] (.ok (ndD (nds.getD i default))) := ⟨i, rs, _, _, rfl, r2, h.rnd.few, h.nd i hi, fun e => by subst e; exact h.c0, rfl⟩
    refine ⟨_, _, as_name, rn_seq (rn_app (i := 4) rfl (ev_lend (i := 4) rfl reads_L (ev_callWE (ea_cons (by walk_at "ev") (ea_cons (ev_op (ev_op (by walk_at "ev") (by walk_at "ev") (ixn i hi)) (by walk_at "ev") (rd_ix_T rfl)) (ea_cons (by walk_at "ev") (ea_cons (by walk_at "ev") ea_nil)))) dq rfl) rfl) (by rw [List.length_map, depN_len, sizeLine_eq]; omega)) (rn_app (i := 5) rfl (ev_callWE (ea_cons (by walk_at "ev") (ea_cons (ev_op (by walk_at "ev") (by walk_at "ev") (ixn i hi)) (ea_cons (ev_fldO (i := 0) rfl kc k.rounds rfl) (ea_cons (ev_ixO' (i := 4) rfl (by walk_at "ev") (by rw [← qnat]; exact at_last (depN_len nds i))) ea_nil)))) nq rfl) (by rw [List.length_map, List.length_take, sizeLine_eq]; omega)), ?_⟩
    have e1 : (depN nds (i + 1)).map (fun n : Nat => PyData.int (n : Int)) = (depN nds i).map (fun n : Nat => PyData.int (n : Int)) ++ [.int (((depF nds).getD i 0 : Nat) : Int)] := by rw [dep_now nds hi, qnat]
    have e2 : (nds.take (i + 1)).map ndD = (nds.take i).map ndD ++ [ndD (nds.getD i default)] := by
      rw [List.take_add_one, List.map_append, DL.getD_at hi, List.getElem?_eq_getElem hi]; rfl
    rw [e1, e2]
    walk_at "less"
  refine ei_frz (i := 4) rfl reads_L ?_
  refine ei_frz (i := 5) rfl reads_L ?_
  refine ei_seq (rn_fldN (i := 0) rfl (ev_cb (by walk_at "ev") rc_tup_l) kc k.nodes (Nat.le_of_ble_eq_true rfl) (by rfl)) ?_
  refine ei_seq (rn_fldN (i := 0) rfl (ev_cb (by walk_at "ev") rc_tup_l) kc k.depths (Nat.le_of_ble_eq_true rfl) (by rfl)) ?_
  have cq : R_children_of [.tuple (nds.map ndD)] (.ok (.tuple ((List.range nds.length).map fun v => natsD (chiF nds v)))) := ⟨nds, rfl, h.pro, rfl⟩
  have tq : R_check_tree [.tuple (nds.map ndD), .tuple ((List.range nds.length).map fun v => natsD (chiF nds v)), natsD (depF nds), .int ((rs.length - 1 : Nat) : Int)] (.ok .none) := ⟨nds, rs.length - 1, rfl, ⟨l2, tk_tr h, h.lf, h.sm⟩, rfl⟩
  refine ei_seq (rn_fldN (i := 0) rfl (ev_callWE (ea_cons (ev_fldO (i := 0) rfl kc k.nodes rfl) ea_nil) cq rfl) kc k.children (Nat.le_of_ble_eq_true rfl) (by rfl)) ?_
  refine ei_seq (rn_drop (ev_callWE (ea_cons (ev_fldO (i := 0) rfl kc k.nodes rfl) (ea_cons (ev_fldO (i := 0) rfl kc k.children rfl) (ea_cons (ev_fldO (i := 0) rfl kc k.depths rfl) (ea_cons (by walk_at "ev") ea_nil)))) tq rfl)) ?_
  have leaf : PyData → Bool := fun d => match d with
    | .int n => leafB nds n.toNat
    | _ => false
  refine ei_nx (rn_fldN (i := 0) rfl (ev_cb (ea_cons (ev_lc (W' := fun _ _ _ _ => False) (js := [6]) (fun d => match d with
    | .int n => leafB nds n.toNat
    | _ => false) (fun d => d) (src_rng1 (W := fun _ _ _ _ => False) (j := (nds.length : Int)) (ea_cons (ev_cb (by walk_at "ev") (len_map_l ndD nds)) ea_nil) (by omega) (by omega)) (by intro j hj; exact hj) (by rw [iota_len, sizeLine_eq]; omega) (fun i d hd => ?_)) ea_nil) rc_tup_l) kc k.courses (Nat.le_of_ble_eq_true rfl) (by rfl)) rfl ?_
  · obtain ⟨hi, rfl⟩ := iota_at hd
    have hi : i < nds.length := by simpa using hi
    have ixc : RD K (rIx K) (.tuple ((List.range nds.length).map fun v => natsD (chiF nds v))) (.int (i : Int)) (natsD (chiF nds i)) := rd_ix_T (by rw [at_nat, List.getElem?_map, List.getElem?_range hi]; rfl)
    refine ⟨_, as_name, et_is (et_test (ev_op (ev_op (ev_fldO (i := 0) rfl kc k.children rfl) (by walk_at "ev") ixc) (ev_tupH ea_nil (by decide)) (rd_eqX (shaped_nats _) rfl))) (by rw [eqv_nats]; show (chiF nds i).isEmpty = leafB nds ((i : Int)).toNat; rw [Int.toNat_natCast]; rfl), fun _ => by walk_at "ev"⟩
  · show Except.ok (objD TKC _) = Except.ok (objD TKC (tkD TKC rs nds))
    congr 2
    unfold tkD
    have e : (((iota 0 ((nds.length : Int)).toNat).filter fun d => match d with
      | .int n => leafB nds n.toNat
      | _ => false).map fun d => d) = (couF nds).map fun n : Nat => PyData.int (n : Int) := by
      rw [Int.toNat_natCast, List.map_id', iota_map, filter_ints (leafB nds) _ _ fun n _ => by show leafB nds ((n : Int)).toNat = _; rw [Int.toNat_natCast]]; rfl
    rw [e]; rfl
end
end K74
end
set_option Elab.async false
set_option linter.all false
set_option maxRecDepth 100000
set_option maxHeartbeats 4000000
/-! PW: a list of its own made by a comprehension; workforces, plain. -/
namespace DL
open PySem PySem.Spec PyProof.Rows L2
section
variable {K : PySem.W.Frag} {W W' : WX} {δ : Dn} {te : TE} {tt : TT} {g : TG}
/-- xs = [e for x in .. if ..], a list of its own -/
theorem rn_asgM {wi : TI} {l : List PyData} {js vs : List Nat} {n : Nat} (keep : PyData → Bool) (f : PyData → PyData) (h : SrcD K wi δ l) (hjs : ∀ j ∈ js, j ∈ vs) (hz : l.length ≤ sizeLine)
    (turn : ∀ (i : Nat) d, l[i]? = some d → ∃ δ', AsD K g js d (wipeD δ vs) δ' ∧ EvT K W' tt δ' (.ok (keep d)) ∧ (keep d = true → EvD K W' te δ' (.ok (f d)))) :
    Rn K W (tAsg (tLc wi g tt te vs) (gName n)) δ (.nx (δ.set n (.own ((l.filter keep).map f)))) := fun DD F0 H0 F H σ s E q => by
  refine h H0 F H σ _ s.c E fun J F1 H1 e1 w => fun D hD => ?_
  have E1 := E.mono e1
  refine lc_it w (fun i H' => i ≤ l.length ∧ ∃ F' ws, Ext F1 F' H1 H' ∧ F' D = none ∧ H' D = some (HO.lst ws) ∧ ws.length ≤ i ∧ DqAll K F' ws (((l.take i).filter keep).map f))
    ⟨Nat.zero_le _, F1, [], Ext.side e1.c hD, e1.c.free hD, upd_same, Nat.le_refl _, .nil⟩ (fun i H' _ ⟨_, F', _, s', _⟩ => s'.a.trans s'.c) (fun i v H' H'' hi ⟨_, F', ws, s', fD, hws, hlen, hall⟩ y => ?_) fun H' ⟨_, F', ws, s', fD, hws, hlen, hall⟩ => ?_
  · obtain ⟨rfl, d, hd, hx⟩ := y
    obtain ⟨δ', h1, h2, h3⟩ := turn i d hd
    have E' := (E1.mono s').wipes vs
    refine h1 H0 F' H'' (wipe σ vs) v _ s'.c E' (dp_mono s'.a _ _ hx) fun σ2 w2 E2 => ⟨by rw [w2 vs hjs, wipe_wipe σ vs vs fun u hu => hu], ?_⟩
    refine h2 H0 F' H'' σ2 _ s'.c E2 fun F2 H2 e2 => ?_
    have nD : ∀ {F3 H3 : Hp}, Ext F' F3 H'' H3 → F3 D = none := fun e3 => e3.n D (by rw [hws]; exact fun z => nomatch z) fD
    cases hk : keep d with
    | true =>
      refine h3 hk H0 F2 H2 σ2 _ e2.c (E2.mono e2) fun y F3 H3 e3 dy => ?_
      have e23 := e2.trans e3
      refine ⟨ws, e23.b _ _ hws, by omega, by omega, F3, ws ++ [y], ((s'.trans e23).mut hD (nD e23)), nD e23, upd_same, by simp; omega, ?_⟩
      rw [take_filt keep f hd, hk]
      exact dpa_append (dpAll_mono e23.a _ _ hall) (.cons dy .nil)
    | false =>
      refine ⟨by omega, F2, ws, s'.trans e2, nD e2, e2.b _ _ hws, by omega, ?_⟩
      rw [take_filt keep f hd, hk]
      simpa using dpAll_mono e2.a _ _ hall
  · rw [List.take_length] at hall
    have s1 := s.trans e1
    have h0 : H0 D = none := s1.b.free hD
    have eM : Ext F1 F' H1 (fun a => if a = D then none else H' a) := ⟨s'.a, fun a u ha => by
      have hne : a ≠ D := fun z => by rw [z, hD] at ha; cases ha
      rw [if_neg hne]; exact s'.b _ _ ha, fun a u ha => by
      have hne : a ≠ D := fun z => by rw [z, fD] at ha; cases ha
      rw [if_neg hne]; exact s'.c _ _ ha, s'.n⟩
    have sM : Same (fun a => if a = D then none else H' a) H' := fun a u ha => by
      by_cases hne : a = D
      · have ha' : (if a = D then none else H' a) = some u := ha
        rw [if_pos hne] at ha'; cases ha'
      · have ha' : (if a = D then none else H' a) = some u := ha
        rw [if_neg hne] at ha'; exact ha'
    have s2 := s1.trans eM
    refine q F' H' _ ⟨s2.a, fun a u ha => sM a u (s2.b a u ha), s'.c, s2.n⟩ ((E1.mono eM).setG (fp := [D]) sM (fun a ha => ?_) ⟨D, ws, rfl, rfl, hws, hall⟩)
    rw [List.mem_singleton.mp ha]
    exact ⟨if_pos rfl, fD, h0⟩
/-- a list just made -/
def EvF (K : PySem.W.Frag) (W : WX) (t : TE) (δ : Dn) (l : List PyData) : Prop := ∀ (H0 F H : Hp) (σ : L2.St) (Q : VK), Same F H → EnvR K H0 F H σ δ → (∀ (p : Addr) (vs : List V) (F' H' : Hp), Ext F F' H H' → H' p = some (.lst vs) → DqAll K F' vs l → Q (.ref p) H') → t σ H Q
theorem ef_lst {ta : TA} {ds : List PyData} (h : EvA K W ta δ (.ok ds)) (hl : ds.length ≤ sizeLine) : EvF K W (tLst ta) δ ds := fun H0 F H σ Q s E q =>
  h H0 F H σ _ s E fun vs F1 H1 e1 d1 => ⟨by rw [dpa_len d1]; exact hl, fun p hp => q p vs F1 _ (e1.trans (Ext.side e1.c hp)) upd_same d1⟩
theorem ef_own {i : Nat} {l : List PyData} (hi : δ[i]? = some (Sl.own l)) : EvF K W (tVar i) δ l := fun H0 F H σ Q s E q => by
  obtain ⟨p, vs, h1, h2, h3, h4, h5⟩ := E.own i l hi
  exact ⟨_, h1, q p vs F H (Ext.refl s) h2 h5⟩
theorem ev_cat {ta tb : TE} {l m : List PyData} (ha : EvF K W ta δ l) (hb : EvF K W tb δ m) (hz : l.length + m.length ≤ sizeLine) : EvD K W (tOp (rAddU K) ta tb) δ (.ok (.list (l ++ m))) := fun H0 F H σ Q s E q =>
  ha H0 F H σ _ s E fun p vs F1 H1 e1 g1 d1 => hb H0 F1 H1 σ _ e1.c (E.mono e1) fun p2 us F2 H2 e2 g2 d2 => by
    have hp : H2 p = some (HO.lst vs) := e2.b _ _ g1
    refine .inr (.inr (.inl ⟨p, p2, vs, us, rfl, rfl, hp, g2, by rw [dpa_len d1, dpa_len d2]; exact hz, fun p3 hp3 => ?_⟩))
    exact q _ (upd F2 p3 (.lst (vs ++ us))) _ ((e1.trans e2).trans (Ext.new e2.c hp3)) (.lst (SqL.of upd_same) (dpAll_mono (same_upd (Same.refl _) (e2.c.free hp3)) _ _ (dpa_append (dpAll_mono e2.a _ _ d1) d2)))
theorem ef_lc {wi : TI} {l : List PyData} {js vs : List Nat} (keep : PyData → Bool) (f : PyData → PyData) (h : SrcD K wi δ l) (hjs : ∀ j ∈ js, j ∈ vs) (hz : l.length ≤ sizeLine)
    (turn : ∀ (i : Nat) d, l[i]? = some d → ∃ δ', AsD K g js d (wipeD δ vs) δ' ∧ EvT K W' tt δ' (.ok (keep d)) ∧ (keep d = true → EvD K W' te δ' (.ok (f d)))) :
    EvF K W (tLc wi g tt te vs) δ ((l.filter keep).map f) := fun H0 F H σ Q s E q => by
  refine h H0 F H σ _ s E fun J F1 H1 e1 w => fun D hD => ?_
  have E1 := E.mono e1
  refine lc_it w (fun i H' => i ≤ l.length ∧ ∃ F' ws, Ext F1 F' H1 H' ∧ F' D = none ∧ H' D = some (HO.lst ws) ∧ ws.length ≤ i ∧ DqAll K F' ws (((l.take i).filter keep).map f))
    ⟨Nat.zero_le _, F1, [], Ext.side e1.c hD, e1.c.free hD, upd_same, Nat.le_refl _, .nil⟩ (fun i H' _ ⟨_, F', _, s', _⟩ => s'.a.trans s'.c) (fun i v H' H'' hi ⟨_, F', ws, s', fD, hws, hlen, hall⟩ y => ?_) fun H' ⟨_, F', ws, s', fD, hws, hlen, hall⟩ => ?_
  · obtain ⟨rfl, d, hd, hx⟩ := y
    obtain ⟨δ', h1, h2, h3⟩ := turn i d hd
    have E' := (E1.mono s').wipes vs
    refine h1 H0 F' H'' (wipe σ vs) v _ s'.c E' (dp_mono s'.a _ _ hx) fun σ2 w2 E2 => ⟨by rw [w2 vs hjs, wipe_wipe σ vs vs fun u hu => hu], ?_⟩
    refine h2 H0 F' H'' σ2 _ s'.c E2 fun F2 H2 e2 => ?_
    have nD : ∀ {F3 H3 : Hp}, Ext F' F3 H'' H3 → F3 D = none := fun e3 => e3.n D (by rw [hws]; exact fun z => nomatch z) fD
    cases hk : keep d with
    | true =>
      refine h3 hk H0 F2 H2 σ2 _ e2.c (E2.mono e2) fun y F3 H3 e3 dy => ?_
      have e23 := e2.trans e3
      refine ⟨ws, e23.b _ _ hws, by omega, by omega, F3, ws ++ [y], ((s'.trans e23).mut hD (nD e23)), nD e23, upd_same, by simp; omega, ?_⟩
      rw [take_filt keep f hd, hk]
      exact dpa_append (dpAll_mono e23.a _ _ hall) (.cons dy .nil)
    | false =>
      refine ⟨by omega, F2, ws, s'.trans e2, nD e2, e2.b _ _ hws, by omega, ?_⟩
      rw [take_filt keep f hd, hk]
      simpa using dpAll_mono e2.a _ _ hall
  · rw [List.take_length] at hall
    exact q D ws F' H' (e1.trans s') hws hall
/-- .. without a test -/
theorem ef_lcM {wi : TI} {l : List PyData} {js vs : List Nat} (f : PyData → PyData) (h : SrcD K wi δ l) (hjs : ∀ j ∈ js, j ∈ vs) (hz : l.length ≤ sizeLine)
    (turn : ∀ (i : Nat) d, l[i]? = some d → ∃ δ', AsD K g js d (wipeD δ vs) δ' ∧ EvD K W' te δ' (.ok (f d))) : EvF K W (tLc wi g tYes te vs) δ (l.map f) := by
  have q := ef_lc (K := K) (W := W) (W' := W') (δ := δ) (g := g) (tt := tYes) (te := te) (fun _ => true) f h hjs hz fun i d hd => by
    obtain ⟨δ', h1, h2⟩ := turn i d hd
    exact ⟨δ', h1, et_yes, fun _ => h2⟩
  have e : l.filter (fun _ => true) = l := List.filter_eq_self.mpr fun _ _ => rfl
  rw [e] at q
  exact q
end
def nonB : PyData → Bool
  | .none => true
  | _ => false
theorem ev_isNb {K : PySem.W.Frag} {W : WX} {δ : Dn} {ta : TE} {x : PyData} {b : Bool} (h : EvD K W ta δ (.ok x)) (e : nonB x = b) : EvD K W (tIsN ta) δ (.ok (.bool b)) := by
  subst e
  cases x <;> exact ev_isN h
theorem ev_notNb {K : PySem.W.Frag} {W : WX} {δ : Dn} {ta : TE} {x : PyData} {b : Bool} (h : EvD K W ta δ (.ok x)) (e : (!nonB x) = b) : EvD K W (tNotN ta) δ (.ok (.bool b)) := by
  subst e
  cases x <;> exact ev_notN h
theorem at_head (d : PyData) (l : List PyData) : atI (d :: l) 0 = some d := by
  have := at_nat (l := d :: l) (i := 0)
  exact this
/-! ### the ends of a name -/
def exName (k : Nat) : Str := "extra" ++ toString (k : Int)
/-! ### workforces -/
structure Wk where
  par : Option Nat
  ch : Q2
  need : Q2
  rate : Q2
instance : Inhabited Wk := ⟨⟨none, (0, 1), (0, 1), (0, 1)⟩⟩
def wkD (n : Wk) : PyData := .tuple [parD n.par, rat n.ch, rat n.need, rat n.rate]
def wPar (ws : List Wk) : List Nd := ws.map fun n => ⟨n.par, n.ch, [], []⟩
def wRow (d : Nat) (need : Q2) : TRow := ([("hired", (1, 1)), (exName d, (1, 1))], need)
def wNd (pay : Q2) (ws : List Wk) (i : Nat) : Nd :=
  ⟨(ws.getD i default).par, (ws.getD i default).ch, if i = 0 then [pay, (ws.getD i default).rate] else [(ws.getD i default).rate], [wRow ((depF (wPar ws)).getD i 0) (ws.getD i default).need]⟩
def wNds (pay : Q2) (ws : List Wk) : List Nd := (List.range ws.length).map (wNd pay ws)
def wRs (m : Nat) : List (List Str) := ((List.range (m + 1)).map fun k => [exName k]).set 0 ["hired", "extra0"]
structure Pos1 (n : Nat) (p : Q2) : Prop where
  nf : Nf p
  pos : 0 < p.1
  qz : Qz n p
structure Non0 (n : Nat) (p : Q2) : Prop where
  nf : Nf p
  pos : 0 ≤ p.1
  qz : Qz n p
structure WkOk (pay : Q2) (ws : List Wk) (m : Nat) : Prop where
  l1 : 1 ≤ ws.length
  l2 : ws.length ≤ 16
  m3 : m ≤ 3
  p0 : (ws.getD 0 default).par = none
  c0 : (ws.getD 0 default).ch = (1, 1)
  pr : ∀ k, 0 < k → k < ws.length → ∃ p, (ws.getD k default).par = some p ∧ p < k
  dm : ∀ k, k < ws.length → (depF (wPar ws)).getD k 0 ≤ m
  dx : ∃ k, k < ws.length ∧ (depF (wPar ws)).getD k 0 = m
  lf : ∀ k, k < ws.length → leafB (wPar ws) k = true → (depF (wPar ws)).getD k 0 = m
  sm : ∀ k, k < ws.length → leafB (wPar ws) k = false → qsumN ((chiF (wPar ws) k).map fun w => (ws.getD w default).ch) (chiF (wPar ws) k).length = (ws.getD k default).ch
  pay : Pos1 600 pay
  ch : ∀ k, k < ws.length → Pos1 24 (ws.getD k default).ch
  need : ∀ k, k < ws.length → Non0 6 (ws.getD k default).need
  rate : ∀ k, k < ws.length → Pos1 6 (ws.getD k default).rate
theorem getD_map {α β : Type} {f : α → β} {a : α} {b : β} {l : List α} {i : Nat} (h : i < l.length) : (l.map f).getD i b = f (l.getD i a) := by
  rw [DL.getD_at (by rwa [List.length_map]), DL.getD_at h, List.getElem_map]
theorem wPar_len (ws : List Wk) : (wPar ws).length = ws.length := List.length_map _
theorem wNds_len (pay : Q2) (ws : List Wk) : (wNds pay ws).length = ws.length := by unfold wNds; rw [List.length_map, List.length_range]
theorem wNds_get (pay : Q2) (ws : List Wk) {i : Nat} (h : i < ws.length) : (wNds pay ws).getD i default = wNd pay ws i := by
  unfold wNds
  rw [getD_map (a := 0) (by rwa [List.length_range]), DL.getD_at (by rwa [List.length_range]), List.getElem_range]
theorem wPar_get (ws : List Wk) {i : Nat} (h : i < ws.length) : (wPar ws).getD i default = ⟨(ws.getD i default).par, (ws.getD i default).ch, [], []⟩ := by
  unfold wPar
  rw [getD_map (a := default) h]
/-- depths and children depend on the parents alone -/
theorem depN_par {a b : List Nd} : ∀ k, (∀ i, i < k → (a.getD i default).par = (b.getD i default).par) → depN a k = depN b k
  | 0, _ => rfl
  | k + 1, h => by
    rw [depN, depN, depN_par k fun i hi => h i (by omega), h k (by omega)]
theorem chiN_par {a b : List Nd} {m v : Nat} (h : ∀ i, i < m → (a.getD i default).par = (b.getD i default).par) : chiN a m v = chiN b m v := by
  unfold chiN
  refine List.filter_congr fun w hw => ?_
  rw [h w (List.mem_range.mp hw)]
theorem w_par (pay : Q2) (ws : List Wk) : ∀ i, i < ws.length → ((wNds pay ws).getD i default).par = ((wPar ws).getD i default).par := fun i hi => by
  rw [wNds_get pay ws hi, wPar_get ws hi]; rfl
theorem w_dep (pay : Q2) (ws : List Wk) : depF (wNds pay ws) = depF (wPar ws) := by
  unfold depF
  rw [wNds_len, wPar_len]
  exact depN_par _ (w_par pay ws)
theorem w_chi (pay : Q2) (ws : List Wk) (v : Nat) : chiF (wNds pay ws) v = chiF (wPar ws) v := by
  unfold chiF
  rw [wNds_len, wPar_len]
  exact chiN_par (w_par pay ws)
theorem w_leaf (pay : Q2) (ws : List Wk) (v : Nat) : leafB (wNds pay ws) v = leafB (wPar ws) v := by
  unfold leafB
  rw [w_chi]
theorem dep_zero {nds : List Nd} (h : PrOk nds) : ∀ k, k < nds.length → ((depF nds).getD k 0 = 0 ↔ k = 0) := fun k hk => by
  have e : (depF nds).getD k 0 = (match (nds.getD k default).par with
    | none => 0
    | some p => (depN nds k).getD p 0 + 1) := by
    unfold depF
    rw [← depN_get nds (k := k + 1) (m := nds.length) (by omega) (by omega), depN]
    have e0 := depN_len nds k
    rw [List.getD_eq_getElem?_getD, List.getElem?_append_right (by omega), e0, Nat.sub_self]; rfl
  rw [e]
  by_cases z : k = 0
  · subst z; rw [h.p0]
  · obtain ⟨p, hp, _⟩ := h.pr k (by omega) hk
    rw [hp]; simp [z]
theorem WkOk.pro {pay : Q2} {ws : List Wk} {m : Nat} (h : WkOk pay ws m) : PrOk (wPar ws) := by
  refine ⟨by rw [wPar_len]; exact h.l1, by rw [wPar_len]; exact h.l2, by rw [wPar_get ws (by have := h.l1; omega)]; exact h.p0, fun k h0 hk => ?_⟩
  rw [wPar_len] at hk
  rw [wPar_get ws hk]
  exact h.pr k h0 hk
def nmB (z : Str) : Bool := decide (1 ≤ z.length) && (decide (z.length ≤ 12) && (z.cps.toList.all (fun c => decide (c ∈ ("abcdefghijklmnopqrstuvwxyz0123456789_" : Str).cps.toList)) && (match z.cps.toList with
  | [] => false
  | c :: _ => decide (c ∈ ("abcdefghijklmnopqrstuvwxyz" : Str).cps.toList))))
theorem nmB_ok {z : Str} (h : nmB z = true) : NmOk z := by
  unfold nmB at h
  rw [Bool.and_eq_true, Bool.and_eq_true, Bool.and_eq_true] at h
  obtain ⟨a, b, c, d⟩ := h
  refine ⟨of_decide_eq_true a, of_decide_eq_true b, fun x hx => of_decide_eq_true (List.all_eq_true.mp c x hx), ?_⟩
  cases e : z.cps.toList with
  | nil => rw [e] at d; cases d
  | cons x l => rw [e] at d; exact ⟨x, l, rfl, of_decide_eq_true d⟩
theorem wRs_ok : ∀ m, m ≤ 3 → RndOk (wRs m) := by
  have q : ∀ m : _root_.Fin 4, (1 ≤ (wRs m).length ∧ (wRs m).length ≤ 4) ∧ (∀ r ∈ wRs m, r.length ≤ 3) ∧ (∀ r ∈ wRs m, ∀ z ∈ r, nmB z = true) ∧ (wRs m).flatten.Nodup := by decide +kernel
  intro m hm
  obtain ⟨a, b, c, d⟩ := q ⟨m, by omega⟩
  exact ⟨a.1, a.2, b, fun r hr z hz => nmB_ok (c r hr z hz), d⟩
theorem wRs_at : ∀ m, m ≤ 3 → ∀ d, d ≤ m → d < (wRs m).length ∧ ((wRs m).getD d []).length = (if d = 0 then 2 else 1) ∧ ("hired" : Str) ∈ ((wRs m).take (d + 1)).flatten ∧ exName d ∈ ((wRs m).take (d + 1)).flatten ∧ ("hired" : Str) ≠ exName d := by
  have q : ∀ m : _root_.Fin 4, ∀ d : _root_.Fin 4, d.1 ≤ m.1 → d.1 < (wRs m).length ∧ ((wRs m).getD d []).length = (if d.1 = 0 then 2 else 1) ∧ ("hired" : Str) ∈ ((wRs m).take (d.1 + 1)).flatten ∧ exName d ∈ ((wRs m).take (d.1 + 1)).flatten ∧ ("hired" : Str) ≠ exName d := by decide +kernel
  intro m hm d hd
  exact q ⟨m, by omega⟩ ⟨d, by omega⟩ hd
theorem wRs_len (m : Nat) : (wRs m).length = m + 1 := by unfold wRs; rw [List.length_set, List.length_map, List.length_range]
theorem one_nf : Nf ((1, 1) : Q2) := ⟨by decide, by decide⟩
theorem WkOk.task {pay : Q2} {ws : List Wk} {m : Nat} (h : WkOk pay ws m) : TkOk (wRs m) (wNds pay ws) := by
  have l1 := h.l1
  have g := fun {i : Nat} (hi : i < ws.length) => wNds_get pay ws hi
  refine ⟨wRs_ok m h.m3, by rw [wNds_len]; exact h.l1, by rw [wNds_len]; exact h.l2, by rw [g (by omega)]; exact h.p0, by rw [g (by omega)]; exact h.c0, fun k h0 hk => ?_, fun k hk => ?_, fun k hk hb => ?_, fun k hk hb => ?_⟩
  · rw [wNds_len] at hk
    rw [g hk]; exact h.pr k h0 hk
  · rw [wNds_len] at hk
    rw [g hk, w_dep]
    have hd := h.dm k hk
    obtain ⟨a1, a2, a3, a4, a5⟩ := wRs_at m h.m3 _ hd
    have dz := dep_zero h.pro k (by rw [wPar_len]; exact hk)
    have ch := h.ch k hk
    have rt := h.rate k hk
    refine ⟨a1, ch.nf, ch.pos, ch.qz.mono (by decide), ?_, ?_, by show 1 ≤ 8; omega, ?_⟩
    · rw [a2]
      show (if k = 0 then [pay, (ws.getD k default).rate] else [(ws.getD k default).rate]).length = _
      by_cases z : k = 0
      · rw [if_pos z, if_pos (dz.mpr z)]; rfl
      · rw [if_neg z, if_neg fun e => z (dz.mp e)]; rfl
    · intro c hc
      change c ∈ (if k = 0 then [pay, (ws.getD k default).rate] else [(ws.getD k default).rate]) at hc
      by_cases z : k = 0
      · rw [if_pos z] at hc
        rcases List.mem_cons.mp hc with e | hc
        · rw [e]; exact h.pay.nf
        · rw [List.mem_singleton.mp hc]; exact rt.nf
      · rw [if_neg z] at hc
        rw [List.mem_singleton.mp hc]; exact rt.nf
    · intro r hr
      rw [List.mem_singleton.mp hr]
      refine ⟨by show 2 ≤ 1000; omega, fun t ht => ?_, ?_, fun t ht => ?_, (h.need k hk).nf⟩
      · rcases List.mem_cons.mp ht with e | ht
        · rw [e]; exact a3
        · rw [List.mem_singleton.mp ht]; exact a4
      · show [("hired" : Str), exName _].Nodup
        exact List.nodup_cons.mpr ⟨fun e => a5 (List.mem_singleton.mp e), List.nodup_cons.mpr ⟨by simp, List.nodup_nil⟩⟩
      · rcases List.mem_cons.mp ht with e | ht
        · rw [e]; exact ⟨one_nf, by decide⟩
        · rw [List.mem_singleton.mp ht]; exact ⟨one_nf, (by decide : (1 : Int) ≠ 0)⟩
  · rw [wNds_len] at hk
    rw [w_leaf] at hb
    rw [w_dep, wRs_len, h.lf k hk hb]; omega
  · rw [wNds_len] at hk
    rw [w_leaf] at hb
    rw [w_chi, g hk]
    have q := h.sm k hk hb
    have e : ((chiF (wPar ws) k).map fun w => ((wNds pay ws).getD w default).ch) = (chiF (wPar ws) k).map fun w => (ws.getD w default).ch := by
      refine List.map_congr_left fun w hw => ?_
      have hw' := chiF_lt hw
      rw [wPar_len] at hw'
      rw [g hw']; rfl
    rw [e]; exact q
/-! sums -/
def savN (ws : List Wk) (h : Q2) : Nat → Q2
  | 0 => (0, 1)
  | k + 1 => if qcmp (ws.getD k default).need h > 0 then qadd (savN ws h k) (qmul (ws.getD k default).ch (ws.getD k default).rate) else savN ws h k
def savF (ws : List Wk) (h : Q2) : Q2 := savN ws h ws.length
def cosN (pay : Q2) (ws : List Wk) (h : Q2) : Nat → Q2
  | 0 => qmul pay h
  | k + 1 => if qcmp (ws.getD k default).need h > 0 then qadd (cosN pay ws h k) (qmul (qmul (ws.getD k default).ch (ws.getD k default).rate) (qsub (ws.getD k default).need h)) else cosN pay ws h k
def cosF (pay : Q2) (ws : List Wk) (h : Q2) : Q2 := cosN pay ws h ws.length
def candF (ws : List Wk) : List Q2 := (0, 1) :: ws.map (·.need)
def btB (c : Q2) : Option Q2 → Bool
  | none => true
  | some b => decide (qcmp c b < 0)
theorem btB_some (c b : Q2) : btB c (some b) = decide (qcmp c b < 0) := rfl
def bstN (pay : Q2) (ws : List Wk) : Nat → Option Q2
  | 0 => none
  | k + 1 => cond (decide (qcmp pay (savF ws ((candF ws).getD k (0, 1))) ≥ 0) && btB ((candF ws).getD k (0, 1)) (bstN pay ws k)) (some ((candF ws).getD k (0, 1))) (bstN pay ws k)
def bstF (pay : Q2) (ws : List Wk) : Option Q2 := bstN pay ws (ws.length + 1)
theorem z_qz : Qz 1 ((0, 1) : Q2) := ⟨by show (0 : Int).natAbs < 2 ^ 1; decide, by show (1 : Int).natAbs < 2 ^ 1; decide, by show (1 : Int) ≠ 0; decide⟩
theorem savN_qz {pay : Q2} {ws : List Wk} {m : Nat} (o : WkOk pay ws m) (h : Q2) : ∀ k, k ≤ ws.length → Qz (1 + 31 * k) (savN ws h k)
  | 0, _ => z_qz
  | k + 1, hk => by
    have i := savN_qz o h k (by omega)
    have a := (o.ch k (by omega)).qz
    have b := (o.rate k (by omega)).qz
    rw [savN]
    by_cases c : qcmp (ws.getD k default).need h > 0
    · rw [if_pos c]; exact (qadd_qz i (qmul_qz a b)).mono (by omega)
    · rw [if_neg c]; exact i.mono (by omega)
theorem cosN_qz {pay : Q2} {ws : List Wk} {m n : Nat} (o : WkOk pay ws m) {h : Q2} (hh : Qz n h) : ∀ k, k ≤ ws.length → Qz (600 + n + (38 + n) * k) (cosN pay ws h k)
  | 0, _ => (qmul_qz o.pay.qz hh).mono (by omega)
  | k + 1, hk => by
    have i := cosN_qz o hh k (by omega)
    have a := (o.ch k (by omega)).qz
    have b := (o.rate k (by omega)).qz
    have c := (o.need k (by omega)).qz
    rw [cosN]
    by_cases d : qcmp (ws.getD k default).need h > 0
    · rw [if_pos d]; exact (qadd_qz i (qmul_qz (qmul_qz a b) (qsub_qz c hh))).mono (by have : (38 + n) * (k + 1) = (38 + n) * k + (38 + n) := by rw [Nat.mul_add, Nat.mul_one]
                                                                                       omega)
    · rw [if_neg d]; exact i.mono (by have : (38 + n) * (k + 1) = (38 + n) * k + (38 + n) := by rw [Nat.mul_add, Nat.mul_one]
                                      omega)
end DL
section
/-! ### the reading tactics -/
local macro_rules | `(tactic| walk_at "sz") => `(tactic| first
  | assumption
  | (apply DL.Sz.neg
     · walk_at "sz")
  | (apply DL.Sz.mul
     · walk_at "sz"
     · walk_at "sz")
  | (apply DL.Sz.add
     · walk_at "sz"
     · walk_at "sz")
  | (apply DL.Sz.sub
     · walk_at "sz"
     · walk_at "sz")
  | (apply DL.Sz.fmod
     · decide
     · walk_at "sz")
  | exact DL.Sz.self)
local macro_rules | `(tactic| walk_at "side") => `(tactic| first
  | assumption
  | (apply DL.cmulW_of
     · walk_at "sz"
     · walk_at "sz"
     · first | decide +kernel | omega)
  | rfl
  | decide
  | omega
  | (simp only [List.length_cons, List.length_nil]; decide)
  | (simp; done)
  | (simp only [PySem.sizeLine_eq, List.length_cons, List.length_nil]; omega))
local macro_rules | `(tactic| walk_at "rd") => `(tactic| first
  | exact DL.rd_addI
  | exact DL.rd_sub
  | exact DL.rd_mulL (by decide) (by decide)
  | exact DL.rd_mulR (by decide) (by decide)
  | (refine DL.rd_mulI ?_
     · walk_at "side")
  | exact DL.rd_pow ⟨by decide, by decide, by decide⟩
  | exact DL.rd_mod (by show (_ : Int) ≠ _; first | decide | assumption)
  | exact DL.rd_ix_T rfl
  | exact DL.rd_ix_L rfl
  | exact DL.rd_eqI
  | exact DL.rd_inC
  | exact DL.rd_niC
  | exact DL.rd_ix_S (by assumption) (by assumption)
  | exact DL.rd_neI
  | exact DL.rd_eqT
  | exact DL.rd_neT
  | exact DL.rd_eqB
  | exact DL.rd_I0b
  | (refine DL.rd_addS ?_
     · walk_at "side")
  | (refine DL.rd_addT ?_
     · walk_at "side")
  | (refine DL.rd_fdiv ?_ ?_
     · walk_at "side"
     · walk_at "side")
  | (refine DL.rd_mod ?_
     · walk_at "side")
  | assumption)
local macro_rules | `(tactic| walk_at "rc") => `(tactic| first
  | exact DL.rc_gcd
  | exact DL.rc_abs
  | exact DL.rc_max2
  | exact DL.rc_intV
  | exact DL.rc_intB
  | exact DL.rc_len_t
  | exact DL.rc_list_l
  | exact DL.rc_list_t
  | exact DL.rc_tup_l
  | exact DL.rc_len_l
  | (apply DL.rc_len_s
     · walk_at "side")
  | (apply DL.rc_str
     · walk_at "side")
  | assumption)
local macro_rules | `(tactic| walk_at "call") => `(tactic| first
  | exact ⟨_, rfl, by assumption, rfl⟩
  | exact ⟨_, rfl, rfl⟩
  | exact ⟨_, _, rfl, rfl⟩
  | assumption
  | fail "call: no contract")
local macro_rules | `(tactic| walk_at "ep") => `(tactic| first
  | with_reducible exact DL.ep_no
  | (with_reducible apply DL.ep_some
     · walk_at "ev"))
local macro_rules | `(tactic| walk_at "ev") => `(tactic| first
  | assumption
  | (with_reducible apply DL.ev_var
     · rfl)
  | with_reducible exact DL.ev_int
  | with_reducible exact DL.ev_str
  | with_reducible exact DL.ev_bl
  | with_reducible exact DL.ev_non
  | with_reducible exact DL.ea_nil
  | exact DL.ev_glob (by assumption)
  | (with_reducible apply DL.ev_op
     · walk_at "ev"
     · walk_at "ev"
     · walk_at "rd")
  | (with_reducible apply DL.ea_cons
     · walk_at "ev"
     · walk_at "ev")
  | (with_reducible apply DL.ev_sl
     · walk_at "ev"
     · walk_at "ep"
     · walk_at "ep"
     · first | exact DL.rs_s (by assumption) | exact DL.rs_l | exact DL.rs_t)
  | (with_reducible apply DL.ev_un
     · walk_at "ev"
     · with_reducible exact DL.ru_neg)
  | (with_reducible apply DL.ev_isiE
     · walk_at "ev"
     · first | rfl | assumption
     · first | rfl | assumption
     · rfl)
  | (with_reducible apply DL.ev_tupH
     · walk_at "ev"
     · walk_at "side")
  | (with_reducible apply DL.ev_lstH
     · walk_at "ev"
     · walk_at "side")
  | (with_reducible apply DL.ev_cb
     · walk_at "ev"
     · walk_at "rc")
  | (with_reducible apply DL.et_test
     · walk_at "ev")
  | (with_reducible apply DL.et_B
     · walk_at "ev")
  | (with_reducible apply DL.et_not
     · walk_at "ev")
  | (with_reducible apply DL.et_and
     · walk_at "ev"
     · (intro _; walk_at "ev"))
  | (with_reducible apply DL.et_or
     · walk_at "ev"
     · (intro _; walk_at "ev"))
  | (with_reducible apply DL.ev_xf
     · rfl
     · rfl)
  | (with_reducible apply DL.ev_chain
     · walk_at "ev"
     · walk_at "ev"
     · walk_at "rd"
     · (intro _; walk_at "ev")
     · (intro _; walk_at "rd"))
  | (with_reducible apply DL.ev_fld
     · walk_at "ev"
     · assumption
     · assumption
     · rfl)
  | (with_reducible apply DL.ev_isN
     · walk_at "ev")
  | (with_reducible apply DL.ev_notN
     · walk_at "ev")
  | (with_reducible apply DL.ev_andV
     · walk_at "ev"
     · (intro _; walk_at "ev"))
  | (with_reducible apply DL.ev_orV
     · walk_at "ev"
     · (intro _; walk_at "ev"))
  | (with_reducible apply DL.ev_notV
     · walk_at "ev")
  | (with_reducible apply DL.ev_callE
     · walk_at "ev"
     · walk_at "call"
     · rfl)
  | (with_reducible apply DL.ev_callSE
     · walk_at "ev"
     · walk_at "call"
     · rfl))
local macro_rules | `(tactic| walk_at "less") => `(tactic| (
  (try simp only [List.set_cons_zero, List.set_cons_succ])
  repeat (first | exact DL.less_nil | apply DL.less_same | apply DL.less_no)))
local macro_rules | `(tactic| walk_at "nat") => `(tactic| first
  | assumption
  | (with_reducible apply DL.ev_var
     · rfl)
  | exact DL.ev_int
  | (apply DL.en_ix
     · walk_at "nat"
     · walk_at "nat"
     · omega)
  | (apply DL.en_add
     · walk_at "nat"
     · walk_at "nat")
  | (apply DL.en_mod
     · walk_at "nat"
     · walk_at "nat"
     · omega)
  | (apply DL.en_div
     · walk_at "nat"
     · walk_at "nat"
     · omega
     · omega)
  | (apply DL.en_mul
     · walk_at "nat"
     · walk_at "nat"
     · first | decide | omega
     · first | decide | omega))

set_option Elab.async false
set_option linter.all false
set_option maxRecDepth 100000
set_option maxHeartbeats 4000000
set_option exponentiation.threshold 10000
/-! K74G: works.py -/
namespace K74
open PySem PySem.Spec PyProof.Rows L2 DL
section
variable {P : Program} {w : World} {K : PySem.W.Frag} {mg : Str → Option Value} {base : Heap} {Z0 Z1 CB CM CK TKC CX1 : Addr}

abbrev s_tree_depths : Stmt := topS 35
theorem sc_tree_depths : FnScope ["nodes", "depths", "at"] ["nodes"] (defScope s_tree_depths) := ⟨rfl, rfl, rfl, by decide +kernel, rfl, by decide +kernel, by decide +kernel⟩
def R_tree_depths (ds : List PyData) (r : Res PyData) : Prop := ∃ (fn : List PyData → PyData) (l : List PyData) (nds : List Nd), Sq fn ∧ ds = [fn l] ∧ l.length = nds.length ∧ (∀ i, i < nds.length → ∃ g, l[i]? = some (.tuple (parD (nds.getD i default).par :: g))) ∧ PrOk nds ∧ (∀ i, i < nds.length → (depF nds).getD i 0 ≤ 3) ∧ r = .ok (.list ((depF nds).map fun n : Nat => PyData.int (n : Int)))
theorem len_tree_depths : ∀ ds r, R_tree_depths ds r → ds.length = (["nodes"] : List Str).length := by
  rintro _ _ ⟨_, _, _, _, rfl, _⟩; rfl
theorem ok_tree_depths (T : Tx K mg Z0 Z1) (D : DefAt K mg "tree_depths" s_tree_depths []) (c_checked_depth : CalX P w K mg base (L2N.CX P w) 2 "checked_depth" [] R_checked_depth) (e_BadTask : Err2 P w K mg base "BadTask" CK "word" "place") (e_TooMany : Err2 P w K mg base "TooMany" CM "word" "limit") : CalX P w K mg base (L2N.CX P w) 3 "tree_depths" [] R_tree_depths := by
  refine okR D (bind0 (fun _ _ _ _ _ _ us hl => match us, hl with | [_], _ => rfl)) sc_tree_depths len_tree_depths fun f cdv A outer s H Ex hr => ⟨_, (pss_cons (ps_if (pt_cmpR (op_eqU (hu64 hr)) (pe_callB call_len (by rfl) T.n_len (by decide +kernel) (pa_cons (pv 0) pa_nil)) pe_int (nomark _)) (pss_one (L2N.ps_raise rfl (L2N.takes_of rfl rfl rfl rfl) (pmk_e2 e_BadTask hr (by decide) (pa_cons pe_str (pa_cons pe_int pa_nil))))) pss_nil)
    (pss_cons (ps_if (pt_cmpR op_gt (pe_callB call_len (by rfl) T.n_len (by decide +kernel) (pa_cons (pv 0) pa_nil)) (pe_cI T.c_MOST_NODES) (nomark _)) (pss_one (L2N.ps_raise rfl (L2N.takes_of rfl rfl rfl rfl) (pmk_e2 e_TooMany hr (by decide) (pa_cons pe_str (pa_cons (pe_cI T.c_MOST_NODES) pa_nil))))) pss_nil)
    (pss_cons (ps_set (i := 1) sc_tree_depths.nd rfl (by first | exact Or.inl rfl | exact Or.inr rfl) (pe_lst pa_nil))
    (pss_cons (ps_for (passes_of rfl) rfl (pi_range1 rfl T.n_range (pa_cons (pe_callB call_len (by rfl) T.n_len (by decide +kernel) (pa_cons (pv 0) pa_nil)) pa_nil)) (pg_name (i := 2) sc_tree_depths.nd rfl (by first | exact Or.inl rfl | exact Or.inr rfl)) (pss_one (ps_expr (pe_bm PySem.F.plainAttrs_list PySem.F.slot_list_append PySem.F.type_list_append mt_append (pv 1) (pa_cons (pe_cal c_checked_depth hr (by decide) (fun σ => pLN σ) (pa_cons (pv 2) (pa_cons (pe_ix ix_seq (pe_ix ix_seq (pv 0) (pv 2) (fun _ _ => rfl)) pe_int (fun _ _ => rfl)) (pa_cons (pv 1) (pa_cons (pe_op op_sub (pe_cI T.c_MOST_ROUNDS) pe_int) pa_nil))))) pa_nil)))))
    (pss_one (ps_ret (pv 1))))))), ?_⟩

  rintro ds r ⟨fn, l, nds, hN, rfl, hl, hg, h, h3, rfl⟩
  have l1 := h.l1
  have l2 := h.l2
  have ln := hN.len (K := K) l
  rw [hl] at ln
  refine en_seq (rn_ifF' (et_test (ev_op (ev_cb (by walk_at "ev") ln) (by walk_at "ev") rd_eqI)) (by exact decide_eq_false (by omega)) rn_next) ?_
  refine en_seq (rn_ifF' (et_test (ev_op (ev_cb (by walk_at "ev") ln) (by walk_at "ev") rd_I0b)) (by exact decide_eq_false (by omega)) rn_next) ?_
  refine en_seq (rn_asgO ea_nil (by decide)) ?_
  refine en_seq (rn_loop (js := [2]) (δ' := [.val (fn l), .own ((depF nds).map fun n : Nat => PyData.int (n : Int)), .no]) (fun i => [.val (fn l), .own ((depN nds i).map fun n : Nat => PyData.int (n : Int)), .no]) rfl (src_rng1 (W := fun _ _ _ _ => False) (j := (nds.length : Int)) (ea_cons (ev_cb (by walk_at "ev") ln) ea_nil) (by omega) (by omega)) (fun i d _ hd => ?_) (by rw [iota_len]; rfl)) ?_
  · obtain ⟨hi, rfl⟩ := iota_at hd
    have hi : i < nds.length := by simpa using hi
    obtain ⟨g, hgi⟩ := hg i hi
    have ixn : RD K (rIx K) (fn l) (.int (i : Int)) (.tuple (parD (nds.getD i default).par :: g)) := hN.ix (by rw [at_nat]; exact hgi)
    have dq : R_checked_depth [.int (i : Int), parD (nds.getD i default).par, .list ((depN nds i).map fun n : Nat => PyData.int (n : Int)), .int (4 - 1)] (.ok (.int (((depF nds).getD i 0 : Nat) : Int))) := by
      refine ⟨.list, i, (nds.getD i default).par, depN nds i, 3, .inl rfl, rfl, ?_, ?_⟩
      · by_cases e : i = 0
        · subst e; exact .inl ⟨rfl, h.p0⟩
        · obtain ⟨p, hp, hl⟩ := h.pr i (by omega) hi
          refine .inr ⟨p, by omega, hp, hl, by rw [depN_len]; exact hl, ?_⟩
          have e := dep_last nds hi
          rw [hp] at e
          have q := h3 i hi
          have e' : (depF nds).getD i 0 = (depN nds i).getD p 0 + 1 := e
          omega
      · rw [dep_last nds hi]; try rfl
    refine ⟨_, _, as_name, rn_app (i := 1) rfl (ev_lend (i := 1) rfl reads_L (ev_callWE (ea_cons (by walk_at "ev") (ea_cons (ev_op (ev_op (by walk_at "ev") (by walk_at "ev") ixn) (by walk_at "ev") (rd_ix_T (at_head _ _))) (ea_cons (by walk_at "ev") (ea_cons (by walk_at "ev") ea_nil)))) dq rfl) rfl) (by rw [List.length_map, depN_len, sizeLine_eq]; omega), ?_⟩
    have e1 : (depN nds (i + 1)).map (fun n : Nat => PyData.int (n : Int)) = (depN nds i).map (fun n : Nat => PyData.int (n : Int)) ++ [.int (((depF nds).getD i 0 : Nat) : Int)] := by rw [dep_now nds hi, qnat]
    rw [e1]
    walk_at "less"
  refine en_frz (i := 1) rfl reads_L ?_
  exact en_rt (rn_ret (by walk_at "ev")) rfl
abbrev s_check_work : Stmt := topS 36
theorem sc_check_work : FnScope ["pay", "nodes", "depths", "at", "need", "rate"] ["pay", "nodes"] (defScope s_check_work) := ⟨rfl, rfl, rfl, by decide +kernel, rfl, by decide +kernel, by decide +kernel⟩
def R_check_work (ds : List PyData) (r : Res PyData) : Prop := ∃ (fn : List PyData → PyData) (pay : Q2) (ws : List Wk) (m : Nat), Sq fn ∧ ds = [rat pay, fn (ws.map wkD)] ∧ WkOk pay ws m ∧ r = .ok (.list ((depF (wPar ws)).map fun n : Nat => PyData.int (n : Int)))
theorem len_check_work : ∀ ds r, R_check_work ds r → ds.length = (["pay", "nodes"] : List Str).length := by
  rintro _ _ ⟨_, _, _, _, _, rfl, _⟩; rfl
theorem ok_check_work (T : Tx K mg Z0 Z1) (D : DefAt K mg "check_work" s_check_work []) (c_tree_depths : CalX P w K mg base (L2N.CX P w) 3 "tree_depths" [] R_tree_depths) (c_is_ratio : CalX P w K mg base CX0 2 "is_ratio" [] (R1 fun d => .bool (isRt d))) (e_BadKind : Err2 P w K mg base "BadKind" CX1 "word" "place") : CalX P w K mg base (L2N.CX P w) 4 "check_work" [] R_check_work := by
  refine okR D (bind0 (fun _ _ _ _ _ _ us hl => match us, hl with | [_, _], _ => rfl)) sc_check_work len_check_work fun f cdv A outer s H Ex hr => ⟨_, (pss_cons (ps_if (PW.pt (pw_or (pt_not (pt_val (pe_cal c_is_ratio hr (by decide) (fun σ => p0At σ) (pa_cons (pv 0) pa_nil)))) (pw_or1 (pt_cmpR op_le (pe_ix ix_seq (pv 0) pe_int (fun _ _ => rfl)) pe_int (nomark _))))) (pss_one (L2N.ps_raise rfl (L2N.takes_of rfl rfl rfl rfl) (pmk_e2 e_BadKind hr (by decide) (pa_cons pe_str (pa_cons pe_int pa_nil))))) pss_nil)
    (pss_cons (ps_set (i := 2) sc_check_work.nd rfl (by first | exact Or.inl rfl | exact Or.inr rfl) (pe_cal c_tree_depths hr (by decide) (fun σ => pLN σ) (pa_cons (pv 1) pa_nil)))
    (pss_cons (ps_for (passes_of rfl) rfl (pi_range1 rfl T.n_range (pa_cons (pe_callB call_len (by rfl) T.n_len (by decide +kernel) (pa_cons (pv 1) pa_nil)) pa_nil)) (pg_name (i := 3) sc_check_work.nd rfl (by first | exact Or.inl rfl | exact Or.inr rfl)) (pss_cons (ps_asg (pe_slice sl_U (pe_ix ix_seq (pv 1) (pv 3) (fun _ _ => rfl)) (po_some pe_int) po_none) (pg_tup (n := 2) (by rfl) (pgs_cons (pg_name (i := 4) sc_check_work.nd rfl (by first | exact Or.inl rfl | exact Or.inr rfl)) (pgs_cons (pg_name (i := 5) sc_check_work.nd rfl (by first | exact Or.inl rfl | exact Or.inr rfl)) pgs_nil))))
    (pss_cons (ps_if (PW.pt (pw_or (pt_not (pt_val (pe_cal c_is_ratio hr (by decide) (fun σ => p0At σ) (pa_cons (pv 4) pa_nil)))) (pw_or1 (pt_cmpR op_lt (pe_ix ix_seq (pv 4) pe_int (fun _ _ => rfl)) pe_int (nomark _))))) (pss_one (L2N.ps_raise rfl (L2N.takes_of rfl rfl rfl rfl) (pmk_e2 e_BadKind hr (by decide) (pa_cons pe_str (pa_cons (pv 3) pa_nil))))) pss_nil)
    (pss_one (ps_if (PW.pt (pw_or (pt_not (pt_val (pe_cal c_is_ratio hr (by decide) (fun σ => p0At σ) (pa_cons (pv 5) pa_nil)))) (pw_or1 (pt_cmpR op_le (pe_ix ix_seq (pv 5) pe_int (fun _ _ => rfl)) pe_int (nomark _))))) (pss_one (L2N.ps_raise rfl (L2N.takes_of rfl rfl rfl rfl) (pmk_e2 e_BadKind hr (by decide) (pa_cons pe_str (pa_cons (pv 3) pa_nil))))) pss_nil)))))
    (pss_one (ps_ret (pv 2)))))), ?_⟩

  rintro ds r ⟨fn, pay, ws, m, hN, rfl, h, rfl⟩
  have l1 := h.l1
  have l2 := h.l2
  have ln := hN.len (K := K) (ws.map wkD)
  rw [List.length_map] at ln
  have p0 := h.pay.pos
  have rp := rt_ok h.pay.nf
  refine en_seq (rn_ifF' (et_or (et_not (et_B (ev_callWE (by walk_at "ev") rp rfl))) fun _ => et_test (ev_op (ev_op (by walk_at "ev") (by walk_at "ev") (rd_ix_T rfl)) (by walk_at "ev") rd_I0b)) (by rw [decide_eq_false (show ¬ pay.1 ≤ 0 by omega)]; rfl) rn_next) ?_
  have dq : R_tree_depths [fn (ws.map wkD)] (.ok (.list ((depF (wPar ws)).map fun n : Nat => PyData.int (n : Int)))) := by
    refine ⟨fn, _, wPar ws, hN, rfl, by rw [List.length_map, wPar_len], fun i hi => ?_, h.pro, fun i hi => ?_, rfl⟩
    · rw [wPar_len] at hi
      refine ⟨[rat (ws.getD i default).ch, rat (ws.getD i default).need, rat (ws.getD i default).rate], ?_⟩
      rw [wPar_get ws hi, List.getElem?_map, List.getElem?_eq_getElem hi, ← DL.getD_at (d := default) hi]; rfl
    · rw [wPar_len] at hi
      exact Nat.le_trans (h.dm i hi) h.m3
  refine en_seq (rn_asgE (ev_callWE (by walk_at "ev") dq rfl) rfl) ?_
  refine en_seq (rn_none (js := [3]) (src_rng1 (W := fun _ _ _ _ => False) (j := (ws.length : Int)) (ea_cons (ev_cb (by walk_at "ev") ln) ea_nil) (by omega) (by omega)) (fun i d hd => ?_)) (en_rt (rn_ret (by walk_at "ev")) rfl)
  obtain ⟨hi, rfl⟩ := iota_at hd
  have hi : i < ws.length := by simpa using hi
  have ixn : RD K (rIx K) (fn (ws.map wkD)) (.int (i : Int)) (wkD (ws.getD i default)) := hN.ix (at_map wkD hi)
  have hn := h.need i hi
  have hr0 := h.rate i hi
  have n0 := hn.pos
  have r0 := hr0.pos
  have r1 := rt_ok hn.nf
  have r2 := rt_ok hr0.nf
  refine ⟨_, _, as_name, rn_seq (rn_asgG (js := [4, 5]) (ev_is (x := .tuple (DL.cutD [parD (ws.getD i default).par, rat (ws.getD i default).ch, rat (ws.getD i default).need, rat (ws.getD i default).rate] (some 2) none)) (ev_sl (ev_op (by walk_at "ev") (by walk_at "ev") ixn) (ep_some ev_int) ep_no rs_t) (by rfl)) (as_tup (as_cons as_name (as_cons as_name as_nil)) rfl)) (rn_seq (rn_ifF' (et_or (et_not (et_B (ev_callWE (by walk_at "ev") r1 rfl))) fun _ => et_test (ev_op (ev_op (by walk_at "ev") (by walk_at "ev") (rd_ix_T rfl)) (by walk_at "ev") rd_I0b)) (by rw [decide_eq_false (show ¬ (ws.getD i default).need.1 < 0 by omega)]; rfl) rn_next) (rn_ifF' (et_or (et_not (et_B (ev_callWE (by walk_at "ev") r2 rfl))) fun _ => et_test (ev_op (ev_op (by walk_at "ev") (by walk_at "ev") (rd_ix_T rfl)) (by walk_at "ev") rd_I0b)) (by rw [decide_eq_false (show ¬ (ws.getD i default).rate.1 ≤ 0 by omega)]; rfl) rn_next)), by walk_at "less"⟩
abbrev s_work_task : Stmt := topS 37
theorem sc_work_task : FnScope ["pay", "nodes", "depths", "rounds", "built", "at", "parent", "chance", "need", "rate", "costs", "terms", "depth"] ["pay", "nodes"] (defScope s_work_task) := ⟨rfl, rfl, rfl, by decide +kernel, rfl, by decide +kernel, by decide +kernel⟩
def R_work_task (C : Addr) (ds : List PyData) (r : Res PyData) : Prop := ∃ (fn : List PyData → PyData) (pay : Q2) (ws : List Wk) (m : Nat), Sq fn ∧ ds = [rat pay, fn (ws.map wkD)] ∧ WkOk pay ws m ∧ r = .ok (taskD C (wRs m) (wNds pay ws))
theorem len_work_task : ∀ ds r, (R_work_task TKC) ds r → ds.length = (["pay", "nodes"] : List Str).length := by
  rintro _ _ ⟨_, _, _, _, _, rfl, _⟩; rfl
theorem ok_work_task (T : Tx K mg Z0 Z1) (D : DefAt K mg "work_task" s_work_task []) (c_check_work : CalX P w K mg base (L2N.CX P w) 4 "check_work" [] R_check_work) (c_Task___init__ : CalI P w K mg base (L2N.CX P w) 5 "Task" TKC (R_Task TKC)) (k : TkC K TKC) : CalX P w K mg base (L2N.CX P w) 7 "work_task" [] (R_work_task TKC) := by
  refine okR D (bind0 (fun _ _ _ _ _ _ us hl => match us, hl with | [_, _], _ => rfl)) sc_work_task len_work_task fun f cdv A outer s H Ex hr => ⟨_, (pss_cons (ps_set (i := 2) sc_work_task.nd rfl (by first | exact Or.inl rfl | exact Or.inr rfl) (pe_cal c_check_work hr (by decide) (fun σ => pLN σ) (pa_cons (pv 0) (pa_cons (pv 1) pa_nil))))
    (pss_cons (ps_setLc (i := 3) (own := [("depth", 12)]) rfl sc_work_task.nd rfl rfl (sw_true rfl rfl rfl (by decide +kernel)) (pi_range1 rfl T.n_range (pa_cons (pe_op op_addU (pe_callB (cr_max rfl) (by rfl) T.n_max (by decide +kernel) (pa_cons (pv 2) pa_nil)) pe_int) pa_nil)) (blkOk_by (by show blkC ["pay", "nodes", "depths", "rounds", "built", "at", "parent", "chance", "need", "rate", "costs", "terms", "depth"] (defScope s_work_task) _ [("depth", 12)] = true; decide +kernel)) (fun _ _ _ _ _ => (pg_name (i := 12) sc_work_task.nd rfl (by first | exact Or.inl rfl | exact Or.inr rfl))) (fun _ _ _ _ _ => pts_nil) (fun _ _ _ _ _ => (pe_tup (pa_cons (pe_op (op_addK (K := K) rfl) pe_str (pe_callTy (call_strB rfl T.nd) (by rfl) T.n_str (by decide +kernel) (pa_cons (pv 12) pa_nil))) pa_nil))))
    (pss_cons (ps_asg (pe_tup (pa_cons pe_str (pa_cons pe_str pa_nil))) (pg_sub (pv 3) pe_int set_list))
    (pss_cons (ps_set (i := 4) sc_work_task.nd rfl (by first | exact Or.inl rfl | exact Or.inr rfl) (pe_lst pa_nil))
    (pss_cons (ps_for (passes_of rfl) rfl (pi_range1 rfl T.n_range (pa_cons (pe_callB call_len (by rfl) T.n_len (by decide +kernel) (pa_cons (pv 1) pa_nil)) pa_nil)) (pg_name (i := 5) sc_work_task.nd rfl (by first | exact Or.inl rfl | exact Or.inr rfl)) (pss_cons (ps_asg (pe_ix ix_seq (pv 1) (pv 5) (fun _ _ => rfl)) (pg_tup (n := 4) (by rfl) (pgs_cons (pg_name (i := 6) sc_work_task.nd rfl (by first | exact Or.inl rfl | exact Or.inr rfl)) (pgs_cons (pg_name (i := 7) sc_work_task.nd rfl (by first | exact Or.inl rfl | exact Or.inr rfl)) (pgs_cons (pg_name (i := 8) sc_work_task.nd rfl (by first | exact Or.inl rfl | exact Or.inr rfl)) (pgs_cons (pg_name (i := 9) sc_work_task.nd rfl (by first | exact Or.inl rfl | exact Or.inr rfl)) pgs_nil))))))
    (pss_cons (ps_set (i := 10) sc_work_task.nd rfl (by first | exact Or.inl rfl | exact Or.inr rfl) (pe_tup (pa_cons (pv 9) pa_nil)))
    (pss_cons (ps_if (pt_cmpR (op_eqU (hu64 hr)) (pv 5) pe_int (nomark _)) (pss_one (ps_set (i := 10) sc_work_task.nd rfl (by first | exact Or.inl rfl | exact Or.inr rfl) (pe_tup (pa_cons (pv 0) (pa_cons (pv 9) pa_nil))))) pss_nil)
    (pss_cons (ps_set (i := 11) sc_work_task.nd rfl (by first | exact Or.inl rfl | exact Or.inr rfl) (pe_tup (pa_cons (pe_tup (pa_cons pe_str (pa_cons (pe_cT T.c_ONE) pa_nil))) (pa_cons (pe_tup (pa_cons (pe_op op_addU pe_str (pe_callTy (call_strB rfl T.nd) (by rfl) T.n_str (by decide +kernel) (pa_cons (pe_ix ix_seq (pv 2) (pv 5) (fun _ _ => rfl)) pa_nil))) (pa_cons (pe_cT T.c_ONE) pa_nil))) pa_nil))))
    (pss_one (ps_expr (pe_bm PySem.F.plainAttrs_list PySem.F.slot_list_append PySem.F.type_list_append mt_append (pv 4) (pa_cons (pe_tup (pa_cons (pv 6) (pa_cons (pv 7) (pa_cons (pv 10) (pa_cons (pe_tup (pa_cons (pe_tup (pa_cons (pv 11) (pa_cons (pv 8) pa_nil))) pa_nil)) pa_nil))))) pa_nil)))))))))
    (pss_one (ps_ret (pe_new1 (K := K) rfl c_Task___init__ hr (by decide) (fun σ => pLN σ) (pa_cons (pv 3) (pa_cons (pv 4) pa_nil)))))))))), ?_⟩

  rintro ds r ⟨fn, pay, ws, m, hN, rfl, h, rfl⟩
  have l1 := h.l1
  have l2 := h.l2
  have m3 := h.m3
  have hO := T.c_ONE.d
  have ln := hN.len (K := K) (ws.map wkD)
  rw [List.length_map] at ln
  have dq : R_check_work [rat pay, fn (ws.map wkD)] (.ok (.list ((depF (wPar ws)).map fun n : Nat => PyData.int (n : Int)))) := ⟨fn, pay, ws, m, hN, rfl, h, rfl⟩
  have dl : (depF (wPar ws)).length = ws.length := by unfold depF; rw [depN_len, wPar_len]
  have sn : ∀ k : Nat, k ≤ 3 → RC K rStrI [.int (k : Int)] (.str (toString (k : Int))) := fun k hk => rc_str (by
    have : ((k : Int)).natAbs < 4 := by omega
    exact Nat.lt_of_lt_of_le this (by show 4 ≤ 10 ^ 4300; exact Nat.le_trans (show 4 ≤ 10 ^ 1 by decide) (Nat.pow_le_pow_right (by decide) (by decide))))
  have cat : ∀ k : Nat, k ≤ 3 → RD K (rAddU K) (.str "extra") (.str (toString (k : Int))) (.str (exName k)) := fun k hk => rd_addS (by
    have q : ∀ k : _root_.Fin 4, ("extra" : Str).length + (toString (k.1 : Int) : Str).length ≤ 100 := by decide +kernel
    exact Nat.le_trans (q ⟨k, by omega⟩) (by rw [sizeLine_eq]; decide))
  refine en_seq (rn_asgE (ev_callWE (by walk_at "ev") dq rfl) rfl) ?_
  have mx : RC K (rMax K) [.list ((depF (wPar ws)).map fun n : Nat => PyData.int (n : Int))] (.int (m : Int)) := by
    have e : (depF (wPar ws)).map (fun n : Nat => PyData.int (n : Int)) = ((depF (wPar ws)).map fun n : Nat => (n : Int)).map .int := by rw [List.map_map]; rfl
    rw [e]
    refine rc_max (by rw [List.length_map, dl]; omega) ?_ ?_
    · obtain ⟨i, hi, e⟩ := h.dx
      refine List.mem_map.mpr ⟨m, ?_, rfl⟩
      rw [← e, DL.getD_at (by omega)]; exact List.getElem_mem _
    · intro y hy
      obtain ⟨x, hx, rfl⟩ := List.mem_map.mp hy
      obtain ⟨i, hi, e⟩ := List.mem_iff_getElem.mp hx
      have := h.dm i (by omega)
      rw [DL.getD_at hi, e] at this
      omega
  refine en_seq (rn_asgM (W' := fun _ _ _ _ => False) (js := [12]) (l := iota 0 ((m : Int) + 1).toNat) (fun _ => true) (fun d => match d with
    | .int n => .tuple [.str (exName n.toNat)]
    | d => d) (src_rng1 (W := fun _ _ _ _ => False) (j := (m : Int) + 1) (ea_cons (ev_op (ev_cb (by walk_at "ev") mx) ev_int rd_addI) ea_nil) (by omega) (by omega)) (by intro j hj; exact hj) (by rw [iota_len, sizeLine_eq]; omega) (fun i d hd => ?_)) ?_
  · obtain ⟨hi, rfl⟩ := iota_at hd
    have hi : i < m + 1 := by omega
    refine ⟨_, as_name, et_yes, fun _ => ev_is (ev_tupH (ea_cons (ev_op (by walk_at "ev") (ev_cb (by walk_at "ev") (sn i (by omega))) (cat i (by omega))) ea_nil) (by show 1 ≤ sizeLine; decide)) ?_⟩
    show _ = PyData.tuple [.str (exName ((i : Int)).toNat)]
    rw [Int.toNat_natCast]
  have er : ((iota 0 ((m : Int) + 1).toNat).filter fun _ => true).map (fun d => match d with
    | .int n => PyData.tuple [.str (exName n.toNat)]
    | d => d) = (List.range (m + 1)).map fun k => rndD [exName k] := by
    rw [List.filter_eq_self.mpr fun _ _ => rfl, show ((m : Int) + 1).toNat = m + 1 by omega, iota_map, List.map_map]
    refine List.map_congr_left fun i hi => ?_
    show PyData.tuple [.str (exName ((i : Int)).toNat)] = _
    rw [Int.toNat_natCast]; rfl
  rw [er]
  refine en_seq (rn_setO (i := 3) (j := 0) rfl (by walk_at "ev") (by walk_at "ev") (by rw [List.length_map, List.length_range]; exact ixN_nat (n := m + 1) (p := 0) (by omega))) ?_
  have es : ((List.range (m + 1)).map fun k => rndD [exName k]).set 0 (.tuple [.str "hired", .str "extra0"]) = (wRs m).map rndD := by
    unfold wRs
    rw [List.map_set, List.map_map]; rfl
  rw [es]
  refine en_seq (rn_asgO ea_nil (by decide)) ?_
  refine en_seq (rn_loop (js := [5]) (δ' := [.val (rat pay), .val (fn (ws.map wkD)), .val (.list ((depF (wPar ws)).map fun n : Nat => PyData.int (n : Int))), .own ((wRs m).map rndD), .own ((wNds pay ws).map ndD), .no, .no, .no, .no, .no, .no, .no, .no]) (fun i => [.val (rat pay), .val (fn (ws.map wkD)), .val (.list ((depF (wPar ws)).map fun n : Nat => PyData.int (n : Int))), .own ((wRs m).map rndD), .own (((List.range i).map (wNd pay ws)).map ndD), .no, .no, .no, .no, .no, .no, .no, .no]) rfl (src_rng1 (W := fun _ _ _ _ => False) (j := (ws.length : Int)) (ea_cons (ev_cb (by walk_at "ev") ln) ea_nil) (by omega) (by omega)) (fun i d _ hd => ?_) (by rw [iota_len]; rfl)) ?_
  · obtain ⟨hi, rfl⟩ := iota_at hd
    have hi : i < ws.length := by simpa using hi
    have ixn : RD K (rIx K) (fn (ws.map wkD)) (.int (i : Int)) (wkD (ws.getD i default)) := hN.ix (at_map wkD hi)
    have ixd : RD K (rIx K) (.list ((depF (wPar ws)).map fun n : Nat => PyData.int (n : Int))) (.int (i : Int)) (.int (((depF (wPar ws)).getD i 0 : Nat) : Int)) := rd_ix_L (at_mapD 0 (fun n : Nat => PyData.int (n : Int)) (by omega))
    have hd := h.dm i hi
    have e2 : ((List.range (i + 1)).map (wNd pay ws)).map ndD = ((List.range i).map (wNd pay ws)).map ndD ++ [ndD (wNd pay ws i)] := by
      rw [List.range_succ, List.map_append, List.map_append]; rfl
    have bl : (((List.range i).map (wNd pay ws)).map ndD).length < sizeLine := by rw [List.length_map, List.length_map, List.length_range, sizeLine_eq]; omega
    by_cases z : i = 0
    · refine ⟨_, _, as_name, rn_seq (rn_asgG (js := [6, 7, 8, 9]) (ev_op (by walk_at "ev") (by walk_at "ev") ixn) (as_tup (as_cons as_name (as_cons as_name (as_cons as_name (as_cons as_name as_nil)))) rfl)) (rn_seq (rn_asgE (by walk_at "ev") rfl) (rn_seq (rn_ifT' (et_test (ev_op (by walk_at "ev") (by walk_at "ev") rd_eqI)) (by exact decide_eq_true (by omega)) (rn_asgE (by walk_at "ev") rfl)) (rn_seq (rn_asgE (d := .tuple ((wRow ((depF (wPar ws)).getD i 0) (ws.getD i default).need).1.map termD)) (ev_is (ev_tupH (ea_cons (by walk_at "ev") (ea_cons (ev_tupH (ea_cons (ev_op (by walk_at "ev") (ev_cb (ea_cons (ev_op (by walk_at "ev") (by walk_at "ev") ixd) ea_nil) (sn _ (by omega))) (cat _ (by omega))) (ea_cons (by walk_at "ev") ea_nil)) (by show 2 ≤ sizeLine; decide)) ea_nil)) (by show 2 ≤ sizeLine; decide)) (by rfl)) rfl) (rn_app (i := 4) (d := ndD (wNd pay ws i)) rfl (ev_is (ev_tupH (ea_cons (by walk_at "ev") (ea_cons (by walk_at "ev") (ea_cons (by walk_at "ev") (ea_cons (ev_tupH (ea_cons (ev_tupH (ea_cons (by walk_at "ev") (ea_cons (by walk_at "ev") ea_nil)) (by show 2 ≤ sizeLine; decide)) ea_nil) (by show 1 ≤ sizeLine; decide)) ea_nil)))) (by show 4 ≤ sizeLine; decide)) ?_) bl)))), ?_⟩
      · unfold wNd
        rw [if_pos z]; rfl
      · rw [e2]; walk_at "less"
    · refine ⟨_, _, as_name, rn_seq (rn_asgG (js := [6, 7, 8, 9]) (ev_op (by walk_at "ev") (by walk_at "ev") ixn) (as_tup (as_cons as_name (as_cons as_name (as_cons as_name (as_cons as_name as_nil)))) rfl)) (rn_seq (rn_asgE (by walk_at "ev") rfl) (rn_seq (rn_ifF' (et_test (ev_op (by walk_at "ev") (by walk_at "ev") rd_eqI)) (by exact decide_eq_false (by omega)) rn_next) (rn_seq (rn_asgE (d := .tuple ((wRow ((depF (wPar ws)).getD i 0) (ws.getD i default).need).1.map termD)) (ev_is (ev_tupH (ea_cons (by walk_at "ev") (ea_cons (ev_tupH (ea_cons (ev_op (by walk_at "ev") (ev_cb (ea_cons (ev_op (by walk_at "ev") (by walk_at "ev") ixd) ea_nil) (sn _ (by omega))) (cat _ (by omega))) (ea_cons (by walk_at "ev") ea_nil)) (by show 2 ≤ sizeLine; decide)) ea_nil)) (by show 2 ≤ sizeLine; decide)) (by rfl)) rfl) (rn_app (i := 4) (d := ndD (wNd pay ws i)) rfl (ev_is (ev_tupH (ea_cons (by walk_at "ev") (ea_cons (by walk_at "ev") (ea_cons (by walk_at "ev") (ea_cons (ev_tupH (ea_cons (ev_tupH (ea_cons (by walk_at "ev") (ea_cons (by walk_at "ev") ea_nil)) (by show 2 ≤ sizeLine; decide)) ea_nil) (by show 1 ≤ sizeLine; decide)) ea_nil)))) (by show 4 ≤ sizeLine; decide)) ?_) bl)))), ?_⟩
      · unfold wNd
        rw [if_neg z]; rfl
      · rw [e2]; walk_at "less"
  refine en_frz (i := 3) rfl reads_L ?_
  refine en_frz (i := 4) rfl reads_L ?_
  have tq : R_Task TKC [.list ((wRs m).map rndD), .list ((wNds pay ws).map ndD)] (.ok (taskD TKC (wRs m) (wNds pay ws))) := ⟨.list, .list, _, _, ⟨.inl rfl⟩, ⟨.inl rfl⟩, rfl, h.task, rfl⟩
  exact en_rt (rn_ret (ev_new (by walk_at "ev") tq)) rfl
end
end K74
end
section
/-! ### the reading tactics -/
local macro_rules | `(tactic| walk_at "sz") => `(tactic| first
  | assumption
  | (apply DL.Sz.neg
     · walk_at "sz")
  | (apply DL.Sz.mul
     · walk_at "sz"
     · walk_at "sz")
  | (apply DL.Sz.add
     · walk_at "sz"
     · walk_at "sz")
  | (apply DL.Sz.sub
     · walk_at "sz"
     · walk_at "sz")
  | (apply DL.Sz.fmod
     · decide
     · walk_at "sz")
  | exact DL.Sz.self)
local macro_rules | `(tactic| walk_at "side") => `(tactic| first
  | assumption
  | (apply DL.cmulW_of
     · walk_at "sz"
     · walk_at "sz"
     · first | decide +kernel | omega)
  | rfl
  | decide
  | omega
  | (simp only [List.length_cons, List.length_nil]; decide)
  | (simp; done)
  | (simp only [PySem.sizeLine_eq, List.length_cons, List.length_nil]; omega))
local macro_rules | `(tactic| walk_at "rd") => `(tactic| first
  | exact DL.rd_addI
  | exact DL.rd_sub
  | exact DL.rd_mulL (by decide) (by decide)
  | exact DL.rd_mulR (by decide) (by decide)
  | (refine DL.rd_mulI ?_
     · walk_at "side")
  | exact DL.rd_pow ⟨by decide, by decide, by decide⟩
  | exact DL.rd_mod (by show (_ : Int) ≠ _; first | decide | assumption)
  | exact DL.rd_ix_T rfl
  | exact DL.rd_ix_L rfl
  | exact DL.rd_eqI
  | exact DL.rd_inC
  | exact DL.rd_niC
  | exact DL.rd_ix_S (by assumption) (by assumption)
  | exact DL.rd_neI
  | exact DL.rd_eqT
  | exact DL.rd_neT
  | exact DL.rd_eqB
  | exact DL.rd_I0b
  | (refine DL.rd_addS ?_
     · walk_at "side")
  | (refine DL.rd_addT ?_
     · walk_at "side")
  | (refine DL.rd_fdiv ?_ ?_
     · walk_at "side"
     · walk_at "side")
  | (refine DL.rd_mod ?_
     · walk_at "side")
  | assumption)
local macro_rules | `(tactic| walk_at "rc") => `(tactic| first
  | exact DL.rc_gcd
  | exact DL.rc_abs
  | exact DL.rc_max2
  | exact DL.rc_intV
  | exact DL.rc_intB
  | exact DL.rc_len_t
  | exact DL.rc_list_l
  | exact DL.rc_list_t
  | exact DL.rc_tup_l
  | exact DL.rc_len_l
  | (apply DL.rc_len_s
     · walk_at "side")
  | (apply DL.rc_str
     · walk_at "side")
  | assumption)
local macro_rules | `(tactic| walk_at "call") => `(tactic| first
  | exact ⟨_, rfl, by assumption, rfl⟩
  | exact ⟨_, rfl, rfl⟩
  | exact ⟨_, _, rfl, rfl⟩
  | assumption
  | fail "call: no contract")
local macro_rules | `(tactic| walk_at "ep") => `(tactic| first
  | with_reducible exact DL.ep_no
  | (with_reducible apply DL.ep_some
     · walk_at "ev"))
local macro_rules | `(tactic| walk_at "ev") => `(tactic| first
  | assumption
  | (with_reducible apply DL.ev_var
     · rfl)
  | with_reducible exact DL.ev_int
  | with_reducible exact DL.ev_str
  | with_reducible exact DL.ev_bl
  | with_reducible exact DL.ev_non
  | with_reducible exact DL.ea_nil
  | exact DL.ev_glob (by assumption)
  | (with_reducible apply DL.ev_op
     · walk_at "ev"
     · walk_at "ev"
     · walk_at "rd")
  | (with_reducible apply DL.ea_cons
     · walk_at "ev"
     · walk_at "ev")
  | (with_reducible apply DL.ev_sl
     · walk_at "ev"
     · walk_at "ep"
     · walk_at "ep"
     · first | exact DL.rs_s (by assumption) | exact DL.rs_l | exact DL.rs_t)
  | (with_reducible apply DL.ev_un
     · walk_at "ev"
     · with_reducible exact DL.ru_neg)
  | (with_reducible apply DL.ev_isiE
     · walk_at "ev"
     · first | rfl | assumption
     · first | rfl | assumption
     · rfl)
  | (with_reducible apply DL.ev_tupH
     · walk_at "ev"
     · walk_at "side")
  | (with_reducible apply DL.ev_lstH
     · walk_at "ev"
     · walk_at "side")
  | (with_reducible apply DL.ev_cb
     · walk_at "ev"
     · walk_at "rc")
  | (with_reducible apply DL.et_test
     · walk_at "ev")
  | (with_reducible apply DL.et_B
     · walk_at "ev")
  | (with_reducible apply DL.et_not
     · walk_at "ev")
  | (with_reducible apply DL.et_and
     · walk_at "ev"
     · (intro _; walk_at "ev"))
  | (with_reducible apply DL.et_or
     · walk_at "ev"
     · (intro _; walk_at "ev"))
  | (with_reducible apply DL.ev_xf
     · rfl
     · rfl)
  | (with_reducible apply DL.ev_chain
     · walk_at "ev"
     · walk_at "ev"
     · walk_at "rd"
     · (intro _; walk_at "ev")
     · (intro _; walk_at "rd"))
  | (with_reducible apply DL.ev_fld
     · walk_at "ev"
     · assumption
     · assumption
     · rfl)
  | (with_reducible apply DL.ev_isN
     · walk_at "ev")
  | (with_reducible apply DL.ev_notN
     · walk_at "ev")
  | (with_reducible apply DL.ev_andV
     · walk_at "ev"
     · (intro _; walk_at "ev"))
  | (with_reducible apply DL.ev_orV
     · walk_at "ev"
     · (intro _; walk_at "ev"))
  | (with_reducible apply DL.ev_notV
     · walk_at "ev")
  | (with_reducible apply DL.ev_callE
     · walk_at "ev"
     · walk_at "call"
     · rfl)
  | (with_reducible apply DL.ev_callSE
     · walk_at "ev"
     · walk_at "call"
     · rfl))
local macro_rules | `(tactic| walk_at "less") => `(tactic| (
  (try simp only [List.set_cons_zero, List.set_cons_succ])
  repeat (first | exact DL.less_nil | apply DL.less_same | apply DL.less_no)))
local macro_rules | `(tactic| walk_at "nat") => `(tactic| first
  | assumption
  | (with_reducible apply DL.ev_var
     · rfl)
  | exact DL.ev_int
  | (apply DL.en_ix
     · walk_at "nat"
     · walk_at "nat"
     · omega)
  | (apply DL.en_add
     · walk_at "nat"
     · walk_at "nat")
  | (apply DL.en_mod
     · walk_at "nat"
     · walk_at "nat"
     · omega)
  | (apply DL.en_div
     · walk_at "nat"
     · walk_at "nat"
     · omega
     · omega)
  | (apply DL.en_mul
     · walk_at "nat"
     · walk_at "nat"
     · first | decide | omega
     · first | decide | omega))

set_option Elab.async false
set_option linter.all false
set_option maxRecDepth 100000
set_option maxHeartbeats 4000000
set_option exponentiation.threshold 10000
/-! K74H: works.py -/
namespace K74
open PySem PySem.Spec PyProof.Rows L2 DL
section
variable {P : Program} {w : World} {K : PySem.W.Frag} {mg : Str → Option Value} {base : Heap} {Z0 Z1 CB CM CK TKC CX1 : Addr}

abbrev s_saved_rates : Stmt := topS 38
theorem sc_saved_rates : FnScope ["nodes", "hired", "total", "_", "chance", "need", "rate"] ["nodes", "hired"] (defScope s_saved_rates) := ⟨rfl, rfl, rfl, by decide +kernel, rfl, by decide +kernel, by decide +kernel⟩
def R_saved (ds : List PyData) (r : Res PyData) : Prop := ∃ (fn : List PyData → PyData) (pay h : Q2) (ws : List Wk) (m : Nat), Sq fn ∧ ds = [fn (ws.map wkD), rat h] ∧ WkOk pay ws m ∧ Qz 20 h ∧ r = .ok (rat (savF ws h))
theorem len_saved_rates : ∀ ds r, R_saved ds r → ds.length = (["nodes", "hired"] : List Str).length := by
  rintro _ _ ⟨_, _, _, _, _, _, rfl, _⟩; rfl
theorem ok_saved_rates (T : Tx K mg Z0 Z1) (D : DefAt K mg "saved_rates" s_saved_rates []) (c_compare : CalX P w K mg base CX0 1 "compare" [] (RQ 3000 fun a b => .int (qcmp a b))) (c_plus : CalX P w K mg base CX0 3 "plus" [] (RQ 3000 fun a b => rat (qadd a b))) (c_times : CalX P w K mg base CX0 3 "times" [] (RQ 3000 fun a b => rat (qmul a b))) : CalX P w K mg base CX0 4 "saved_rates" [] R_saved := by
  refine okN D (bind0 (fun _ _ _ _ _ _ us hl => match us, hl with | [_, _], _ => rfl)) sc_saved_rates len_saved_rates fun f cdv A outer s H Ex hr => ⟨_, (pss_cons (ps_set (i := 2) sc_saved_rates.nd rfl (by first | exact Or.inl rfl | exact Or.inr rfl) (pe_cT T.c_ZERO))
    (pss_cons (ps_for PassesOwn.never rfl (pi_seq (K := K) rfl (pv 0)) (pg_tup (n := 4) (by rfl) (pgs_cons (pg_name (i := 3) sc_saved_rates.nd rfl (by first | exact Or.inl rfl | exact Or.inr rfl)) (pgs_cons (pg_name (i := 4) sc_saved_rates.nd rfl (by first | exact Or.inl rfl | exact Or.inr rfl)) (pgs_cons (pg_name (i := 5) sc_saved_rates.nd rfl (by first | exact Or.inl rfl | exact Or.inr rfl)) (pgs_cons (pg_name (i := 6) sc_saved_rates.nd rfl (by first | exact Or.inl rfl | exact Or.inr rfl)) pgs_nil))))) (pss_one (ps_if (pt_cmpR op_gt (pe_cal c_compare hr (by decide) (fun σ => p0At σ) (pa_cons (pv 5) (pa_cons (pv 1) pa_nil))) pe_int (nomark _)) (pss_one (ps_set (i := 2) sc_saved_rates.nd rfl (by first | exact Or.inl rfl | exact Or.inr rfl) (pe_cal c_plus hr (by decide) (fun σ => p0At σ) (pa_cons (pv 2) (pa_cons (pe_cal c_times hr (by decide) (fun σ => p0At σ) (pa_cons (pv 4) (pa_cons (pv 6) pa_nil))) pa_nil))))) pss_nil)))
    (pss_one (ps_ret (pv 2))))), ?_⟩

  rintro ds r ⟨fn, pay, h, ws, m, hN, rfl, o, hz, rfl⟩
  have l2 := o.l2
  have hZ := T.c_ZERO.d
  have ats : ∀ {i : Nat} {d : PyData}, (ws.map wkD)[i]? = some d → i < ws.length ∧ d = wkD (ws.getD i default) := fun {i d} hd => by
    rw [List.getElem?_map] at hd
    cases hz : ws[i]? with
    | none => rw [hz] at hd; cases hd
    | some z =>
      rw [hz] at hd
      cases hd
      have hi := (List.getElem?_eq_some_iff.mp hz).1
      refine ⟨hi, ?_⟩
      rw [List.getD_eq_getElem?_getD, hz]; rfl

  refine en_seq (rn_asgE (by walk_at "ev") rfl) ?_
  refine en_seq (rn_loop (js := [3, 4, 5, 6]) (δ' := [.val (fn (ws.map wkD)), .val (rat h), .val (rat (savF ws h)), .no, .no, .no, .no]) (fun i => [.val (fn (ws.map wkD)), .val (rat h), .val (rat (savN ws h i)), .no, .no, .no, .no]) rfl (hN.src (W := fun _ _ _ _ => False) (by walk_at "ev")) (fun i d _ hd => ?_) (by rw [List.length_map]; rfl)) (en_rt (rn_ret (by walk_at "ev")) rfl)
  obtain ⟨hi, rfl⟩ := ats hd
  have q1 : RQ 3000 (fun a b => .int (qcmp a b)) [rat (ws.getD i default).need, rat h] (.ok (.int (qcmp (ws.getD i default).need h))) := rq_mk ((o.need i hi).qz.mono (by decide)) (hz.mono (by decide))
  have a := (o.ch i hi).qz
  have b := (o.rate i hi).qz
  have q2 : RQ 3000 (fun a b => rat (qmul a b)) [rat (ws.getD i default).ch, rat (ws.getD i default).rate] (.ok (rat (qmul (ws.getD i default).ch (ws.getD i default).rate))) := rq_mk (a.mono (by decide)) (b.mono (by decide))
  have q3 : RQ 3000 (fun a b => rat (qadd a b)) [rat (savN ws h i), rat (qmul (ws.getD i default).ch (ws.getD i default).rate)] (.ok (rat (qadd (savN ws h i) (qmul (ws.getD i default).ch (ws.getD i default).rate)))) := rq_mk ((savN_qz o h i (by omega)).mono (by omega)) ((qmul_qz a b).mono (by decide))
  by_cases c : qcmp (ws.getD i default).need h > 0
  · refine ⟨_, _, as_tup (as_cons as_name (as_cons as_name (as_cons as_name (as_cons as_name as_nil)))) rfl, rn_ifT' (et_test (ev_op (ev_callWE (by walk_at "ev") q1 rfl) (by walk_at "ev") rd_I0b)) (by exact decide_eq_true c) (rn_asgE (ev_callWE (ea_cons (by walk_at "ev") (ea_cons (ev_callWE (by walk_at "ev") q2 rfl) ea_nil)) q3 rfl) rfl), ?_⟩
    have e : savN ws h (i + 1) = qadd (savN ws h i) (qmul (ws.getD i default).ch (ws.getD i default).rate) := by rw [savN, if_pos c]
    rw [e]; walk_at "less"
  · refine ⟨_, _, as_tup (as_cons as_name (as_cons as_name (as_cons as_name (as_cons as_name as_nil)))) rfl, rn_ifF' (et_test (ev_op (ev_callWE (by walk_at "ev") q1 rfl) (by walk_at "ev") rd_I0b)) (by exact decide_eq_false c) rn_next, ?_⟩
    have e : savN ws h (i + 1) = savN ws h i := by rw [savN, if_neg c]
    rw [e]; walk_at "less"
abbrev s_cost_with : Stmt := topS 39
theorem sc_cost_with : FnScope ["pay", "nodes", "hired", "total", "_", "chance", "need", "rate"] ["pay", "nodes", "hired"] (defScope s_cost_with) := ⟨rfl, rfl, rfl, by decide +kernel, rfl, by decide +kernel, by decide +kernel⟩
def R_cost_with (ds : List PyData) (r : Res PyData) : Prop := ∃ (fn : List PyData → PyData) (pay h : Q2) (ws : List Wk) (m : Nat), Sq fn ∧ ds = [rat pay, fn (ws.map wkD), rat h] ∧ WkOk pay ws m ∧ Qz 20 h ∧ r = .ok (rat (cosF pay ws h))
theorem len_cost_with : ∀ ds r, R_cost_with ds r → ds.length = (["pay", "nodes", "hired"] : List Str).length := by
  rintro _ _ ⟨_, _, _, _, _, _, rfl, _⟩; rfl
theorem ok_cost_with (T : Tx K mg Z0 Z1) (D : DefAt K mg "cost_with" s_cost_with []) (c_times : CalX P w K mg base CX0 3 "times" [] (RQ 3000 fun a b => rat (qmul a b))) (c_compare : CalX P w K mg base CX0 1 "compare" [] (RQ 3000 fun a b => .int (qcmp a b))) (c_plus : CalX P w K mg base CX0 3 "plus" [] (RQ 3000 fun a b => rat (qadd a b))) (c_minus : CalX P w K mg base CX0 3 "minus" [] (RQ 3000 fun a b => rat (qsub a b))) : CalX P w K mg base CX0 4 "cost_with" [] R_cost_with := by
  refine okN D (bind0 (fun _ _ _ _ _ _ us hl => match us, hl with | [_, _, _], _ => rfl)) sc_cost_with len_cost_with fun f cdv A outer s H Ex hr => ⟨_, (pss_cons (ps_set (i := 3) sc_cost_with.nd rfl (by first | exact Or.inl rfl | exact Or.inr rfl) (pe_cal c_times hr (by decide) (fun σ => p0At σ) (pa_cons (pv 0) (pa_cons (pv 2) pa_nil))))
    (pss_cons (ps_for PassesOwn.never rfl (pi_seq (K := K) rfl (pv 1)) (pg_tup (n := 4) (by rfl) (pgs_cons (pg_name (i := 4) sc_cost_with.nd rfl (by first | exact Or.inl rfl | exact Or.inr rfl)) (pgs_cons (pg_name (i := 5) sc_cost_with.nd rfl (by first | exact Or.inl rfl | exact Or.inr rfl)) (pgs_cons (pg_name (i := 6) sc_cost_with.nd rfl (by first | exact Or.inl rfl | exact Or.inr rfl)) (pgs_cons (pg_name (i := 7) sc_cost_with.nd rfl (by first | exact Or.inl rfl | exact Or.inr rfl)) pgs_nil))))) (pss_one (ps_if (pt_cmpR op_gt (pe_cal c_compare hr (by decide) (fun σ => p0At σ) (pa_cons (pv 6) (pa_cons (pv 2) pa_nil))) pe_int (nomark _)) (pss_one (ps_set (i := 3) sc_cost_with.nd rfl (by first | exact Or.inl rfl | exact Or.inr rfl) (pe_cal c_plus hr (by decide) (fun σ => p0At σ) (pa_cons (pv 3) (pa_cons (pe_cal c_times hr (by decide) (fun σ => p0At σ) (pa_cons (pe_cal c_times hr (by decide) (fun σ => p0At σ) (pa_cons (pv 5) (pa_cons (pv 7) pa_nil))) (pa_cons (pe_cal c_minus hr (by decide) (fun σ => p0At σ) (pa_cons (pv 6) (pa_cons (pv 2) pa_nil))) pa_nil))) pa_nil))))) pss_nil)))
    (pss_one (ps_ret (pv 3))))), ?_⟩

  rintro ds r ⟨fn, pay, h, ws, m, hN, rfl, o, hz, rfl⟩
  have l2 := o.l2
  have ats : ∀ {i : Nat} {d : PyData}, (ws.map wkD)[i]? = some d → i < ws.length ∧ d = wkD (ws.getD i default) := fun {i d} hd => by
    rw [List.getElem?_map] at hd
    cases hz : ws[i]? with
    | none => rw [hz] at hd; cases hd
    | some z =>
      rw [hz] at hd
      cases hd
      have hi := (List.getElem?_eq_some_iff.mp hz).1
      refine ⟨hi, ?_⟩
      rw [List.getD_eq_getElem?_getD, hz]; rfl

  have p0 : RQ 3000 (fun a b => rat (qmul a b)) [rat pay, rat h] (.ok (rat (qmul pay h))) := rq_mk (o.pay.qz.mono (by decide)) (hz.mono (by decide))
  refine en_seq (rn_asgE (ev_callWE (by walk_at "ev") p0 rfl) rfl) ?_
  refine en_seq (rn_loop (js := [4, 5, 6, 7]) (δ' := [.val (rat pay), .val (fn (ws.map wkD)), .val (rat h), .val (rat (cosF pay ws h)), .no, .no, .no, .no]) (fun i => [.val (rat pay), .val (fn (ws.map wkD)), .val (rat h), .val (rat (cosN pay ws h i)), .no, .no, .no, .no]) rfl (hN.src (W := fun _ _ _ _ => False) (by walk_at "ev")) (fun i d _ hd => ?_) (by rw [List.length_map]; rfl)) (en_rt (rn_ret (by walk_at "ev")) rfl)
  obtain ⟨hi, rfl⟩ := ats hd
  have q1 : RQ 3000 (fun a b => .int (qcmp a b)) [rat (ws.getD i default).need, rat h] (.ok (.int (qcmp (ws.getD i default).need h))) := rq_mk ((o.need i hi).qz.mono (by decide)) (hz.mono (by decide))
  have a := (o.ch i hi).qz
  have b := (o.rate i hi).qz
  have nz := (o.need i hi).qz
  have q2 : RQ 3000 (fun a b => rat (qmul a b)) [rat (ws.getD i default).ch, rat (ws.getD i default).rate] (.ok (rat (qmul (ws.getD i default).ch (ws.getD i default).rate))) := rq_mk (a.mono (by decide)) (b.mono (by decide))
  have q4 : RQ 3000 (fun a b => rat (qsub a b)) [rat (ws.getD i default).need, rat h] (.ok (rat (qsub (ws.getD i default).need h))) := rq_mk (nz.mono (by decide)) (hz.mono (by decide))
  have q5 : RQ 3000 (fun a b => rat (qmul a b)) [rat (qmul (ws.getD i default).ch (ws.getD i default).rate), rat (qsub (ws.getD i default).need h)] (.ok (rat (qmul (qmul (ws.getD i default).ch (ws.getD i default).rate) (qsub (ws.getD i default).need h)))) := rq_mk ((qmul_qz a b).mono (by decide)) ((qsub_qz nz hz).mono (by decide))
  have cq := cosN_qz o hz i (by omega)
  have q3 : RQ 3000 (fun a b => rat (qadd a b)) [rat (cosN pay ws h i), rat (qmul (qmul (ws.getD i default).ch (ws.getD i default).rate) (qsub (ws.getD i default).need h))] (.ok (rat (qadd (cosN pay ws h i) (qmul (qmul (ws.getD i default).ch (ws.getD i default).rate) (qsub (ws.getD i default).need h))))) := rq_mk (cq.mono (by omega)) ((qmul_qz (qmul_qz a b) (qsub_qz nz hz)).mono (by decide))
  by_cases c : qcmp (ws.getD i default).need h > 0
  · refine ⟨_, _, as_tup (as_cons as_name (as_cons as_name (as_cons as_name (as_cons as_name as_nil)))) rfl, rn_ifT' (et_test (ev_op (ev_callWE (by walk_at "ev") q1 rfl) (by walk_at "ev") rd_I0b)) (by exact decide_eq_true c) (rn_asgE (ev_callWE (ea_cons (by walk_at "ev") (ea_cons (ev_callWE (ea_cons (ev_callWE (by walk_at "ev") q2 rfl) (ea_cons (ev_callWE (by walk_at "ev") q4 rfl) ea_nil)) q5 rfl) ea_nil)) q3 rfl) rfl), ?_⟩
    have e : cosN pay ws h (i + 1) = qadd (cosN pay ws h i) (qmul (qmul (ws.getD i default).ch (ws.getD i default).rate) (qsub (ws.getD i default).need h)) := by rw [cosN, if_pos c]
    rw [e]; walk_at "less"
  · refine ⟨_, _, as_tup (as_cons as_name (as_cons as_name (as_cons as_name (as_cons as_name as_nil)))) rfl, rn_ifF' (et_test (ev_op (ev_callWE (by walk_at "ev") q1 rfl) (by walk_at "ev") rd_I0b)) (by exact decide_eq_false c) rn_next, ?_⟩
    have e : cosN pay ws h (i + 1) = cosN pay ws h i := by rw [cosN, if_neg c]
    rw [e]; walk_at "less"
abbrev s_work_cost : Stmt := topS 40
theorem sc_work_cost : FnScope ["pay", "nodes", "hired"] ["pay", "nodes", "hired"] (defScope s_work_cost) := ⟨rfl, rfl, rfl, by decide +kernel, rfl, by decide +kernel, by decide +kernel⟩
def R_work_cost (ds : List PyData) (r : Res PyData) : Prop := ∃ (fn : List PyData → PyData) (pay h : Q2) (ws : List Wk) (m : Nat), Sq fn ∧ ds = [rat pay, fn (ws.map wkD), rat h] ∧ WkOk pay ws m ∧ Non0 20 h ∧ r = .ok (rat (cosF pay ws h))
theorem len_work_cost : ∀ ds r, R_work_cost ds r → ds.length = (["pay", "nodes", "hired"] : List Str).length := by
  rintro _ _ ⟨_, _, _, _, _, _, rfl, _⟩; rfl
theorem ok_work_cost (T : Tx K mg Z0 Z1) (D : DefAt K mg "work_cost" s_work_cost []) (c_work_task : CalX P w K mg base (L2N.CX P w) 7 "work_task" [] (R_work_task TKC)) (c_cost_with : CalX P w K mg base CX0 4 "cost_with" [] R_cost_with) (c_is_ratio : CalX P w K mg base CX0 2 "is_ratio" [] (R1 fun d => .bool (isRt d))) (e_BadKind : Err2 P w K mg base "BadKind" CX1 "word" "place") : CalX P w K mg base (L2N.CX P w) 8 "work_cost" [] R_work_cost := by
  refine okR D (bind0 (fun _ _ _ _ _ _ us hl => match us, hl with | [_, _, _], _ => rfl)) sc_work_cost len_work_cost fun f cdv A outer s H Ex hr => ⟨_, (pss_cons (ps_expr (pe_cal c_work_task hr (by decide) (fun σ => pLN σ) (pa_cons (pv 0) (pa_cons (pv 1) pa_nil))))
    (pss_cons (ps_if (PW.pt (pw_or (pt_not (pt_val (pe_cal c_is_ratio hr (by decide) (fun σ => p0At σ) (pa_cons (pv 2) pa_nil)))) (pw_or1 (pt_cmpR op_lt (pe_ix ix_seq (pv 2) pe_int (fun _ _ => rfl)) pe_int (nomark _))))) (pss_one (L2N.ps_raise rfl (L2N.takes_of rfl rfl rfl rfl) (pmk_e2 e_BadKind hr (by decide) (pa_cons pe_str (pa_cons pe_int pa_nil))))) pss_nil)
    (pss_one (ps_ret (pe_cal c_cost_with hr (by decide) (fun σ => p0At σ) (pa_cons (pv 0) (pa_cons (pv 1) (pa_cons (pv 2) pa_nil)))))))), ?_⟩

  rintro ds r ⟨fn, pay, h, ws, m, hN, rfl, o, hz, rfl⟩
  have tq : R_work_task TKC [rat pay, fn (ws.map wkD)] (.ok (taskD TKC (wRs m) (wNds pay ws))) := ⟨fn, pay, ws, m, hN, rfl, o, rfl⟩
  have rp := rt_ok hz.nf
  have h0 := hz.pos
  have cq : R_cost_with [rat pay, fn (ws.map wkD), rat h] (.ok (rat (cosF pay ws h))) := ⟨fn, pay, h, ws, m, hN, rfl, o, hz.qz, rfl⟩
  refine en_seq (rn_drop (ev_callWE (by walk_at "ev") tq rfl)) ?_
  refine en_seq (rn_ifF' (et_or (et_not (et_B (ev_callWE (by walk_at "ev") rp rfl))) fun _ => et_test (ev_op (ev_op (by walk_at "ev") (by walk_at "ev") (rd_ix_T rfl)) (by walk_at "ev") rd_I0b)) (by rw [decide_eq_false (show ¬ h.1 < 0 by omega)]; rfl) rn_next) ?_
  exact en_rt (rn_ret (ev_callWE (by walk_at "ev") cq rfl)) rfl
abbrev s_work_hired : Stmt := topS 41
theorem sc_work_hired : FnScope ["pay", "nodes", "best", "hired", "enough", "node"] ["pay", "nodes"] (defScope s_work_hired) := ⟨rfl, rfl, rfl, by decide +kernel, rfl, by decide +kernel, by decide +kernel⟩
def optD : Option Q2 → PyData
  | none => .none
  | some b => rat b
def R_work_hired (ds : List PyData) (r : Res PyData) : Prop := ∃ (fn : List PyData → PyData) (pay b : Q2) (ws : List Wk) (m : Nat), Sq fn ∧ ds = [rat pay, fn (ws.map wkD)] ∧ WkOk pay ws m ∧ bstF pay ws = some b ∧ r = .ok (.tuple [rat b, rat (cosF pay ws b)])
theorem cand_qz {pay : Q2} {ws : List Wk} {m : Nat} (o : WkOk pay ws m) {i : Nat} (hi : i < ws.length + 1) : Qz 20 ((candF ws).getD i (0, 1)) := by
  unfold candF
  cases i with
  | zero => exact z_qz.mono (by decide)
  | succ i =>
    show Qz 20 ((ws.map (·.need)).getD i (0, 1))
    rw [getD_map (a := default) (by omega)]
    exact (o.need i (by omega)).qz.mono (by decide)
theorem bstN_in {pay : Q2} {ws : List Wk} : ∀ {k : Nat} {b : Q2}, bstN pay ws k = some b → ∃ j, j < k ∧ b = (candF ws).getD j (0, 1)
  | 0, b, h => by cases h
  | k + 1, b, h => by
    rw [bstN] at h
    cases c : (decide (qcmp pay (savF ws ((candF ws).getD k (0, 1))) ≥ 0) && btB ((candF ws).getD k (0, 1)) (bstN pay ws k)) with
    | true =>
      rw [c] at h
      exact ⟨k, by omega, (Option.some.inj h).symm⟩
    | false =>
      rw [c] at h
      obtain ⟨j, hj, e⟩ := bstN_in (show bstN pay ws k = some b from h)
      exact ⟨j, by omega, e⟩
theorem len_work_hired : ∀ ds r, R_work_hired ds r → ds.length = (["pay", "nodes"] : List Str).length := by
  rintro _ _ ⟨_, _, _, _, _, _, rfl, _⟩; rfl
theorem ok_work_hired (T : Tx K mg Z0 Z1) (D : DefAt K mg "work_hired" s_work_hired []) (c_work_task : CalX P w K mg base (L2N.CX P w) 7 "work_task" [] (R_work_task TKC)) (c_cost_with : CalX P w K mg base CX0 4 "cost_with" [] R_cost_with) (c_compare : CalX P w K mg base CX0 1 "compare" [] (RQ 3000 fun a b => .int (qcmp a b))) (c_saved_rates : CalX P w K mg base CX0 4 "saved_rates" [] R_saved) : CalX P w K mg base (L2N.CX P w) 8 "work_hired" [] R_work_hired := by
  refine okR D (bind0 (fun _ _ _ _ _ _ us hl => match us, hl with | [_, _], _ => rfl)) sc_work_hired len_work_hired fun f cdv A outer s H Ex hr => ⟨_, (pss_cons (ps_expr (pe_cal c_work_task hr (by decide) (fun σ => pLN σ) (pa_cons (pv 0) (pa_cons (pv 1) pa_nil))))
    (pss_cons (ps_set (i := 2) sc_work_hired.nd rfl (by first | exact Or.inl rfl | exact Or.inr rfl) pe_non)
    (pss_cons (ps_for (passes_of rfl) rfl (pi_list (pe_op op_addU (pe_lst (pa_cons (pe_cT T.c_ZERO) pa_nil)) (pe_lc (own := [("node", 5)]) rfl sc_work_hired.nd (pi_seq (K := K) rfl (pv 1)) (blkOk_by (by show blkC ["pay", "nodes", "best", "hired", "enough", "node"] (defScope s_work_hired) _ [("node", 5)] = true; decide +kernel)) (fun _ _ _ _ _ => (pg_name (i := 5) sc_work_hired.nd rfl (by first | exact Or.inl rfl | exact Or.inr rfl))) (fun _ _ _ _ _ => pts_nil) (fun _ _ _ _ _ => (pe_ix (ix_K (K := K) rfl) (pv 5) pe_int (fun _ _ => rfl)))))) (pg_name (i := 3) sc_work_hired.nd rfl (by first | exact Or.inl rfl | exact Or.inr rfl)) (pss_cons (ps_set (i := 4) sc_work_hired.nd rfl (by first | exact Or.inl rfl | exact Or.inr rfl) (pe_cmpR op_ge (pe_cal c_compare hr (by decide) (fun σ => p0At σ) (pa_cons (pv 0) (pa_cons (pe_cal c_saved_rates hr (by decide) (fun σ => p0At σ) (pa_cons (pv 1) (pa_cons (pv 3) pa_nil))) pa_nil))) pe_int (nomark _)))
    (pss_one (ps_if (PW.pt (pw_and (pt_val (pv 4)) (pw_and1 (PW.pt (pw_or (pt_cmp (pc_isN (pv 2)) rfl) (pw_or1 (pt_cmpR op_lt (pe_cal c_compare hr (by decide) (fun σ => p0At σ) (pa_cons (pv 3) (pa_cons (pv 2) pa_nil))) pe_int (nomark _)))))))) (pss_one (ps_set (i := 2) sc_work_hired.nd rfl (by first | exact Or.inl rfl | exact Or.inr rfl) (pv 3))) pss_nil))))
    (pss_one (ps_ret (pe_tup (pa_cons (pv 2) (pa_cons (pe_cal c_cost_with hr (by decide) (fun σ => p0At σ) (pa_cons (pv 0) (pa_cons (pv 1) (pa_cons (pv 2) pa_nil)))) pa_nil)))))))), ?_⟩

  rintro ds r ⟨fn, pay, b, ws, m, hN, rfl, o, hb, rfl⟩
  have l2 := o.l2
  have hZ := T.c_ZERO.d
  have tq : R_work_task TKC [rat pay, fn (ws.map wkD)] (.ok (taskD TKC (wRs m) (wNds pay ws))) := ⟨fn, pay, ws, m, hN, rfl, o, rfl⟩
  refine en_seq (rn_drop (ev_callWE (by walk_at "ev") tq rfl)) ?_
  refine en_seq (rn_asgE (by walk_at "ev") rfl) ?_
  have src : ∀ {te : TE}, EvD K (fun _ _ _ _ => False) te [.val (rat pay), .val (fn (ws.map wkD)), .val .none, .no, .no, .no] (.ok (.list ((candF ws).map rat))) → SrcD K (iList K te) [.val (rat pay), .val (fn (ws.map wkD)), .val .none, .no, .no, .no] ((candF ws).map rat) := fun h => src_list h
  refine en_seq (rn_loop (js := [3]) (δ' := [.val (rat pay), .val (fn (ws.map wkD)), .val (optD (bstF pay ws)), .no, .no, .no]) (fun i => [.val (rat pay), .val (fn (ws.map wkD)), .val (optD (bstN pay ws i)), .no, .no, .no]) rfl (src (ev_is (ev_cat (ef_lst (by walk_at "ev") (by show 1 ≤ sizeLine; decide)) (ef_lcM (W' := fun _ _ _ _ => False) (js := [5]) (fun d => match d with
    | .tuple [_, _, n, _] => n
    | d => d) (hN.src (W := fun _ _ _ _ => False) (by walk_at "ev")) (by intro j hj; exact hj) (by rw [List.length_map, sizeLine_eq]; omega) (fun i d hd => ?_)) (by rw [List.length_map, List.length_map, sizeLine_eq]; show 1 + _ ≤ _; omega)) ?_)) (fun i d hl hd => ?_) (by rw [List.length_map]; unfold candF; rw [List.length_cons, List.length_map]; rfl)) ?_
  · obtain ⟨w0, hw, rfl⟩ := List.mem_map.mp (List.mem_of_getElem? hd)
    exact ⟨_, as_name, ev_op (by walk_at "ev") (by walk_at "ev") (rd_ix_T rfl)⟩
  · show PyData.list ([rat (0, 1)] ++ _) = _
    unfold candF
    rw [List.map_cons, List.map_map, List.map_map]; rfl
  · have cl : (candF ws).length = ws.length + 1 := by unfold candF; rw [List.length_cons, List.length_map]
    rw [List.length_map, cl] at hl
    have hd' : d = rat ((candF ws).getD i (0, 1)) := by
      rw [List.getElem?_map, List.getElem?_eq_getElem (by omega)] at hd
      rw [DL.getD_at (by omega)]
      exact (Option.some.inj hd).symm
    subst hd'
    have cz := cand_qz o (i := i) hl
    have sv := (savN_qz o ((candF ws).getD i (0, 1)) ws.length (Nat.le_refl _)).mono (show 1 + 31 * ws.length ≤ 3000 by omega)
    have q1 : R_saved [fn (ws.map wkD), rat ((candF ws).getD i (0, 1))] (.ok (rat (savF ws ((candF ws).getD i (0, 1))))) := ⟨fn, pay, _, ws, m, hN, rfl, o, cz, rfl⟩
    have q2 : RQ 3000 (fun a b => .int (qcmp a b)) [rat pay, rat (savF ws ((candF ws).getD i (0, 1)))] (.ok (.int (qcmp pay (savF ws ((candF ws).getD i (0, 1)))))) := rq_mk (o.pay.qz.mono (by decide)) sv
    cases hp : bstN pay ws i with
    | none =>
      by_cases c : qcmp pay (savF ws ((candF ws).getD i (0, 1))) ≥ 0
      · refine ⟨_, _, as_name, rn_seq (rn_asgE (ev_op (ev_callWE (ea_cons (by walk_at "ev") (ea_cons (ev_callWE (by walk_at "ev") q1 rfl) ea_nil)) q2 rfl) (by walk_at "ev") rd_I0b) rfl) (rn_ifT' (et_and (et_B (by walk_at "ev")) fun _ => et_or (a := true) (b := false) (et_test (ev_isNb (ev_var rfl) (by rfl))) fun h => nomatch h) (by rw [decide_eq_true c]; rfl) (rn_asgE (by walk_at "ev") rfl)), ?_⟩
        have e : bstN pay ws (i + 1) = some ((candF ws).getD i (0, 1)) := by rw [bstN, hp, decide_eq_true c]; rfl
        rw [e]; walk_at "less"
      · refine ⟨_, _, as_name, rn_seq (rn_asgE (ev_op (ev_callWE (ea_cons (by walk_at "ev") (ea_cons (ev_callWE (by walk_at "ev") q1 rfl) ea_nil)) q2 rfl) (by walk_at "ev") rd_I0b) rfl) (rn_ifF' (et_and (b := false) (et_B (by walk_at "ev")) fun h => absurd (of_decide_eq_true h) c) (by rw [decide_eq_false c]; rfl) rn_next), ?_⟩
        have e : bstN pay ws (i + 1) = none := by rw [bstN, hp, decide_eq_false c]; rfl
        rw [e]; walk_at "less"
    | some b0 =>
      obtain ⟨j, hj, eb⟩ := bstN_in hp
      have bz : Qz 20 b0 := by rw [eb]; exact cand_qz o (by omega)
      have q3 : RQ 3000 (fun a b => .int (qcmp a b)) [rat ((candF ws).getD i (0, 1)), rat b0] (.ok (.int (qcmp ((candF ws).getD i (0, 1)) b0))) := rq_mk (cz.mono (by decide)) (bz.mono (by decide))
      by_cases c : qcmp pay (savF ws ((candF ws).getD i (0, 1))) ≥ 0 ∧ qcmp ((candF ws).getD i (0, 1)) b0 < 0
      · refine ⟨_, _, as_name, rn_seq (rn_asgE (ev_op (ev_callWE (ea_cons (by walk_at "ev") (ea_cons (ev_callWE (by walk_at "ev") q1 rfl) ea_nil)) q2 rfl) (by walk_at "ev") rd_I0b) rfl) (rn_ifT' (et_and (et_B (by walk_at "ev")) fun _ => et_or (a := false) (et_test (ev_isNb (ev_var rfl) (by rfl))) fun _ => et_test (ev_op (ev_callWE (by walk_at "ev") q3 rfl) (by walk_at "ev") rd_I0b)) (by rw [decide_eq_true c.1, decide_eq_true c.2]; rfl) (rn_asgE (by walk_at "ev") rfl)), ?_⟩
        have e : bstN pay ws (i + 1) = some ((candF ws).getD i (0, 1)) := by rw [bstN, hp, decide_eq_true c.1, btB_some, decide_eq_true c.2]; rfl
        rw [e]; walk_at "less"
      · have cb : (decide (qcmp pay (savF ws ((candF ws).getD i (0, 1))) ≥ 0) && decide (qcmp ((candF ws).getD i (0, 1)) b0 < 0)) = false := by
          rw [Bool.and_eq_false_iff, decide_eq_false_iff_not, decide_eq_false_iff_not]
          by_cases c1 : qcmp pay (savF ws ((candF ws).getD i (0, 1))) ≥ 0
          · exact .inr fun c2 => c ⟨c1, c2⟩
          · exact .inl c1
        refine ⟨_, _, as_name, rn_seq (rn_asgE (ev_op (ev_callWE (ea_cons (by walk_at "ev") (ea_cons (ev_callWE (by walk_at "ev") q1 rfl) ea_nil)) q2 rfl) (by walk_at "ev") rd_I0b) rfl) (rn_ifF' (et_and (et_B (by walk_at "ev")) fun _ => et_or (a := false) (et_test (ev_isNb (ev_var rfl) (by rfl))) fun _ => et_test (ev_op (ev_callWE (by walk_at "ev") q3 rfl) (by walk_at "ev") rd_I0b)) (by exact cb) rn_next), ?_⟩
        have e : bstN pay ws (i + 1) = some b0 := by rw [bstN, hp, btB_some, cb]; rfl
        rw [e]; walk_at "less"
  · rw [hb]
    obtain ⟨j, hj, eb⟩ := bstN_in hb
    have bz : Qz 20 b := by rw [eb]; exact cand_qz o (by omega)
    have cq : R_cost_with [rat pay, fn (ws.map wkD), rat b] (.ok (rat (cosF pay ws b))) := ⟨fn, pay, b, ws, m, hN, rfl, o, bz, rfl⟩
    exact en_rt (rn_ret (ev_tupH (ea_cons (by walk_at "ev") (ea_cons (ev_callWE (ea_cons (by walk_at "ev") (ea_cons (by walk_at "ev") (ea_cons (ev_var rfl) ea_nil))) cq rfl) ea_nil)) (by show 2 ≤ sizeLine; decide))) rfl
end
end K74
end
set_option Elab.async false
set_option linter.all false
set_option maxRecDepth 100000
set_option maxHeartbeats 4000000
/-! PL: the law's own trees and chances, plain. -/
namespace DL
open PySem PySem.Spec PyProof.Rows L2
/-! ### x in xs, flat things -/
section
variable {X : Cx} {K : PySem.W.Frag}
theorem op_inSK (q : X.K = K) : OpR X (compareOp .In) (rIn K false) := by subst q; exact op_in_seq
theorem op_niSK (q : X.K = K) : OpR X (compareOp .NotIn) (rIn K true) := by subst q; exact op_notIn_seq
end
def eqF : PyData → PyData → Bool
  | .none, .none => true
  | .int a, .int b => a == b
  | .str a, .str b => a == b
  | _, _ => false
def flatD : PyData → Bool
  | .none => true
  | .int _ => true
  | .str _ => true
  | _ => false
theorem flat_dq {K : PySem.W.Frag} {F : Hp} {v : V} {d : PyData} (h : Dq K F v d) (f : flatD d = true) : flatV v = true := by
  cases h <;> first | rfl | (have f3 : false = true := f; cases f3; done)
theorem eqF_dq {K : PySem.W.Frag} {F : Hp} {v u : V} {d e : PyData} (h : Dq K F v d) (g : Dq K F u e) (f1 : flatD d = true) (f2 : flatD e = true) : eqV v u = eqF d e := by
  cases h <;> first | (have f3 : false = true := f1; cases f3; done) | (cases g <;> first | rfl | (have f3 : false = true := f2; cases f3; done))
theorem inF_dq {K : PySem.W.Frag} {F : Hp} {u : V} {e : PyData} (g : Dq K F u e) (f2 : flatD e = true) : ∀ {vs : List V} {ds : List PyData}, DqAll K F vs ds → ds.all flatD = true → vs.all flatV = true ∧ inV u vs = ds.any fun d => eqF d e
  | _, _, .nil, _ => ⟨rfl, rfl⟩
  | _, _, .cons h t, f => by
    rw [List.all_cons, Bool.and_eq_true] at f
    obtain ⟨q1, q2⟩ := inF_dq g f2 t f.2
    refine ⟨by rw [List.all_cons, q1, flat_dq h f.1]; rfl, ?_⟩
    unfold inV at q2 ⊢
    rw [List.any_cons, List.any_cons, q2, eqF_dq h g f.1 f2]
theorem rd_niL {K : PySem.W.Frag} {e : PyData} {l : List PyData} (f : flatD e = true) (fl : l.all flatD = true) : RD K (rIn K true) e (.list l) (.bool (!l.any fun d => eqF d e)) := fun F H u v Q s du dv q => by
  cases dv with
  | lst hs ha =>
    obtain ⟨q1, q2⟩ := inF_dq du f ha fl
    refine ⟨_, _, rfl, .inl (s.seq hs), flat_dq du f, q1, ?_⟩
    rw [if_pos rfl, q2]
    exact q _ F H (Ext.refl s) (.bl _)
theorem rd_inL {K : PySem.W.Frag} {e : PyData} {l : List PyData} (f : flatD e = true) (fl : l.all flatD = true) : RD K (rIn K false) e (.list l) (.bool (l.any fun d => eqF d e)) := fun F H u v Q s du dv q => by
  cases dv with
  | lst hs ha =>
    obtain ⟨q1, q2⟩ := inF_dq du f ha fl
    refine ⟨_, _, rfl, .inl (s.seq hs), flat_dq du f, q1, ?_⟩
    rw [if_neg (by decide), q2]
    exact q _ F H (Ext.refl s) (.bl _)
theorem par_flat (ps : List (Option Nat)) : (ps.map parD).all flatD = true := by
  rw [List.all_map, List.all_eq_true]
  intro p _
  cases p <;> rfl
theorem par_any (ps : List (Option Nat)) (v : Nat) : ((ps.map parD).any fun d => eqF d (.int (v : Int))) = decide (some v ∈ ps) := by
  rw [List.any_map]
  induction ps with
  | nil => rfl
  | cons a r ih =>
    rw [List.any_cons, ih]
    cases a with
    | none =>
      show (false || _) = _
      rw [Bool.false_or]
      exact decide_eq_decide.mpr ⟨fun h => List.mem_cons_of_mem _ h, fun h => by
        rcases List.mem_cons.mp h with e | h
        · cases e
        · exact h⟩
    | some p =>
      show (((p : Int) == (v : Int)) || _) = _
      by_cases e : p = v
      · subst e; simp
      · rw [show ((p : Int) == (v : Int)) = false by simpa using fun h => e (by omega), Bool.false_or]
        exact decide_eq_decide.mpr ⟨fun h => List.mem_cons_of_mem _ h, fun h => by
          rcases List.mem_cons.mp h with e' | h
          · exact absurd (Option.some.inj e').symm e
          · exact h⟩
/-! ### trees -/
abbrev TrS := List (Option Nat) × List Nat
def ableF (last : Nat) (s : TrS) : List Nat := (List.range s.1.length).filter fun v => decide (s.2.getD v 0 < last)
def tr1 (last : Nat) (s : TrS) (c : Nat) : TrS :=
  if 0 < (ableF last s).length then
    (s.1 ++ [some ((ableF last s).getD (c % (ableF last s).length) 0)], s.2 ++ [s.2.getD ((ableF last s).getD (c % (ableF last s).length) 0) 0 + 1])
  else s
def tr2 (last : Nat) (s : TrS) (v : Nat) : TrS :=
  if v < s.1.length ∧ s.2.getD v 0 < last ∧ some v ∉ s.1 then (s.1 ++ [some v], s.2 ++ [s.2.getD v 0 + 1]) else s
def trN1 (last : Nat) (ch : List Nat) : Nat → TrS
  | 0 => ([none], [0])
  | k + 1 => tr1 last (trN1 last ch k) (ch.getD k 0)
def trN2 (last : Nat) (s : TrS) : Nat → TrS
  | 0 => s
  | v + 1 => tr2 last (trN2 last s v) v
def treeF (last : Nat) (ch : List Nat) (extra : Nat) : TrS := trN2 last (trN1 last ch extra) 16
theorem tr1_len (last : Nat) (s : TrS) (c : Nat) (h : s.2.length = s.1.length) : (tr1 last s c).2.length = (tr1 last s c).1.length ∧ (tr1 last s c).1.length ≤ s.1.length + 1 ∧ s.1.length ≤ (tr1 last s c).1.length := by
  unfold tr1
  by_cases e : 0 < (ableF last s).length
  · rw [if_pos e]; simp [h]
  · rw [if_neg e]; simp [h]
theorem tr2_len (last : Nat) (s : TrS) (v : Nat) (h : s.2.length = s.1.length) : (tr2 last s v).2.length = (tr2 last s v).1.length ∧ (tr2 last s v).1.length ≤ s.1.length + 1 ∧ s.1.length ≤ (tr2 last s v).1.length := by
  unfold tr2
  by_cases e : v < s.1.length ∧ s.2.getD v 0 < last ∧ some v ∉ s.1
  · rw [if_pos e]; simp [h]
  · rw [if_neg e]; simp [h]
theorem trN1_len (last : Nat) (ch : List Nat) : ∀ k, (trN1 last ch k).2.length = (trN1 last ch k).1.length ∧ (trN1 last ch k).1.length ≤ k + 1 ∧ 1 ≤ (trN1 last ch k).1.length
  | 0 => ⟨rfl, Nat.le_refl _, Nat.le_refl _⟩
  | k + 1 => by
    obtain ⟨a, b, c⟩ := trN1_len last ch k
    obtain ⟨d, e, f⟩ := tr1_len last (trN1 last ch k) (ch.getD k 0) a
    exact ⟨d, by show (tr1 _ _ _).1.length ≤ _; omega, by show 1 ≤ (tr1 _ _ _).1.length; omega⟩
theorem trN2_len (last : Nat) (s : TrS) (h : s.2.length = s.1.length) : ∀ k, (trN2 last s k).2.length = (trN2 last s k).1.length ∧ (trN2 last s k).1.length ≤ s.1.length + k ∧ s.1.length ≤ (trN2 last s k).1.length
  | 0 => ⟨h, Nat.le_refl _, Nat.le_refl _⟩
  | k + 1 => by
    obtain ⟨a, b, c⟩ := trN2_len last s h k
    obtain ⟨d, e, f⟩ := tr2_len last (trN2 last s k) k a
    exact ⟨d, by show (tr2 _ _ _).1.length ≤ _; omega, by show _ ≤ (tr2 _ _ _).1.length; omega⟩
/-- the depths stay at most last -/
def DepOk (last : Nat) (s : TrS) : Prop := ∀ v, s.2.getD v 0 ≤ last
theorem getD_snoc (l : List Nat) (x v : Nat) : (l ++ [x]).getD v 0 = if v < l.length then l.getD v 0 else if v = l.length then x else 0 := by
  rw [List.getD_eq_getElem?_getD, List.getD_eq_getElem?_getD]
  by_cases h : v < l.length
  · rw [if_pos h, List.getElem?_append_left h]
  · rw [if_neg h, List.getElem?_append_right (by omega)]
    by_cases e : v = l.length
    · rw [if_pos e, e, Nat.sub_self]; rfl
    · rw [if_neg e, List.getElem?_eq_none (by simp; omega)]; rfl
theorem able_mem {last : Nat} {s : TrS} {v : Nat} (h : v ∈ ableF last s) : v < s.1.length ∧ s.2.getD v 0 < last := by
  unfold ableF at h
  obtain ⟨a, b⟩ := List.mem_filter.mp h
  exact ⟨List.mem_range.mp a, of_decide_eq_true b⟩
theorem able_at {last : Nat} {s : TrS} {c : Nat} (h : 0 < (ableF last s).length) : (ableF last s).getD (c % (ableF last s).length) 0 < s.1.length ∧ s.2.getD ((ableF last s).getD (c % (ableF last s).length) 0) 0 < last := by
  have hl : c % (ableF last s).length < (ableF last s).length := Nat.mod_lt _ h
  refine able_mem (last := last) ?_
  rw [DL.getD_at hl]
  exact List.getElem_mem _
def R_law_tree (ds : List PyData) (r : Res PyData) : Prop := ∃ (ch : List Nat) (last extra : Nat), ds = [.list (ch.map fun n : Nat => PyData.int (n : Int)), .int (last : Int), .int (extra : Int)] ∧ extra ≤ ch.length ∧ extra ≤ 1000 ∧
  r = .ok (.list [.list ((treeF last ch extra).1.map parD), .list ((treeF last ch extra).2.map fun n : Nat => PyData.int (n : Int))])
end DL
section
/-! ### the reading tactics -/
local macro_rules | `(tactic| walk_at "sz") => `(tactic| first
  | assumption
  | (apply DL.Sz.neg
     · walk_at "sz")
  | (apply DL.Sz.mul
     · walk_at "sz"
     · walk_at "sz")
  | (apply DL.Sz.add
     · walk_at "sz"
     · walk_at "sz")
  | (apply DL.Sz.sub
     · walk_at "sz"
     · walk_at "sz")
  | (apply DL.Sz.fmod
     · decide
     · walk_at "sz")
  | exact DL.Sz.self)
local macro_rules | `(tactic| walk_at "side") => `(tactic| first
  | assumption
  | (apply DL.cmulW_of
     · walk_at "sz"
     · walk_at "sz"
     · first | decide +kernel | omega)
  | rfl
  | decide
  | omega
  | (simp only [List.length_cons, List.length_nil]; decide)
  | (simp; done)
  | (simp only [PySem.sizeLine_eq, List.length_cons, List.length_nil]; omega))
local macro_rules | `(tactic| walk_at "rd") => `(tactic| first
  | exact DL.rd_addI
  | exact DL.rd_sub
  | exact DL.rd_mulL (by decide) (by decide)
  | exact DL.rd_mulR (by decide) (by decide)
  | (refine DL.rd_mulI ?_
     · walk_at "side")
  | exact DL.rd_pow ⟨by decide, by decide, by decide⟩
  | exact DL.rd_mod (by show (_ : Int) ≠ _; first | decide | assumption)
  | exact DL.rd_ix_T rfl
  | exact DL.rd_ix_L rfl
  | exact DL.rd_eqI
  | exact DL.rd_inC
  | exact DL.rd_niC
  | exact DL.rd_ix_S (by assumption) (by assumption)
  | exact DL.rd_neI
  | exact DL.rd_eqT
  | exact DL.rd_neT
  | exact DL.rd_eqB
  | exact DL.rd_I0b
  | (refine DL.rd_addS ?_
     · walk_at "side")
  | (refine DL.rd_addT ?_
     · walk_at "side")
  | (refine DL.rd_fdiv ?_ ?_
     · walk_at "side"
     · walk_at "side")
  | (refine DL.rd_mod ?_
     · walk_at "side")
  | assumption)
local macro_rules | `(tactic| walk_at "rc") => `(tactic| first
  | exact DL.rc_gcd
  | exact DL.rc_abs
  | exact DL.rc_max2
  | exact DL.rc_intV
  | exact DL.rc_intB
  | exact DL.rc_len_t
  | exact DL.rc_list_l
  | exact DL.rc_list_t
  | exact DL.rc_tup_l
  | exact DL.rc_len_l
  | (apply DL.rc_len_s
     · walk_at "side")
  | (apply DL.rc_str
     · walk_at "side")
  | assumption)
local macro_rules | `(tactic| walk_at "call") => `(tactic| first
  | exact ⟨_, rfl, by assumption, rfl⟩
  | exact ⟨_, rfl, rfl⟩
  | exact ⟨_, _, rfl, rfl⟩
  | assumption
  | fail "call: no contract")
local macro_rules | `(tactic| walk_at "ep") => `(tactic| first
  | with_reducible exact DL.ep_no
  | (with_reducible apply DL.ep_some
     · walk_at "ev"))
local macro_rules | `(tactic| walk_at "ev") => `(tactic| first
  | assumption
  | (with_reducible apply DL.ev_var
     · rfl)
  | with_reducible exact DL.ev_int
  | with_reducible exact DL.ev_str
  | with_reducible exact DL.ev_bl
  | with_reducible exact DL.ev_non
  | with_reducible exact DL.ea_nil
  | exact DL.ev_glob (by assumption)
  | (with_reducible apply DL.ev_op
     · walk_at "ev"
     · walk_at "ev"
     · walk_at "rd")
  | (with_reducible apply DL.ea_cons
     · walk_at "ev"
     · walk_at "ev")
  | (with_reducible apply DL.ev_sl
     · walk_at "ev"
     · walk_at "ep"
     · walk_at "ep"
     · first | exact DL.rs_s (by assumption) | exact DL.rs_l | exact DL.rs_t)
  | (with_reducible apply DL.ev_un
     · walk_at "ev"
     · with_reducible exact DL.ru_neg)
  | (with_reducible apply DL.ev_isiE
     · walk_at "ev"
     · first | rfl | assumption
     · first | rfl | assumption
     · rfl)
  | (with_reducible apply DL.ev_tupH
     · walk_at "ev"
     · walk_at "side")
  | (with_reducible apply DL.ev_lstH
     · walk_at "ev"
     · walk_at "side")
  | (with_reducible apply DL.ev_cb
     · walk_at "ev"
     · walk_at "rc")
  | (with_reducible apply DL.et_test
     · walk_at "ev")
  | (with_reducible apply DL.et_B
     · walk_at "ev")
  | (with_reducible apply DL.et_not
     · walk_at "ev")
  | (with_reducible apply DL.et_and
     · walk_at "ev"
     · (intro _; walk_at "ev"))
  | (with_reducible apply DL.et_or
     · walk_at "ev"
     · (intro _; walk_at "ev"))
  | (with_reducible apply DL.ev_xf
     · rfl
     · rfl)
  | (with_reducible apply DL.ev_chain
     · walk_at "ev"
     · walk_at "ev"
     · walk_at "rd"
     · (intro _; walk_at "ev")
     · (intro _; walk_at "rd"))
  | (with_reducible apply DL.ev_fld
     · walk_at "ev"
     · assumption
     · assumption
     · rfl)
  | (with_reducible apply DL.ev_isN
     · walk_at "ev")
  | (with_reducible apply DL.ev_notN
     · walk_at "ev")
  | (with_reducible apply DL.ev_andV
     · walk_at "ev"
     · (intro _; walk_at "ev"))
  | (with_reducible apply DL.ev_orV
     · walk_at "ev"
     · (intro _; walk_at "ev"))
  | (with_reducible apply DL.ev_notV
     · walk_at "ev")
  | (with_reducible apply DL.ev_callE
     · walk_at "ev"
     · walk_at "call"
     · rfl)
  | (with_reducible apply DL.ev_callSE
     · walk_at "ev"
     · walk_at "call"
     · rfl))
local macro_rules | `(tactic| walk_at "less") => `(tactic| (
  (try simp only [List.set_cons_zero, List.set_cons_succ])
  repeat (first | exact DL.less_nil | apply DL.less_same | apply DL.less_no)))
local macro_rules | `(tactic| walk_at "nat") => `(tactic| first
  | assumption
  | (with_reducible apply DL.ev_var
     · rfl)
  | exact DL.ev_int
  | (apply DL.en_ix
     · walk_at "nat"
     · walk_at "nat"
     · omega)
  | (apply DL.en_add
     · walk_at "nat"
     · walk_at "nat")
  | (apply DL.en_mod
     · walk_at "nat"
     · walk_at "nat"
     · omega)
  | (apply DL.en_div
     · walk_at "nat"
     · walk_at "nat"
     · omega
     · omega)
  | (apply DL.en_mul
     · walk_at "nat"
     · walk_at "nat"
     · first | decide | omega
     · first | decide | omega))

set_option Elab.async false
set_option linter.all false
set_option maxRecDepth 100000
set_option maxHeartbeats 4000000
set_option exponentiation.threshold 10000
/-! K74I: the law's trees -/
namespace K74
open PySem PySem.Spec PyProof.Rows L2 DL
section
variable {P : Program} {w : World} {K : PySem.W.Frag} {mg : Str → Option Value} {base : Heap} {Z0 Z1 CB CM CK TKC CX1 : Addr}

abbrev s__law_tree : Stmt := topS 52
theorem sc__law_tree : FnScope ["draws", "last", "extra", "parents", "depths", "k", "v", "able", "parent"] ["draws", "last", "extra"] (defScope s__law_tree) := ⟨rfl, rfl, rfl, by decide +kernel, rfl, by decide +kernel, by decide +kernel⟩
def trDn (ch : List Nat) (last extra : Nat) (s : TrS) : Dn := [.val (.list (ch.map fun n : Nat => PyData.int (n : Int))), .val (.int (last : Int)), .val (.int (extra : Int)), .own (s.1.map parD), .own (s.2.map fun n : Nat => PyData.int (n : Int)), .no, .no, .no, .no]
theorem len__law_tree : ∀ ds r, R_law_tree ds r → ds.length = (["draws", "last", "extra"] : List Str).length := by
  rintro _ _ ⟨_, _, _, rfl, _⟩; rfl
theorem ok__law_tree (T : Tx K mg Z0 Z1) (D : DefAt K mg "_law_tree" s__law_tree [])  : CalX P w K mg base CX0 1 "_law_tree" [] R_law_tree := by
  refine okN D (bind0 (fun _ _ _ _ _ _ us hl => match us, hl with | [_, _, _], _ => rfl)) sc__law_tree len__law_tree fun f cdv A outer s H Ex hr => ⟨_, (pss_cons (ps_set (i := 3) sc__law_tree.nd rfl (by first | exact Or.inl rfl | exact Or.inr rfl) (pe_lst (pa_cons pe_non pa_nil)))
    (pss_cons (ps_set (i := 4) sc__law_tree.nd rfl (by first | exact Or.inl rfl | exact Or.inr rfl) (pe_lst (pa_cons pe_int pa_nil)))
    (pss_cons (ps_for PassesOwn.never rfl (pi_range1 rfl T.n_range (pa_cons (pv 2) pa_nil)) (pg_name (i := 5) sc__law_tree.nd rfl (by first | exact Or.inl rfl | exact Or.inr rfl)) (pss_cons (ps_setLc (i := 7) (own := [("v", 6)]) rfl sc__law_tree.nd rfl rfl (sw_true rfl rfl rfl (by decide +kernel)) (pi_range1 rfl T.n_range (pa_cons (pe_callB call_len (by rfl) T.n_len (by decide +kernel) (pa_cons (pv 3) pa_nil)) pa_nil)) (blkOk_by (by show blkC ["draws", "last", "extra", "parents", "depths", "k", "v", "able", "parent"] (defScope s__law_tree) _ [("v", 6)] = true; decide +kernel)) (fun _ _ _ _ _ => (pg_name (i := 6) sc__law_tree.nd rfl (by first | exact Or.inl rfl | exact Or.inr rfl))) (fun _ _ _ _ _ => pts_one (pt_cmpR op_lt (pe_ix (ix_K (K := K) rfl) (pv 4) (pv 6) (fun _ _ => rfl)) (pv 1) (nomark _))) (fun _ _ _ _ _ => (pv 6)))
    (pss_one (ps_if (pt_cmpR op_gt (pe_callB call_len (by rfl) T.n_len (by decide +kernel) (pa_cons (pv 7) pa_nil)) pe_int (nomark _)) (pss_cons (ps_set (i := 8) sc__law_tree.nd rfl (by first | exact Or.inl rfl | exact Or.inr rfl) (pe_ix ix_seq (pv 7) (pe_op op_modN (pe_ix ix_seq (pv 0) (pv 5) (fun _ _ => rfl)) (pe_callB call_len (by rfl) T.n_len (by decide +kernel) (pa_cons (pv 7) pa_nil))) (fun _ _ => rfl)))
    (pss_cons (ps_expr (pe_bm PySem.F.plainAttrs_list PySem.F.slot_list_append PySem.F.type_list_append mt_append (pv 3) (pa_cons (pv 8) pa_nil)))
    (pss_one (ps_expr (pe_bm PySem.F.plainAttrs_list PySem.F.slot_list_append PySem.F.type_list_append mt_append (pv 4) (pa_cons (pe_op op_addU (pe_ix ix_seq (pv 4) (pv 8) (fun _ _ => rfl)) pe_int) pa_nil)))))) pss_nil))))
    (pss_cons (ps_for PassesOwn.never rfl (pi_range1 rfl T.n_range (pa_cons pe_int pa_nil)) (pg_name (i := 6) sc__law_tree.nd rfl (by first | exact Or.inl rfl | exact Or.inr rfl)) (pss_one (ps_if (PW.pt (pw_and (pt_cmpR op_lt (pv 6) (pe_callB call_len (by rfl) T.n_len (by decide +kernel) (pa_cons (pv 3) pa_nil)) (nomark _)) (pw_and (pt_cmpR op_lt (pe_ix ix_seq (pv 4) (pv 6) (fun _ _ => rfl)) (pv 1) (nomark _)) (pw_and1 (pt_cmpR (op_niSK (K := K) rfl) (pv 6) (pv 3) (by rfl)))))) (pss_cons (ps_expr (pe_bm PySem.F.plainAttrs_list PySem.F.slot_list_append PySem.F.type_list_append mt_append (pv 3) (pa_cons (pv 6) pa_nil)))
    (pss_one (ps_expr (pe_bm PySem.F.plainAttrs_list PySem.F.slot_list_append PySem.F.type_list_append mt_append (pv 4) (pa_cons (pe_op op_addU (pe_ix ix_seq (pv 4) (pv 6) (fun _ _ => rfl)) pe_int) pa_nil))))) pss_nil)))
    (pss_one (ps_ret (pe_lst (pa_cons (pv 3) (pa_cons (pv 4) pa_nil))))))))), ?_⟩

  rintro ds r ⟨ch, last, extra, rfl, hx, hx2, rfl⟩
  refine en_seq (rn_asgO (ds := [parD none]) (ea_cons ev_non ea_nil) (by decide)) ?_
  refine en_seq (rn_asgO (ds := [.int ((0 : Nat) : Int)]) (ea_cons ev_int ea_nil) (by decide)) ?_
  refine en_seq (rn_loop (js := [5]) (δ' := trDn ch last extra (trN1 last ch extra)) (fun i => trDn ch last extra (trN1 last ch i)) rfl (src_rng1 (W := fun _ _ _ _ => False) (j := (extra : Int)) (by walk_at "ev") (by omega) (by omega)) (fun i d _ hd => ?_) (by rw [iota_len, Int.toNat_natCast])) ?_
  · obtain ⟨hi, rfl⟩ := iota_at hd
    rw [Int.toNat_natCast] at hi
    obtain ⟨b1, b2, b3⟩ := trN1_len last ch i
    rw [show trN1 last ch (i + 1) = tr1 last (trN1 last ch i) (ch.getD i 0) from rfl]
    generalize trN1 last ch i = s at *
    have able : ((iota 0 s.1.length).filter fun d => match d with
        | .int v => decide (s.2.getD v.toNat 0 < last)
        | _ => false) = (ableF last s).map fun n : Nat => PyData.int (n : Int) := by
      rw [iota_map]
      exact filter_ints (fun v => decide (s.2.getD v 0 < last)) _ _ fun n _ => by
        show decide (s.2.getD ((n : Int)).toNat 0 < last) = _
        rw [Int.toNat_natCast]
    have lc := fun (W : WX) => ev_lc (K := K) (W := W) (W' := fun _ _ _ _ => False) (δ := (trDn ch last extra s).set 5 (.val (.int (i : Int)))) (js := [6]) (fun d => match d with
        | .int v => decide (s.2.getD v.toNat 0 < last)
        | _ => false) (fun d => d) (g := gName 6) (vs := [6]) (tt := tTest (tOp (rI0 fun i j => .bl (decide (i < j))) (tOp (rIx K) (tVar 4) (tVar 6)) (tVar 1))) (te := tVar 6) (src_rng1 (K := K) (W := fun _ _ _ _ => False) (j := (s.1.length : Int)) (ea_cons (ev_lend (i := 3) rfl reads_L (ev_cb (ea_cons (ev_var (i := 3) rfl) ea_nil) (len_map_l parD _)) rfl) ea_nil) (by omega) (by omega)) (by intro j hj; exact hj) (by rw [iota_len, sizeLine_eq]; omega) (fun v d hd => by
          obtain ⟨hv, rfl⟩ := iota_at hd
          rw [Int.toNat_natCast] at hv
          refine ⟨_, as_name, et_is (et_test (ev_op (ev_ixO' (i := 4) rfl (ev_var rfl) (at_mapD 0 (fun n : Nat => PyData.int (n : Int)) (by omega))) (ev_var rfl) rd_I0b)) ?_, fun _ => ev_var rfl⟩
          show _ = decide (s.2.getD ((v : Int)).toNat 0 < last)
          rw [Int.toNat_natCast]
          exact decide_eq_decide.mpr ⟨fun h => by omega, fun h => by omega⟩)
    rw [Int.toNat_natCast, able, List.map_id'] at lc
    by_cases e : 0 < (ableF last s).length
    · obtain ⟨a1, a2⟩ := able_at (c := ch.getD i 0) e
      have et : tr1 last s (ch.getD i 0) = (s.1 ++ [some ((ableF last s).getD (ch.getD i 0 % (ableF last s).length) 0)], s.2 ++ [s.2.getD ((ableF last s).getD (ch.getD i 0 % (ableF last s).length) 0) 0 + 1]) := by unfold tr1; rw [if_pos e]
      rw [et]
      have hm : ch.getD i 0 % (ableF last s).length < (ableF last s).length := Nat.mod_lt _ e
      generalize ableF last s = al at *
      have c0 : (ch.getD i 0 : Int).fmod (al.length : Int) = ((ch.getD i 0 % al.length : Nat) : Int) := fmod_nat _ _
      generalize hq : ch.getD i 0 % al.length = q at *
      generalize hp : al.getD q 0 = p at *
      refine ⟨_, _, as_name, rn_seq (rn_asgE (lc _) rfl) (rn_ifT' (et_test (ev_op (ev_cb (by walk_at "ev") (len_map_l _ _)) (by walk_at "ev") rd_I0b)) (by exact decide_eq_true (by omega)) (rn_seq (rn_asgE (d := .int (p : Int)) (ev_op (by walk_at "ev") (ev_is (ev_op (ev_op (by walk_at "ev") (by walk_at "ev") (rd_ix_L (at_mapD 0 (fun n : Nat => PyData.int (n : Int)) (by omega)))) (ev_cb (by walk_at "ev") (len_map_l _ _)) (rd_mod (by show (_ : Int) ≠ 0; omega))) (congrArg PyData.int c0)) (rd_ix_L (by rw [← hp]; exact at_mapD 0 (fun n : Nat => PyData.int (n : Int)) hm))) rfl) (rn_seq (rn_app (i := 3) rfl (by walk_at "ev") (by rw [List.length_map, sizeLine_eq]; omega)) (rn_app (i := 4) rfl (ev_op (ev_ixO' (i := 4) rfl (by walk_at "ev") (at_mapD 0 (fun n : Nat => PyData.int (n : Int)) (by omega))) (by walk_at "ev") rd_addI) (by rw [List.length_map, sizeLine_eq]; omega))))), ?_⟩
      unfold trDn
      rw [List.map_append, List.map_append]
      walk_at "less"
    · have et : tr1 last s (ch.getD i 0) = s := by unfold tr1; rw [if_neg e]
      rw [et]
      refine ⟨_, _, as_name, rn_seq (rn_asgE (lc _) rfl) (rn_ifF' (et_test (ev_op (ev_cb (by walk_at "ev") (len_map_l _ _)) (by walk_at "ev") rd_I0b)) (by exact decide_eq_false (by omega)) rn_next), ?_⟩
      unfold trDn
      walk_at "less"
  obtain ⟨c1, c2, c3⟩ := trN1_len last ch extra
  refine en_seq (rn_loop (js := [6]) (δ' := trDn ch last extra (treeF last ch extra)) (fun i => trDn ch last extra (trN2 last (trN1 last ch extra) i)) rfl (src_rng1 (W := fun _ _ _ _ => False) (j := (16 : Int)) (by walk_at "ev") (by omega) (by omega)) (fun i d _ hd => ?_) (by rw [iota_len]; rfl)) ?_
  · obtain ⟨hi, rfl⟩ := iota_at hd
    have hi : i < 16 := hi
    obtain ⟨b1, b2, b3⟩ := trN2_len last (trN1 last ch extra) c1 i
    rw [show trN2 last (trN1 last ch extra) (i + 1) = tr2 last (trN2 last (trN1 last ch extra) i) i from rfl]
    generalize trN2 last (trN1 last ch extra) i = s at *
    generalize trN1 last ch extra = s0 at *
    have len : ∀ {W : WX}, EvD K W (tCB (fun xs H Q => ∃ x n, xs = [x] ∧ LenV K x H n ∧ Q (.int n) H) (tCons (tVar 3) tNil)) ((trDn ch last extra s).set 6 (.val (.int (i : Int)))) (.ok (.int (s.1.length : Nat))) := ev_lend (i := 3) rfl reads_L (ev_cb (ea_cons (ev_var rfl) ea_nil) (len_map_l parD _)) rfl
    have notin : ∀ {W : WX}, EvD K W (tOp (rIn K true) (tVar 6) (tVar 3)) ((trDn ch last extra s).set 6 (.val (.int (i : Int)))) (.ok (.bool (!decide (some i ∈ s.1)))) := by
      intro W
      rw [← par_any]
      exact ev_lend (i := 3) rfl reads_L (ev_op (ev_var rfl) (ev_var rfl) (rd_niL rfl (par_flat _))) rfl
    by_cases e1 : i < s.1.length
    · have dp : ∀ {W : WX}, EvD K W (tOp (rIx K) (tVar 4) (tVar 6)) ((trDn ch last extra s).set 6 (.val (.int (i : Int)))) (.ok (.int (s.2.getD i 0 : Nat))) := ev_ixO' (i := 4) rfl (ev_var rfl) (at_mapD 0 (fun n : Nat => PyData.int (n : Int)) (by omega))
      by_cases e2 : s.2.getD i 0 < last ∧ some i ∉ s.1
      · have et : tr2 last s i = (s.1 ++ [some i], s.2 ++ [s.2.getD i 0 + 1]) := by unfold tr2; rw [if_pos ⟨e1, e2.1, e2.2⟩]
        rw [et]
        refine ⟨_, _, as_name, rn_ifT' (et_and (et_test (ev_op (by walk_at "ev") len rd_I0b)) fun _ => et_and (et_test (ev_op dp (by walk_at "ev") rd_I0b)) fun _ => et_test notin) ?_ (rn_seq (rn_app (i := 3) rfl (by walk_at "ev") (by rw [List.length_map, sizeLine_eq]; omega)) (rn_app (i := 4) rfl (ev_op (ev_ixO' (i := 4) rfl (by walk_at "ev") (at_mapD 0 (fun n : Nat => PyData.int (n : Int)) (by omega))) (by walk_at "ev") rd_addI) (by rw [List.length_map, sizeLine_eq]; omega))), ?_⟩
        · rw [decide_eq_true (show (i : Int) < (s.1.length : Int) by omega), decide_eq_true (show ((s.2.getD i 0 : Nat) : Int) < (last : Int) by omega), decide_eq_false e2.2]; rfl
        · unfold trDn
          rw [List.map_append, List.map_append]
          walk_at "less"
      · have et : tr2 last s i = s := by unfold tr2; rw [if_neg fun h => e2 h.2]
        rw [et]
        refine ⟨_, _, as_name, rn_ifF' (et_and (et_test (ev_op (by walk_at "ev") len rd_I0b)) fun _ => et_and (et_test (ev_op dp (by walk_at "ev") rd_I0b)) fun _ => et_test notin) ?_ rn_next, ?_⟩
        · rw [decide_eq_true (show (i : Int) < (s.1.length : Int) by omega)]
          by_cases e3 : s.2.getD i 0 < last
          · rw [decide_eq_true (show ((s.2.getD i 0 : Nat) : Int) < (last : Int) by omega), decide_eq_true (Classical.byContradiction fun h => e2 ⟨e3, h⟩)]; rfl
          · rw [decide_eq_false (show ¬ ((s.2.getD i 0 : Nat) : Int) < (last : Int) by omega)]; rfl
        · unfold trDn
          walk_at "less"
    · have et : tr2 last s i = s := by unfold tr2; rw [if_neg fun h => e1 h.1]
      rw [et]
      refine ⟨_, _, as_name, rn_ifF' (et_and (b := false) (et_test (ev_op (by walk_at "ev") len rd_I0b)) fun h => absurd (of_decide_eq_true h) (by omega)) (by rw [decide_eq_false (show ¬ (i : Int) < (s.1.length : Int) by omega)]; rfl) rn_next, ?_⟩
      unfold trDn
      walk_at "less"
  refine en_frz (i := 3) (o := ownL ((treeF last ch extra).1.map parD)) rfl reads_L ?_
  refine en_frz (i := 4) (o := ownL ((treeF last ch extra).2.map fun n : Nat => PyData.int (n : Int))) rfl reads_L ?_
  exact en_rt (rn_ret (ev_lstH (ea_cons (ev_var rfl) (ea_cons (ev_var rfl) ea_nil)) (by show 2 ≤ sizeLine; decide))) rfl
end
end K74
end
set_option Elab.async false
set_option linter.all false
set_option maxRecDepth 100000
set_option maxHeartbeats 4000000
/-! PC: the law's chances, plain; right trees. -/
namespace DL
open PySem PySem.Spec PyProof.Rows L2
structure TreeOk (ps : List (Option Nat)) (ds : List Nat) (last : Nat) : Prop where
  l1 : 1 ≤ ps.length
  l2 : ps.length ≤ 16
  l3 : last ≤ 3
  dl : ds.length = ps.length
  p0 : ps.getD 0 none = none
  d0 : ds.getD 0 0 = 0
  pr : ∀ k, 0 < k → k < ps.length → ∃ p, ps.getD k none = some p ∧ p < k ∧ ds.getD k 0 = ds.getD p 0 + 1
  dm : ∀ k, k < ps.length → ds.getD k 0 ≤ last
  dx : ∃ k, k < ps.length ∧ ds.getD k 0 = last
  lf : ∀ k, k < ps.length → (∀ w, w < ps.length → ps.getD w none ≠ some k) → ds.getD k 0 = last
def parB (s : TrS) (k : Nat) : Bool := match s.1.getD k none with
  | none => decide (k = 0)
  | some p => decide (p < k) && decide (s.2.getD k 0 = s.2.getD p 0 + 1)
def lfB (last : Nat) (s : TrS) (k : Nat) : Bool := decide (s.2.getD k 0 = last) || (List.range s.1.length).any fun w => decide (s.1.getD w none = some k)
def treeB (last : Nat) (s : TrS) : Bool := decide (1 ≤ s.1.length) && (decide (s.1.length ≤ 16) && (decide (last ≤ 3) && (decide (s.2.length = s.1.length) && (decide (s.1.getD 0 none = none) && (decide (s.2.getD 0 0 = 0) && ((List.range s.1.length).all (parB s) && ((List.range s.1.length).all (fun k => decide (s.2.getD k 0 ≤ last)) && ((List.range s.1.length).any (fun k => decide (s.2.getD k 0 = last)) && (List.range s.1.length).all (lfB last s)))))))))
theorem treeB_ok {last : Nat} {s : TrS} (h : treeB last s = true) : TreeOk s.1 s.2 last := by
  unfold treeB at h
  simp only [Bool.and_eq_true] at h
  obtain ⟨h1, h2, h3, h4, h5, h6, h7, h8, h9, h10⟩ := h
  refine ⟨of_decide_eq_true h1, of_decide_eq_true h2, of_decide_eq_true h3, of_decide_eq_true h4, of_decide_eq_true h5, of_decide_eq_true h6, fun k k0 hk => ?_, fun k hk => ?_, ?_, fun k hk hw => ?_⟩
  · have q := List.all_eq_true.mp h7 k (List.mem_range.mpr hk)
    unfold parB at q
    cases e : s.1.getD k none with
    | none =>
      rw [e] at q
      have := of_decide_eq_true q
      omega
    | some p =>
      rw [e] at q
      rw [Bool.and_eq_true] at q
      exact ⟨p, rfl, of_decide_eq_true q.1, of_decide_eq_true q.2⟩
  · exact of_decide_eq_true (List.all_eq_true.mp h8 k (List.mem_range.mpr hk))
  · obtain ⟨k, hk, e⟩ := List.any_eq_true.mp h9
    exact ⟨k, List.mem_range.mp hk, of_decide_eq_true e⟩
  · have q := List.all_eq_true.mp h10 k (List.mem_range.mpr hk)
    unfold lfB at q
    rw [Bool.or_eq_true] at q
    rcases q with q | q
    · exact of_decide_eq_true q
    · obtain ⟨w, hw1, e⟩ := List.any_eq_true.mp q
      exact absurd (of_decide_eq_true e) (hw w (List.mem_range.mp hw1))
theorem tr1_mod {last : Nat} {s : TrS} {c : Nat} (h : s.1.length ≤ 3) : tr1 last s c = tr1 last s (c % 6) := by
  have hl : (ableF last s).length ≤ 3 := by
    unfold ableF
    have := List.length_filter_le (fun v => decide (s.2.getD v 0 < last)) (List.range s.1.length)
    rw [List.length_range] at this
    omega
  unfold tr1
  by_cases e : 0 < (ableF last s).length
  · have d : (ableF last s).length ∣ 6 := by
      have : (ableF last s).length = 1 ∨ (ableF last s).length = 2 ∨ (ableF last s).length = 3 := by omega
      rcases this with q | q | q <;> rw [q] <;> decide
    rw [if_pos e, if_pos e, Nat.mod_mod_of_dvd _ d]
  · rw [if_neg e, if_neg e]
def tr0 : TrS := ([none], [0])
theorem tree_all : (∀ last : _root_.Fin 4, ∀ a : _root_.Fin 6, treeB last (trN2 last (tr1 last tr0 a) 16) = true) ∧
    (∀ last : _root_.Fin 4, ∀ a b : _root_.Fin 6, treeB last (trN2 last (tr1 last (tr1 last tr0 a) b) 16) = true) ∧
    (∀ last : _root_.Fin 4, ∀ a b c : _root_.Fin 6, treeB last (trN2 last (tr1 last (tr1 last (tr1 last tr0 a) b) c) 16) = true) := by
  refine ⟨?_, ?_, ?_⟩ <;> decide +kernel
theorem tree_ok {last extra : Nat} (ch : List Nat) (hl : last ≤ 3) (h1 : 1 ≤ extra) (h3 : extra ≤ 3) : TreeOk (treeF last ch extra).1 (treeF last ch extra).2 last := by
  refine treeB_ok ?_
  have m : ∀ x : Nat, x % 6 < 6 := fun x => Nat.mod_lt _ (by decide)
  have e1 : trN1 last ch 1 = tr1 last tr0 (ch.getD 0 0 % 6) := tr1_mod (s := tr0) (by decide)
  have e2 : trN1 last ch 2 = tr1 last (tr1 last tr0 (ch.getD 0 0 % 6)) (ch.getD 1 0 % 6) := by
    have := tr1_mod (last := last) (s := trN1 last ch 1) (c := ch.getD 1 0) (by have := (trN1_len last ch 1).2.1; omega)
    rw [← e1, ← this]; rfl
  have e3 : trN1 last ch 3 = tr1 last (tr1 last (tr1 last tr0 (ch.getD 0 0 % 6)) (ch.getD 1 0 % 6)) (ch.getD 2 0 % 6) := by
    have := tr1_mod (last := last) (s := trN1 last ch 2) (c := ch.getD 2 0) (by have := (trN1_len last ch 2).2.1; omega)
    rw [← e2, ← this]; rfl
  unfold treeF
  have : extra = 1 ∨ extra = 2 ∨ extra = 3 := by omega
  rcases this with q | q | q <;> subst q
  · rw [e1]; exact tree_all.1 ⟨last, by omega⟩ ⟨_, m _⟩
  · rw [e2]; exact tree_all.2.1 ⟨last, by omega⟩ ⟨_, m _⟩ ⟨_, m _⟩
  · rw [e3]; exact tree_all.2.2 ⟨last, by omega⟩ ⟨_, m _⟩ ⟨_, m _⟩ ⟨_, m _⟩
end DL
set_option Elab.async false
set_option linter.all false
set_option maxRecDepth 100000
set_option maxHeartbeats 4000000
/-! PD: the law's chances, plain. -/
namespace DL
open PySem PySem.Spec PyProof.Rows L2
def wtN (d : List Nat) (v : Nat) : Nat := 1 + d.getD v 0 % 4
theorem wt_le (d : List Nat) (v : Nat) : 1 ≤ wtN d v ∧ wtN d v ≤ 4 := by unfold wtN; omega
def sibF (ps : List (Option Nat)) (v : Nat) : List Nat := (List.range ps.length).filter fun w => decide (0 < w) && decide (ps.getD w none = ps.getD v none)
def totW (ps : List (Option Nat)) (wt : Nat → Nat) (v : Nat) : Nat := ((sibF ps v).map wt).sum
def cha1 (ps : List (Option Nat)) (wt : Nat → Nat) (l : List Q2) (k : Nat) : Q2 := match ps.getD k none with
  | none => (1, 1)
  | some p => nrm ((l.getD p (0, 1)).1 * (wt k : Int)) ((l.getD p (0, 1)).2 * (totW ps wt k : Int))
def chaN (ps : List (Option Nat)) (wt : Nat → Nat) : Nat → List Q2
  | 0 => []
  | k + 1 => chaN ps wt k ++ [cha1 ps wt (chaN ps wt k) k]
def chaF (ps : List (Option Nat)) (wt : Nat → Nat) : List Q2 := chaN ps wt ps.length
theorem chaN_len (ps : List (Option Nat)) (wt : Nat → Nat) : ∀ k, (chaN ps wt k).length = k
  | 0 => rfl
  | k + 1 => by rw [chaN, List.length_append, chaN_len ps wt k]; rfl
theorem getD_app_l {α : Type} (a b : List α) (x : α) {i : Nat} (h : i < a.length) : (a ++ b).getD i x = a.getD i x := by
  rw [List.getD_eq_getElem?_getD, List.getD_eq_getElem?_getD, List.getElem?_append_left h]
theorem getD_app_e {α : Type} (a : List α) (y x : α) {i : Nat} (h : a.length = i) : (a ++ [y]).getD i x = y := by
  rw [List.getD_eq_getElem?_getD, List.getElem?_append_right (by omega), h, Nat.sub_self]; rfl
theorem chaN_at (ps : List (Option Nat)) (wt : Nat → Nat) : ∀ {m k : Nat}, k < m → (chaN ps wt m).getD k (0, 1) = cha1 ps wt (chaN ps wt k) k
  | 0, k, h => by omega
  | m + 1, k, h => by
    rw [chaN]
    by_cases e : k = m
    · subst e
      exact getD_app_e _ _ _ (chaN_len ps wt k)
    · rw [getD_app_l _ _ _ (by rw [chaN_len]; omega)]
      exact chaN_at ps wt (by omega)
theorem chaN_same (ps : List (Option Nat)) (wt : Nat → Nat) {m n k : Nat} (h : k < m) (h2 : k < n) : (chaN ps wt m).getD k (0, 1) = (chaN ps wt n).getD k (0, 1) := by rw [chaN_at ps wt h, chaN_at ps wt h2]
theorem sum_le {α : Type} (f : α → Nat) (c : Nat) : ∀ l : List α, (∀ a ∈ l, f a ≤ c) → (l.map f).sum ≤ c * l.length
  | [], _ => by simp
  | a :: r, h => by
    have := sum_le f c r fun x hx => h x (List.mem_cons_of_mem _ hx)
    have h1 := h a List.mem_cons_self
    rw [List.map_cons, List.sum_cons, List.length_cons, Nat.mul_add]
    omega
theorem le_sum {α : Type} (f : α → Nat) : ∀ {l : List α} {a : α}, a ∈ l → f a ≤ (l.map f).sum
  | a :: r, x, h => by
    rw [List.map_cons, List.sum_cons]
    rcases List.mem_cons.mp h with e | h
    · rw [e]; omega
    · have := le_sum f h; omega
theorem totW_le {ps : List (Option Nat)} {wt : Nat → Nat} (hw : ∀ v, 1 ≤ wt v ∧ wt v ≤ 4) {v : Nat} (hl : ps.length ≤ 16) : totW ps wt v ≤ 64 := by
  have a := sum_le wt 4 (sibF ps v) fun a _ => (hw a).2
  have b := List.length_filter_le (fun w => decide (0 < w) && decide (ps.getD w none = ps.getD v none)) (List.range ps.length)
  rw [List.length_range] at b
  unfold totW
  have : (sibF ps v).length ≤ ps.length := b
  omega
theorem totW_pos {ps : List (Option Nat)} {wt : Nat → Nat} (hw : ∀ v, 1 ≤ wt v ∧ wt v ≤ 4) {v : Nat} (h0 : 0 < v) (hv : v < ps.length) : 1 ≤ totW ps wt v := by
  have m : v ∈ sibF ps v := List.mem_filter.mpr ⟨List.mem_range.mpr hv, by rw [decide_eq_true h0, decide_eq_true rfl]; rfl⟩
  have := le_sum wt m
  have := (hw v).1
  unfold totW
  omega
theorem nrm_pos {t b : Int} (ht : 0 < t) (hb : 0 < b) : 0 < (nrm t b).1 := by
  have hb' : b ≠ 0 := by omega
  have n := (nrm_spec (t := t) hb').1.pos
  have c := nrm_cross (t := t) hb'
  have : 0 < t * (nrm t b).2 := Int.mul_pos ht n
  rw [← c] at this
  exact Int.pos_of_mul_pos_left this hb
theorem sz_nat {n m : Nat} (h : n < 2 ^ m) : Sz m (n : Int) := by show ((n : Int)).natAbs < _; rw [Int.natAbs_natCast]; exact h
theorem cha_ok {ps : List (Option Nat)} {ds : List Nat} {last : Nat} (o : TreeOk ps ds last) {wt : Nat → Nat} (hw : ∀ v, 1 ≤ wt v ∧ wt v ≤ 4) : ∀ k, k < ps.length → ∀ m, k < m → Nf ((chaN ps wt m).getD k (0, 1)) ∧ 0 < ((chaN ps wt m).getD k (0, 1)).1 ∧ Qz (1 + 7 * ds.getD k 0) ((chaN ps wt m).getD k (0, 1)) := by
  intro k
  induction k using Nat.strongRecOn with
  | _ k ih =>
    intro hk m hm
    rw [chaN_at ps wt hm]
    unfold cha1
    by_cases z : k = 0
    · subst z
      rw [o.p0]
      exact ⟨one_nf, (by decide : (0 : Int) < 1), ⟨by show (1 : Int).natAbs < 2 ^ _; exact Nat.lt_of_lt_of_le (by decide : (1 : Int).natAbs < 2 ^ 1) (Nat.pow_le_pow_right (by decide) (by omega)), by show (1 : Int).natAbs < 2 ^ _; exact Nat.lt_of_lt_of_le (by decide : (1 : Int).natAbs < 2 ^ 1) (Nat.pow_le_pow_right (by decide) (by omega)), by show (1 : Int) ≠ 0; decide⟩⟩
    · obtain ⟨p, hp, hlt, hd⟩ := o.pr k (by omega) hk
      rw [hp]
      obtain ⟨q1, q2, q3⟩ := ih p hlt (by omega) k hlt
      have w := hw k
      have t1 := totW_pos (ps := ps) hw (v := k) (by omega) hk
      have t2 := totW_le (ps := ps) hw (v := k) o.l2
      have b0 : (0 : Int) < ((chaN ps wt k).getD p (0, 1)).2 * (totW ps wt k : Int) := Int.mul_pos q1.pos (by omega)
      have a0 : (0 : Int) < ((chaN ps wt k).getD p (0, 1)).1 * (wt k : Int) := Int.mul_pos q2 (by omega)
      refine ⟨(nrm_spec (by omega)).1, nrm_pos a0 b0, ?_⟩
      have s1 := (q3.t.mul (sz_nat (m := 7) (n := wt k) (by omega))).mono (show 1 + 7 * ds.getD p 0 + 7 ≤ 1 + 7 * ds.getD k 0 by omega)
      have s2 := (q3.b.mul (sz_nat (m := 7) (n := totW ps wt k) (by omega))).mono (show 1 + 7 * ds.getD p 0 + 7 ≤ 1 + 7 * ds.getD k 0 by omega)
      exact nrm_qz s1 s2 (by omega)
theorem qsumN_rv {xs : List Q2} (h : ∀ x ∈ xs, Nf x) : ∀ j, j ≤ xs.length → Nf (qsumN xs j) ∧ rv (qsumN xs j) = ((xs.take j).map rv).sum
  | 0, _ => ⟨(⟨by decide, by decide⟩ : Nf ((0, 1) : Q2)), by rw [List.take_zero]; show ((0 : Int) : Rat) / ((1 : Int) : Rat) = 0; decide +kernel⟩
  | j + 1, hj => by
    obtain ⟨a, b⟩ := qsumN_rv h j (by omega)
    have hx : Nf (xs.getD j (0, 1)) := h _ (by rw [DL.getD_at (by omega)]; exact List.getElem_mem _)
    rw [qsumN]
    refine ⟨qadd_nf' a hx, ?_⟩
    rw [rv_add a.ne hx.ne, b, List.take_add_one, List.getElem?_eq_getElem (by omega), List.map_append, List.sum_append, ← DL.getD_at (d := ((0, 1) : Q2)) (by omega)]
    show _ = _ + (rv _ + 0)
    rw [Rat.add_zero]
theorem sum_scale {α : Type} (c s : Rat) (f : α → Nat) : ∀ l : List α, (l.map fun a => c * (f a : Rat) / s).sum = c * (((l.map f).sum : Nat) : Rat) / s
  | [] => by
    show (0 : Rat) = c * ((0 : Nat) : Rat) / s
    have : ((0 : Nat) : Rat) = 0 := rfl
    rw [this, Rat.mul_zero]; grind
  | a :: r => by
    rw [List.map_cons, List.sum_cons, sum_scale c s f r, List.map_cons, List.sum_cons]
    have : ((f a + (r.map f).sum : Nat) : Rat) = (f a : Rat) + (((r.map f).sum : Nat) : Rat) := by exact_mod_cast rfl
    rw [this]
    grind
/-- the chances of the children make the chance of the node -/
theorem cha_sum {ps : List (Option Nat)} {ds : List Nat} {last : Nat} (o : TreeOk ps ds last) {wt : Nat → Nat} (hwt : ∀ v, 1 ≤ wt v ∧ wt v ≤ 4) {k : Nat} (hk : k < ps.length) (cs : List Nat) (hc : cs = (List.range ps.length).filter fun w => decide (ps.getD w none = some k)) (hn : cs ≠ []) :
    qsumN (cs.map fun w => (chaF ps wt).getD w (0, 1)) cs.length = (chaF ps wt).getD k (0, 1) := by
  have cm : ∀ w ∈ cs, w < ps.length ∧ ps.getD w none = some k := fun w hw => by
    rw [hc] at hw
    obtain ⟨a, b⟩ := List.mem_filter.mp hw
    exact ⟨List.mem_range.mp a, of_decide_eq_true b⟩
  have ok := fun w (hl : w < ps.length) => cha_ok o hwt w hl ps.length hl
  have sib : ∀ w ∈ cs, sibF ps w = cs := fun w hw => by
    rw [hc]
    unfold sibF
    refine List.filter_congr fun u hu => ?_
    rw [(cm w hw).2]
    by_cases e : ps.getD u none = some k
    · have : 0 < u := by
        rcases Nat.eq_zero_or_pos u with z | z
        · rw [z, o.p0] at e; cases e
        · exact z
      rw [decide_eq_true this]; rfl
    · rw [decide_eq_false e, Bool.and_false]
  have tot : ∀ w ∈ cs, totW ps wt w = (cs.map wt).sum := fun w hw => by unfold totW; rw [sib w hw]
  have spos : (((cs.map wt).sum : Nat) : Rat) ≠ 0 := by
    obtain ⟨w, hw⟩ := List.exists_mem_of_ne_nil _ hn
    have := le_sum wt hw
    have := (hwt w).1
    have : (cs.map wt).sum ≠ 0 := by omega
    intro e
    exact this (by exact_mod_cast e)
  obtain ⟨k1, k2, k3⟩ := ok k hk
  have val : ∀ w ∈ cs, rv ((chaF ps wt).getD w (0, 1)) = rv ((chaF ps wt).getD k (0, 1)) * (wt w : Rat) / (((cs.map wt).sum : Nat) : Rat) := fun w hw => by
    obtain ⟨a, b⟩ := cm w hw
    have hkw : k < w := by
      have w0 : 0 < w := by
        rcases Nat.eq_zero_or_pos w with z | z
        · rw [z, o.p0] at b; cases b
        · exact z
      obtain ⟨p, hp, hl, _⟩ := o.pr w w0 a
      rw [hp] at b; cases b; exact hl
    have t1 : totW ps wt w ≠ 0 := by
      rw [tot w hw]
      have := le_sum wt hw
      have := (hwt w).1
      omega
    show rv ((chaN ps wt ps.length).getD w (0, 1)) = _
    rw [chaN_at ps wt a]
    unfold cha1
    rw [b]
    dsimp only
    rw [chaN_same ps wt hkw hk]
    have zb : ((chaN ps wt ps.length).getD k (0, 1)).2 * (totW ps wt w : Int) ≠ 0 := Int.mul_ne_zero k1.ne (by omega)
    rw [rv_nrm zb, ← tot w hw]
    show _ = rv ((chaN ps wt ps.length).getD k (0, 1)) * _ / _
    unfold rv
    have r1 := cast_ne k1.ne
    change ((((chaN ps wt ps.length).getD k (0, 1)).2 : Int) : Rat) ≠ 0 at r1
    have r2 : ((totW ps wt w : Nat) : Rat) ≠ 0 := by rw [tot w hw]; exact spos
    generalize ((chaN ps wt ps.length).getD k (0, 1)) = z at *
    have c1 : ((z.1 * (wt w : Int) : Int) : Rat) = (z.1 : Rat) * (wt w : Rat) := by rw [Rat.intCast_mul]; rfl
    have c2 : ((z.2 * (totW ps wt w : Int) : Int) : Rat) = (z.2 : Rat) * (totW ps wt w : Rat) := by rw [Rat.intCast_mul]; rfl
    rw [c1, c2]
    grind
  have nf : ∀ x ∈ cs.map (fun w => (chaF ps wt).getD w (0, 1)), Nf x := fun x hx => by
    obtain ⟨w, hw, rfl⟩ := List.mem_map.mp hx
    exact (ok w (cm w hw).1).1
  obtain ⟨q1, q2⟩ := qsumN_rv nf cs.length (by rw [List.length_map]; exact Nat.le_refl _)
  refine nf_ext q1 k1 ?_
  rw [q2, List.take_of_length_le (by rw [List.length_map]; exact Nat.le_refl _), List.map_map]
  have e : cs.map (rv ∘ fun w => (chaF ps wt).getD w (0, 1)) = cs.map fun w => rv ((chaF ps wt).getD k (0, 1)) * (wt w : Rat) / (((cs.map wt).sum : Nat) : Rat) := List.map_congr_left fun w hw => val w hw
  rw [e, sum_scale]
  show _ = rv ((chaF ps wt).getD k (0, 1))
  generalize rv ((chaF ps wt).getD k (0, 1)) = z
  grind
end DL
section
/-! ### the reading tactics -/
local macro_rules | `(tactic| walk_at "sz") => `(tactic| first
  | assumption
  | (apply DL.Sz.neg
     · walk_at "sz")
  | (apply DL.Sz.mul
     · walk_at "sz"
     · walk_at "sz")
  | (apply DL.Sz.add
     · walk_at "sz"
     · walk_at "sz")
  | (apply DL.Sz.sub
     · walk_at "sz"
     · walk_at "sz")
  | (apply DL.Sz.fmod
     · decide
     · walk_at "sz")
  | exact DL.Sz.self)
local macro_rules | `(tactic| walk_at "side") => `(tactic| first
  | assumption
  | (apply DL.cmulW_of
     · walk_at "sz"
     · walk_at "sz"
     · first | decide +kernel | omega)
  | rfl
  | decide
  | omega
  | (simp only [List.length_cons, List.length_nil]; decide)
  | (simp; done)
  | (simp only [PySem.sizeLine_eq, List.length_cons, List.length_nil]; omega))
local macro_rules | `(tactic| walk_at "rd") => `(tactic| first
  | exact DL.rd_addI
  | exact DL.rd_sub
  | exact DL.rd_mulL (by decide) (by decide)
  | exact DL.rd_mulR (by decide) (by decide)
  | (refine DL.rd_mulI ?_
     · walk_at "side")
  | exact DL.rd_pow ⟨by decide, by decide, by decide⟩
  | exact DL.rd_mod (by show (_ : Int) ≠ _; first | decide | assumption)
  | exact DL.rd_ix_T rfl
  | exact DL.rd_ix_L rfl
  | exact DL.rd_eqI
  | exact DL.rd_inC
  | exact DL.rd_niC
  | exact DL.rd_ix_S (by assumption) (by assumption)
  | exact DL.rd_neI
  | exact DL.rd_eqT
  | exact DL.rd_neT
  | exact DL.rd_eqB
  | exact DL.rd_I0b
  | (refine DL.rd_addS ?_
     · walk_at "side")
  | (refine DL.rd_addT ?_
     · walk_at "side")
  | (refine DL.rd_fdiv ?_ ?_
     · walk_at "side"
     · walk_at "side")
  | (refine DL.rd_mod ?_
     · walk_at "side")
  | assumption)
local macro_rules | `(tactic| walk_at "rc") => `(tactic| first
  | exact DL.rc_gcd
  | exact DL.rc_abs
  | exact DL.rc_max2
  | exact DL.rc_intV
  | exact DL.rc_intB
  | exact DL.rc_len_t
  | exact DL.rc_list_l
  | exact DL.rc_list_t
  | exact DL.rc_tup_l
  | exact DL.rc_len_l
  | (apply DL.rc_len_s
     · walk_at "side")
  | (apply DL.rc_str
     · walk_at "side")
  | assumption)
local macro_rules | `(tactic| walk_at "call") => `(tactic| first
  | exact ⟨_, rfl, by assumption, rfl⟩
  | exact ⟨_, rfl, rfl⟩
  | exact ⟨_, _, rfl, rfl⟩
  | assumption
  | fail "call: no contract")
local macro_rules | `(tactic| walk_at "ep") => `(tactic| first
  | with_reducible exact DL.ep_no
  | (with_reducible apply DL.ep_some
     · walk_at "ev"))
local macro_rules | `(tactic| walk_at "ev") => `(tactic| first
  | assumption
  | (with_reducible apply DL.ev_var
     · rfl)
  | with_reducible exact DL.ev_int
  | with_reducible exact DL.ev_str
  | with_reducible exact DL.ev_bl
  | with_reducible exact DL.ev_non
  | with_reducible exact DL.ea_nil
  | exact DL.ev_glob (by assumption)
  | (with_reducible apply DL.ev_op
     · walk_at "ev"
     · walk_at "ev"
     · walk_at "rd")
  | (with_reducible apply DL.ea_cons
     · walk_at "ev"
     · walk_at "ev")
  | (with_reducible apply DL.ev_sl
     · walk_at "ev"
     · walk_at "ep"
     · walk_at "ep"
     · first | exact DL.rs_s (by assumption) | exact DL.rs_l | exact DL.rs_t)
  | (with_reducible apply DL.ev_un
     · walk_at "ev"
     · with_reducible exact DL.ru_neg)
  | (with_reducible apply DL.ev_isiE
     · walk_at "ev"
     · first | rfl | assumption
     · first | rfl | assumption
     · rfl)
  | (with_reducible apply DL.ev_tupH
     · walk_at "ev"
     · walk_at "side")
  | (with_reducible apply DL.ev_lstH
     · walk_at "ev"
     · walk_at "side")
  | (with_reducible apply DL.ev_cb
     · walk_at "ev"
     · walk_at "rc")
  | (with_reducible apply DL.et_test
     · walk_at "ev")
  | (with_reducible apply DL.et_B
     · walk_at "ev")
  | (with_reducible apply DL.et_not
     · walk_at "ev")
  | (with_reducible apply DL.et_and
     · walk_at "ev"
     · (intro _; walk_at "ev"))
  | (with_reducible apply DL.et_or
     · walk_at "ev"
     · (intro _; walk_at "ev"))
  | (with_reducible apply DL.ev_xf
     · rfl
     · rfl)
  | (with_reducible apply DL.ev_chain
     · walk_at "ev"
     · walk_at "ev"
     · walk_at "rd"
     · (intro _; walk_at "ev")
     · (intro _; walk_at "rd"))
  | (with_reducible apply DL.ev_fld
     · walk_at "ev"
     · assumption
     · assumption
     · rfl)
  | (with_reducible apply DL.ev_isN
     · walk_at "ev")
  | (with_reducible apply DL.ev_notN
     · walk_at "ev")
  | (with_reducible apply DL.ev_andV
     · walk_at "ev"
     · (intro _; walk_at "ev"))
  | (with_reducible apply DL.ev_orV
     · walk_at "ev"
     · (intro _; walk_at "ev"))
  | (with_reducible apply DL.ev_notV
     · walk_at "ev")
  | (with_reducible apply DL.ev_callE
     · walk_at "ev"
     · walk_at "call"
     · rfl)
  | (with_reducible apply DL.ev_callSE
     · walk_at "ev"
     · walk_at "call"
     · rfl))
local macro_rules | `(tactic| walk_at "less") => `(tactic| (
  (try simp only [List.set_cons_zero, List.set_cons_succ])
  repeat (first | exact DL.less_nil | apply DL.less_same | apply DL.less_no)))
local macro_rules | `(tactic| walk_at "nat") => `(tactic| first
  | assumption
  | (with_reducible apply DL.ev_var
     · rfl)
  | exact DL.ev_int
  | (apply DL.en_ix
     · walk_at "nat"
     · walk_at "nat"
     · omega)
  | (apply DL.en_add
     · walk_at "nat"
     · walk_at "nat")
  | (apply DL.en_mod
     · walk_at "nat"
     · walk_at "nat"
     · omega)
  | (apply DL.en_div
     · walk_at "nat"
     · walk_at "nat"
     · omega
     · omega)
  | (apply DL.en_mul
     · walk_at "nat"
     · walk_at "nat"
     · first | decide | omega
     · first | decide | omega))

set_option Elab.async false
set_option linter.all false
set_option maxRecDepth 100000
set_option maxHeartbeats 4000000
set_option exponentiation.threshold 10000
/-! K74J: the law's chances -/
namespace K74
open PySem PySem.Spec PyProof.Rows L2 DL
section
variable {P : Program} {w : World} {K : PySem.W.Frag} {mg : Str → Option Value} {base : Heap} {Z0 Z1 CB CM CK TKC CX1 : Addr}

abbrev s__law_chances : Stmt := topS 53
theorem sc__law_chances : FnScope ["parents", "draws", "weights", "chances", "v", "total", "above", "w"] ["parents", "draws"] (defScope s__law_chances) := ⟨rfl, rfl, rfl, by decide +kernel, rfl, by decide +kernel, by decide +kernel⟩
def R_law_chances (ds : List PyData) (r : Res PyData) : Prop := ∃ (ps : List (Option Nat)) (d dl : List Nat) (last : Nat), ds = [.list (ps.map parD), .list (d.map fun n : Nat => PyData.int (n : Int))] ∧ TreeOk ps dl last ∧ ps.length ≤ d.length ∧ r = .ok (.list ((chaF ps (wtN d)).map rat))
def chDn (ps : List (Option Nat)) (d : List Nat) (l : List Q2) : Dn := [.val (.list (ps.map parD)), .val (.list (d.map fun n : Nat => PyData.int (n : Int))), .val (.list (((List.range ps.length).map (wtN d)).map fun n : Nat => PyData.int (n : Int))), .own (l.map rat), .no, .no, .no, .no]
theorem sib_iota (ps : List (Option Nat)) (d : List Nat) (v : Nat) (g : PyData → Bool) (f : PyData → PyData) (h0 : 1 ≤ ps.length) (hg : ∀ w, 0 < w → w < ps.length → g (.int (w : Int)) = decide (ps.getD w none = ps.getD v none)) (hf : ∀ w : Nat, f (.int (w : Int)) = .int ((wtN d w : Nat) : Int)) :
    ((iota 1 (ps.length - 1)).filter g).map f = ((sibF ps v).map fun w => ((wtN d w : Nat) : Int)).map PyData.int := by
  have e1 : iota 1 (ps.length - 1) = ((List.range (ps.length - 1)).map (· + 1)).map fun n : Nat => PyData.int (n : Int) := by
    unfold iota
    rw [List.map_map]
    refine List.map_congr_left fun i _ => ?_
    show PyData.int (1 + (i : Int)) = PyData.int (((i + 1 : Nat)) : Int)
    congr 1; omega
  have e2 : List.range ps.length = 0 :: (List.range (ps.length - 1)).map (· + 1) := by
    have : ps.length = (ps.length - 1) + 1 := by omega
    rw [this, List.range_succ_eq_map]; rfl
  unfold sibF
  rw [e2, List.filter_cons, if_neg (by simp), e1]
  have mem : ∀ w ∈ (List.range (ps.length - 1)).map (· + 1), 0 < w ∧ w < ps.length := fun w hw => by
    obtain ⟨i, hi, rfl⟩ := List.mem_map.mp hw
    have := List.mem_range.mp hi
    exact ⟨by omega, by omega⟩
  rw [filter_ints (fun w => decide (0 < w) && decide (ps.getD w none = ps.getD v none)) g _ fun w hw => by
    obtain ⟨a, b⟩ := mem w hw
    rw [hg w a b, decide_eq_true a]; rfl]
  rw [List.map_map, List.map_map]
  exact List.map_congr_left fun w _ => hf w
theorem sum_ints {α : Type} (f : α → Nat) : ∀ l : List α, (l.map fun a => ((f a : Nat) : Int)).sum = (((l.map f).sum : Nat) : Int)
  | [] => rfl
  | a :: r => by
    rw [List.map_cons, List.sum_cons, sum_ints f r, List.map_cons, List.sum_cons]; omega
theorem len__law_chances : ∀ ds r, R_law_chances ds r → ds.length = (["parents", "draws"] : List Str).length := by
  rintro _ _ ⟨_, _, _, _, rfl, _⟩; rfl
theorem ok__law_chances (T : Tx K mg Z0 Z1) (D : DefAt K mg "_law_chances" s__law_chances []) (c__law_ratio : CalX P w K mg base CX0 2 "_law_ratio" [] R_law_ratio) : CalX P w K mg base CX0 3 "_law_chances" [] R_law_chances := by
  refine okN D (bind0 (fun _ _ _ _ _ _ us hl => match us, hl with | [_, _], _ => rfl)) sc__law_chances len__law_chances fun f cdv A outer s H Ex hr => ⟨_, (pss_cons (ps_set (i := 2) sc__law_chances.nd rfl (by first | exact Or.inl rfl | exact Or.inr rfl) (pe_lc (own := [("v", 4)]) rfl sc__law_chances.nd (pi_range1 rfl T.n_range (pa_cons (pe_callB call_len (by rfl) T.n_len (by decide +kernel) (pa_cons (pv 0) pa_nil)) pa_nil)) (blkOk_by (by show blkC ["parents", "draws", "weights", "chances", "v", "total", "above", "w"] (defScope s__law_chances) _ [("v", 4)] = true; decide +kernel)) (fun _ _ _ _ _ => (pg_name (i := 4) sc__law_chances.nd rfl (by first | exact Or.inl rfl | exact Or.inr rfl))) (fun _ _ _ _ _ => pts_nil) (fun _ _ _ _ _ => (pe_op (op_addK (K := K) rfl) pe_int (pe_op op_modN (pe_ix (ix_K (K := K) rfl) (pv 1) (pv 4) (fun _ _ => rfl)) pe_int)))))
    (pss_cons (ps_set (i := 3) sc__law_chances.nd rfl (by first | exact Or.inl rfl | exact Or.inr rfl) (pe_lst (pa_cons (pe_tup (pa_cons pe_int (pa_cons pe_int pa_nil))) pa_nil)))
    (pss_cons (ps_for PassesOwn.never rfl (pi_range2 rfl T.n_range (pa_cons pe_int (pa_cons (pe_callB call_len (by rfl) T.n_len (by decide +kernel) (pa_cons (pv 0) pa_nil)) pa_nil))) (pg_name (i := 4) sc__law_chances.nd rfl (by first | exact Or.inl rfl | exact Or.inr rfl)) (pss_cons (ps_set (i := 5) sc__law_chances.nd rfl (by first | exact Or.inl rfl | exact Or.inr rfl) (pe_callB (cr_sum rfl) (by rfl) T.n_sum (by decide +kernel) (pa_cons (pe_lc (own := [("w", 7)]) rfl sc__law_chances.nd (pi_range2 rfl T.n_range (pa_cons pe_int (pa_cons (pe_callB call_len (by rfl) T.n_len (by decide +kernel) (pa_cons (pv 0) pa_nil)) pa_nil))) (blkOk_by (by show blkC ["parents", "draws", "weights", "chances", "v", "total", "above", "w"] (defScope s__law_chances) _ [("w", 7)] = true; decide +kernel)) (fun _ _ _ _ _ => (pg_name (i := 7) sc__law_chances.nd rfl (by first | exact Or.inl rfl | exact Or.inr rfl))) (fun _ _ _ _ _ => pts_one (pt_cmpR (op_eqK (K := K) (hu64 hr) rfl) (pe_ix (ix_K (K := K) rfl) (pv 0) (pv 7) (fun _ _ => rfl)) (pe_ix (ix_K (K := K) rfl) (pv 0) (pv 4) (fun _ _ => rfl)) (nomark _))) (fun _ _ _ _ _ => (pe_ix (ix_K (K := K) rfl) (pv 2) (pv 7) (fun _ _ => rfl)))) pa_nil)))
    (pss_cons (ps_set (i := 6) sc__law_chances.nd rfl (by first | exact Or.inl rfl | exact Or.inr rfl) (pe_ix ix_seq (pv 3) (pe_ix ix_seq (pv 0) (pv 4) (fun _ _ => rfl)) (fun _ _ => rfl)))
    (pss_one (ps_expr (pe_bm PySem.F.plainAttrs_list PySem.F.slot_list_append PySem.F.type_list_append mt_append (pv 3) (pa_cons (pe_cal c__law_ratio hr (by decide) (fun σ => p0At σ) (pa_cons (pe_op op_mulU (pe_ix ix_seq (pv 6) pe_int (fun _ _ => rfl)) (pe_ix ix_seq (pv 2) (pv 4) (fun _ _ => rfl))) (pa_cons (pe_op op_mulU (pe_ix ix_seq (pv 6) pe_int (fun _ _ => rfl)) (pv 5)) pa_nil))) pa_nil)))))))
    (pss_one (ps_ret (pv 3)))))), ?_⟩

  rintro ds r ⟨ps, d, dl, last, rfl, o, hl, rfl⟩
  have l1 := o.l1
  have l2 := o.l2
  have l3 := o.l3
  refine en_seq (rn_asgE (d := .list (((List.range ps.length).map (wtN d)).map fun n : Nat => PyData.int (n : Int))) (ev_is (ev_lcM (W' := fun _ _ _ _ => False) (js := [4]) (fun x => match x with
    | .int v => .int ((wtN d v.toNat : Nat) : Int)
    | x => x) (src_rng1 (W := fun _ _ _ _ => False) (j := (ps.length : Int)) (ea_cons (ev_cb (by walk_at "ev") (len_map_l parD ps)) ea_nil) (by omega) (by omega)) (by intro j hj; exact hj) (by rw [iota_len, sizeLine_eq]; omega) (fun v x hx => ?_)) ?_) rfl) ?_
  · obtain ⟨hv, rfl⟩ := iota_at hx
    rw [Int.toNat_natCast] at hv
    refine ⟨_, as_name, ev_is (ev_op ev_int (ev_op (ev_op (by walk_at "ev") (by walk_at "ev") (rd_ix_L (at_mapD 0 (fun n : Nat => PyData.int (n : Int)) (by omega)))) ev_int (rd_mod (by show (_ : Int) ≠ 0; decide))) rd_addI) ?_⟩
    show PyData.int _ = PyData.int ((wtN d ((v : Int)).toNat : Nat) : Int)
    rw [Int.toNat_natCast]
    have := fmod_nat (d.getD v 0) 4
    congr 1
    rw [show ((4 : Nat) : Int) = 4 from rfl] at this
    rw [this]
    unfold wtN
    rfl
  · rw [Int.toNat_natCast, iota_map, List.map_map, List.map_map]
    congr 1
  refine en_seq (rn_asgO (ds := [rat (1, 1)]) (ea_cons (by walk_at "ev") ea_nil) (by decide)) ?_
  have ch1 : chaN ps (wtN d) 1 = [(1, 1)] := by
    show [] ++ [cha1 ps (wtN d) [] 0] = _
    unfold cha1
    rw [o.p0]; rfl
  refine en_seq (rn_loop (js := [4]) (δ' := chDn ps d (chaF ps (wtN d))) (fun i => chDn ps d (chaN ps (wtN d) (i + 1))) (by rw [ch1]; rfl) (src_rng2 (W := fun _ _ _ _ => False) (i := 1) (j := (ps.length : Int)) (ea_cons ev_int (ea_cons (ev_cb (by walk_at "ev") (len_map_l parD ps)) ea_nil)) ⟨by omega, by omega, by omega, by omega⟩) (fun i x _ hx => ?_) (by rw [iota_len, show ((ps.length : Int) - 1).toNat + 1 = ps.length by omega]; rfl)) ?_
  · have hi : i < ps.length - 1 := by
      have := (List.getElem?_eq_some_iff.mp hx).1
      rw [iota_len] at this; omega
    have ex : x = .int ((i + 1 : Nat) : Int) := by
      rw [iota_get (by omega)] at hx
      rw [← Option.some.inj hx]
      congr 1; omega
    subst ex
    obtain ⟨p, hp, hlt, hd⟩ := o.pr (i + 1) (by omega) (by omega)
    have ixw : ∀ w : Nat, 0 < w → w < ps.length → ∃ q : Nat, ps.getD w none = some q ∧ atI (ps.map parD) (w : Int) = some (.int (q : Int)) := fun w w0 hw => by
      obtain ⟨q, hq, _⟩ := o.pr w w0 hw
      refine ⟨q, hq, ?_⟩
      rw [at_mapD none parD hw, hq]; rfl
    have ixv : atI (ps.map parD) ((i + 1 : Nat) : Int) = some (.int (p : Int)) := by
      rw [at_mapD none parD (by omega), hp]; rfl
    have tl : ∀ {W : WX} {tt : TT} {te : TE} {δ : Dn} {wi : TI}, SrcD K wi δ (iota 1 (ps.length - 1)) → (∀ w : Nat, 0 < w → w < ps.length → ∀ δ' : Dn, δ' = (wipeD δ [7]).set 7 (.val (.int (w : Int))) → EvT K (fun _ _ _ _ => False) tt δ' (.ok (decide (ps.getD w none = some p))) ∧ EvD K (fun _ _ _ _ => False) te δ' (.ok (.int ((wtN d w : Nat) : Int)))) → EvD K W (tLc wi (gName 7) tt te [7]) δ (.ok (.list (((sibF ps (i + 1)).map fun w => ((wtN d w : Nat) : Int)).map PyData.int))) := fun hs ht => by
      rw [← sib_iota ps d (i + 1) (fun x => match x with
        | .int w => decide (ps.getD w.toNat none = some p)
        | _ => false) (fun x => match x with
        | .int w => .int ((wtN d w.toNat : Nat) : Int)
        | x => x) l1 (fun w _ _ => by show decide (ps.getD ((w : Int)).toNat none = _) = _; rw [Int.toNat_natCast, hp]) fun w => by show PyData.int ((wtN d ((w : Int)).toNat : Nat) : Int) = _; rw [Int.toNat_natCast]]
      refine ev_lc (W' := fun _ _ _ _ => False) (js := [7]) _ _ hs (by intro j hj; exact hj) (by rw [iota_len, sizeLine_eq]; omega) fun j x hx => ?_
      have hj : j < ps.length - 1 := by
        have := (List.getElem?_eq_some_iff.mp hx).1
        rwa [iota_len] at this
      have ex : x = .int ((j + 1 : Nat) : Int) := by
        rw [iota_get hj] at hx
        rw [← Option.some.inj hx]
        congr 1; omega
      subst ex
      obtain ⟨h1, h2⟩ := ht (j + 1) (by omega) (by omega) _ rfl
      refine ⟨_, as_name, et_is h1 ?_, fun _ => ev_is h2 ?_⟩
      · show _ = decide (ps.getD ((j + 1 : Nat) : Int).toNat none = _)
        rw [Int.toNat_natCast]
      · show _ = PyData.int ((wtN d ((j + 1 : Nat) : Int).toNat : Nat) : Int)
        rw [Int.toNat_natCast]
    obtain ⟨c1, c2, c3⟩ := cha_ok o (wt_le d) p (by omega) (i + 1) hlt
    have t1 := totW_pos (ps := ps) (wt_le d) (v := i + 1) (by omega) (by omega)
    have t2 := totW_le (ps := ps) (wt_le d) (v := i + 1) l2
    have w2 := wt_le d (i + 1)
    have dm := o.dm p (by omega)
    have s1 : Sz 30 ((chaN ps (wtN d) (i + 1)).getD p (0, 1)).1 := c3.t.mono (by omega)
    have s2 : Sz 30 ((chaN ps (wtN d) (i + 1)).getD p (0, 1)).2 := c3.b.mono (by omega)
    have s3 : Sz 7 ((wtN d (i + 1) : Nat) : Int) := sz_nat (by omega)
    have s4 : Sz 7 ((totW ps (wtN d) (i + 1) : Nat) : Int) := sz_nat (by omega)
    have cl := chaN_len ps (wtN d) (i + 1)
    have en : chaN ps (wtN d) (i + 2) = chaN ps (wtN d) (i + 1) ++ [nrm (((chaN ps (wtN d) (i + 1)).getD p (0, 1)).1 * (wtN d (i + 1) : Int)) (((chaN ps (wtN d) (i + 1)).getD p (0, 1)).2 * (totW ps (wtN d) (i + 1) : Int))] := by
      rw [chaN]
      congr 2
      unfold cha1
      rw [hp]
    rw [show i + 1 + 1 = i + 2 from rfl, en]
    have zb : ((chaN ps (wtN d) (i + 1)).getD p (0, 1)).2 * ((totW ps (wtN d) (i + 1) : Nat) : Int) ≠ 0 := Int.mul_ne_zero c1.ne (by omega)
    have ixc : atI ((chaN ps (wtN d) (i + 1)).map rat) (p : Int) = some (rat ((chaN ps (wtN d) (i + 1)).getD p (0, 1))) := at_mapD (0, 1) rat (by omega)
    generalize chaN ps (wtN d) (i + 1) = L at *
    generalize L.getD p (0, 1) = A at *
    have wv : atI (((List.range ps.length).map (wtN d)).map fun n : Nat => PyData.int (n : Int)) ((i + 1 : Nat) : Int) = some (.int ((wtN d (i + 1) : Nat) : Int)) := by
      rw [at_mapD 0 (fun n : Nat => PyData.int (n : Int)) (by rw [List.length_map, List.length_range]; omega), getD_map (a := 0) (by rw [List.length_range]; omega), DL.getD_at (by rw [List.length_range]; omega), List.getElem_range]
    have rr : R_law_ratio [.int (A.1 * ((wtN d (i + 1) : Nat) : Int)), .int (A.2 * ((totW ps (wtN d) (i + 1) : Nat) : Int))] (.ok (rat (nrm (A.1 * ((wtN d (i + 1) : Nat) : Int)) (A.2 * ((totW ps (wtN d) (i + 1) : Nat) : Int))))) := ⟨_, _, rfl, (s1.mul s3).mono (by decide), (s2.mul s4).mono (by decide), zb, rfl⟩
    refine ⟨_, _, as_name, rn_seq (rn_asgE (d := .int ((totW ps (wtN d) (i + 1) : Nat) : Int)) (ev_is (ev_cb (ea_cons (tl (src_rng2 (W := fun _ _ _ _ => False) (i := 1) (j := (ps.length : Int)) (ea_cons ev_int (ea_cons (ev_cb (ea_cons (ev_var (i := 0) rfl) ea_nil) (len_map_l parD ps)) ea_nil)) ⟨by omega, by omega, by omega, by omega⟩ |> fun h => by
      have e : ((ps.length : Int) - 1).toNat = ps.length - 1 := by omega
      rw [e] at h; exact h) (fun w w0 hw δ' e => ?_)) ea_nil) rc_sum) (congrArg PyData.int (by rw [sum_ints]; rfl))) rfl) (rn_seq (rn_asgE (d := rat A) (ev_ixO' (i := 3) rfl (ev_op (by walk_at "ev") (by walk_at "ev") (rd_ix_L ixv)) ixc) rfl) (rn_app (i := 3) rfl (ev_callWE (ea_cons (ev_op (ev_op (by walk_at "ev") ev_int (rd_ix_T rfl)) (ev_op (by walk_at "ev") (by walk_at "ev") (rd_ix_L wv)) (rd_mulI (by walk_at "side"))) (ea_cons (ev_op (ev_op (by walk_at "ev") ev_int (rd_ix_T rfl)) (by walk_at "ev") (rd_mulI (by walk_at "side"))) ea_nil)) rr rfl) (by rw [List.length_map, sizeLine_eq]; omega))), ?_⟩
    · subst e
      obtain ⟨q, hq, aq⟩ := ixw w w0 hw
      have ww : atI (((List.range ps.length).map (wtN d)).map fun n : Nat => PyData.int (n : Int)) (w : Int) = some (.int ((wtN d w : Nat) : Int)) := by
        rw [at_mapD 0 (fun n : Nat => PyData.int (n : Int)) (by rw [List.length_map, List.length_range]; omega), getD_map (a := 0) (by rw [List.length_range]; omega), DL.getD_at (by rw [List.length_range]; omega), List.getElem_range]
      refine ⟨et_is (et_test (ev_op (ev_op (ev_var rfl) (ev_var rfl) (rd_ix_L aq)) (ev_op (ev_var rfl) (ev_var rfl) (rd_ix_L ixv)) rd_eqI)) ?_, ev_op (ev_var rfl) (ev_var rfl) (rd_ix_L ww)⟩
      rw [hq]
      exact decide_eq_decide.mpr ⟨fun h => by congr 1; omega, fun h => by have := Option.some.inj h; omega⟩
    · unfold chDn
      rw [List.map_append]
      walk_at "less"
  refine en_frz (i := 3) (o := ownL ((chaF ps (wtN d)).map rat)) rfl reads_L ?_
  exact en_rt (rn_ret (ev_var rfl)) rfl
abbrev s__law_minus : Stmt := topS 55
theorem sc__law_minus : FnScope ["a", "b"] ["a", "b"] (defScope s__law_minus) := ⟨rfl, rfl, rfl, by decide +kernel, rfl, by decide +kernel, by decide +kernel⟩
theorem len__law_minus : ∀ ds r, (RQ 2000 fun a b => rat (qsub a b)) ds r → ds.length = (["a", "b"] : List Str).length := by
  rintro _ _ ⟨_, _, rfl, _⟩; rfl
theorem ok__law_minus (T : Tx K mg Z0 Z1) (D : DefAt K mg "_law_minus" s__law_minus []) (c__law_add : CalX P w K mg base CX0 3 "_law_add" [] (RQ 2100 fun a b => rat (qadd a b))) : CalX P w K mg base CX0 4 "_law_minus" [] (RQ 2000 fun a b => rat (qsub a b)) := by
  refine okN D (bind0 (fun _ _ _ _ _ _ us hl => match us, hl with | [_, _], _ => rfl)) sc__law_minus len__law_minus fun f cdv A outer s H Ex hr => ⟨_, (pss_one (ps_ret (pe_cal c__law_add hr (by decide) (fun σ => p0At σ) (pa_cons (pv 0) (pa_cons (pe_tup (pa_cons (pe_un un_neg (pe_ix ix_seq (pv 1) pe_int (fun _ _ => rfl))) (pa_cons (pe_ix ix_seq (pv 1) pe_int (fun _ _ => rfl)) pa_nil))) pa_nil))))), ?_⟩

  rintro ds r ⟨a, b, rfl, ha, hb, rfl⟩
  have q : Qz 2000 ((-b.1, b.2) : Q2) := ⟨hb.t.neg, hb.b, hb.z⟩
  have e : qadd a (-b.1, b.2) = qsub a b := by
    unfold qadd qsub
    congr 1
    show a.1 * b.2 + -b.1 * a.2 = _
    rw [Int.neg_mul]; omega
  have rq : RQ 2100 (fun a b => rat (qadd a b)) [rat a, rat (-b.1, b.2)] (.ok (rat (qsub a b))) := by
    have := rq_mk (n := 2100) (f := fun a b => rat (qadd a b)) (ha.mono (by decide)) (q.mono (by decide))
    rwa [e] at this
  exact en_rt (rn_ret (ev_callWE (by walk_at "ev") rq rfl)) rfl
end
end K74
end
set_option Elab.async false
set_option linter.all false
set_option maxRecDepth 100000
set_option maxHeartbeats 4000000
/-! PE: draws as naturals; the law's workforces, plain. -/
namespace DL
open PySem PySem.Spec PyProof.Rows L2
abbrev natI (n : Nat) : PyData := .int (n : Int)
def drawsN (c : Int) (n : Nat) : List Nat := (drawsF c n).map Int.toNat
theorem drawsN_len (c : Int) (n : Nat) : (drawsN c n).length = n := by
  unfold drawsN drawsF
  rw [List.length_map, (drF_ok _ n).1]
theorem drawsN_int (c : Int) (n : Nat) : (drawsF c n).map PyData.int = (drawsN c n).map fun n : Nat => PyData.int (n : Int) := by
  unfold drawsN
  rw [List.map_map]
  refine List.map_congr_left fun x hx => ?_
  have := (drF_ok _ n).2 x hx
  show PyData.int x = PyData.int ((x.toNat : Nat) : Int)
  rw [Int.toNat_of_nonneg this.1]
theorem drawsN_lt (c : Int) (n : Nat) : ∀ x ∈ drawsN c n, x < 1000 := by
  intro x hx
  unfold drawsN at hx
  obtain ⟨y, hy, rfl⟩ := List.mem_map.mp hx
  have := (drF_ok _ n).2 y hy
  omega
theorem dr_ok {c : Int} {n : Nat} (h : n ≤ 100) : R_law_draws [.int c, .int (n : Int)] (.ok (.list ((drawsN c n).map fun n : Nat => PyData.int (n : Int)))) := ⟨c, n, rfl, h, by rw [drawsN_int]⟩
theorem fdiv_nat (x y : Nat) : (x : Int).fdiv (y : Int) = ((x / y : Nat) : Int) := by
  rw [Int.fdiv_eq_ediv_of_nonneg _ (by omega)]; rfl
section
variable {K : PySem.W.Frag} {W : WX} {δ : Dn} {ta tb : TE} {a b i : Nat} {d : List Nat}
theorem en_ix (ha : EvD K W ta δ (.ok (.list (d.map fun n : Nat => PyData.int (n : Int))))) (hb : EvD K W tb δ (.ok (natI i))) (h : i < d.length) : EvD K W (tOp (rIx K) ta tb) δ (.ok (natI (d.getD i 0))) := ev_op ha hb (rd_ix_L (at_mapD 0 (fun n : Nat => PyData.int (n : Int)) h))
theorem en_add (ha : EvD K W ta δ (.ok (natI a))) (hb : EvD K W tb δ (.ok (natI b))) : EvD K W (tOp (rAddU K) ta tb) δ (.ok (natI (a + b))) := ev_is (ev_op ha hb rd_addI) (congrArg PyData.int (by omega))
theorem en_mul (ha : EvD K W ta δ (.ok (natI a))) (hb : EvD K W tb δ (.ok (natI b))) (h1 : a < 2 ^ 100) (h2 : b < 2 ^ 100) : EvD K W (tOp rMulU ta tb) δ (.ok (natI (a * b))) := ev_is (ev_op ha hb (rd_mulI (cmulW_of (sz_nat h1) (sz_nat h2) (by decide)))) (congrArg PyData.int (by rw [Int.natCast_mul]))
theorem en_mod (ha : EvD K W ta δ (.ok (natI a))) (hb : EvD K W tb δ (.ok (natI b))) (h : 0 < b) : EvD K W (tOp (rI (fun _ j => j ≠ 0) fun i j => .int (i.fmod j)) ta tb) δ (.ok (natI (a % b))) := ev_is (ev_op ha hb (rd_mod (by show (_ : Int) ≠ 0; omega))) (congrArg PyData.int (fmod_nat a b))
theorem en_div (ha : EvD K W ta δ (.ok (natI a))) (hb : EvD K W tb δ (.ok (natI b))) (h : 0 < b) (h2 : b < 2 ^ 100) : EvD K W (tOp (rI CDivX fun i j => .int (i.fdiv j)) ta tb) δ (.ok (natI (a / b))) := ev_is (ev_op ha hb (rd_fdiv (by omega) (Nat.lt_of_le_of_lt (sz_nat h2).log (by decide)))) (congrArg PyData.int (fdiv_nat a b))
theorem er_nat (ha : EvD K W ta δ (.ok (natI a))) (hb : EvD K W tb δ (.ok (natI b))) : EvA K W (tCons ta (tCons tb tNil)) δ (.ok [natI a, natI b]) := ea_cons ha (ea_cons hb ea_nil)
end
theorem rr_nat {a b : Nat} (h : 0 < b) (h1 : a < 2 ^ 100) (h2 : b < 2 ^ 100) : R_law_ratio [natI a, natI b] (.ok (rat (nrm (a : Int) (b : Int)))) := ⟨_, _, rfl, (sz_nat h1).mono (by decide), (sz_nat h2).mono (by decide), by omega, rfl⟩
theorem at_wk {β : Type} (f : Nat → β) (g : β → PyData) {i j : Nat} (h : j < i) : atI (((List.range i).map f).map g) (j : Int) = some (g (f j)) := by
  rw [at_nat, List.getElem?_map, List.getElem?_map, List.getElem?_range h]; rfl
/-! the tree and the chances from three cells -/
def toSh (ns : List Int) (k : Nat) : List Nat := drawsN (cellF ns k) 12
def toLs (ns : List Int) (k : Nat) : Nat := [1, 2, 1, 0, 2, 1, 3, 2].getD ((toSh ns k).getD 0 0 % 8) 0
def toTr (ns : List Int) (k : Nat) : TrS := treeF (toLs ns k) ((toSh ns k).drop 2) (1 + (toSh ns k).getD 1 0 % 3)
def toCh (ns : List Int) (k : Nat) : List Q2 := chaF (toTr ns k).1 (wtN (drawsN (cellF ns (k + 1)) 20))
theorem toLs_le (ns : List Int) (k : Nat) : toLs ns k ≤ 3 := by
  have q : ∀ x : _root_.Fin 8, ([1, 2, 1, 0, 2, 1, 3, 2] : List Nat).getD x 0 ≤ 3 := by decide
  exact q ⟨_, Nat.mod_lt _ (by decide)⟩
theorem toTr_ok (ns : List Int) (k : Nat) : TreeOk (toTr ns k).1 (toTr ns k).2 (toLs ns k) := tree_ok _ (toLs_le ns k) (by omega) (by omega)
theorem chaF_len (ps : List (Option Nat)) (wt : Nat → Nat) : (chaF ps wt).length = ps.length := chaN_len ps wt _
/-! from a tree to the nodes -/
theorem dep_tree {ps : List (Option Nat)} {dl : List Nat} {last : Nat} (o : TreeOk ps dl last) {nds : List Nd} (hn : nds.length = ps.length) (hp : ∀ k, k < ps.length → (nds.getD k default).par = ps.getD k none) : ∀ k, k ≤ ps.length → depN nds k = dl.take k
  | 0, _ => by rw [List.take_zero]; rfl
  | k + 1, hk => by
    have i := dep_tree o hn hp k (by omega)
    have d := o.dl
    rw [depN, List.take_add_one, i, hp k (by omega), List.getElem?_eq_getElem (by omega), ← DL.getD_at (d := 0) (by omega)]
    congr 1
    by_cases z : k = 0
    · subst z
      rw [o.p0, o.d0]; rfl
    · obtain ⟨p, h1, h2, h3⟩ := o.pr k (by omega) (by omega)
      rw [h1, h3]
      show [(dl.take k).getD p 0 + 1] = [dl.getD p 0 + 1]
      rw [List.getD_eq_getElem?_getD, List.getElem?_take_of_lt h2, ← List.getD_eq_getElem?_getD]
theorem depF_tree {ps : List (Option Nat)} {dl : List Nat} {last : Nat} (o : TreeOk ps dl last) {nds : List Nd} (hn : nds.length = ps.length) (hp : ∀ k, k < ps.length → (nds.getD k default).par = ps.getD k none) : depF nds = dl := by
  unfold depF
  rw [hn, dep_tree o hn hp _ (Nat.le_refl _), List.take_of_length_le (by rw [o.dl]; exact Nat.le_refl _)]
theorem chi_tree {ps : List (Option Nat)} {nds : List Nd} (hn : nds.length = ps.length) (hp : ∀ k, k < ps.length → (nds.getD k default).par = ps.getD k none) (v : Nat) : chiF nds v = (List.range ps.length).filter fun w => decide (ps.getD w none = some v) := by
  unfold chiF chiN
  rw [hn]
  exact List.filter_congr fun w hw => by rw [hp w (List.mem_range.mp hw)]
theorem wk_ok {ps : List (Option Nat)} {dl : List Nat} {last : Nat} (o : TreeOk ps dl last) {wt : Nat → Nat} (hwt : ∀ v, 1 ≤ wt v ∧ wt v ≤ 4) {pay : Q2} {ws : List Wk} (hl : ws.length = ps.length)
    (hp : ∀ k, k < ps.length → (ws.getD k default).par = ps.getD k none) (hc : ∀ k, k < ps.length → (ws.getD k default).ch = (chaF ps wt).getD k (0, 1)) (hn : ∀ k, k < ps.length → Non0 6 (ws.getD k default).need) (hr : ∀ k, k < ps.length → Pos1 6 (ws.getD k default).rate) (hy : Pos1 600 pay) : WkOk pay ws last := by
  have np : ∀ k, k < ps.length → ((wPar ws).getD k default).par = ps.getD k none := fun k hk => by rw [wPar_get ws (by omega)]; exact hp k hk
  have wl : (wPar ws).length = ps.length := by rw [wPar_len, hl]
  have dep := depF_tree o wl np
  have chi := chi_tree wl np
  have l1 := o.l1
  have leaf : ∀ k, leafB (wPar ws) k = true ↔ ∀ w, w < ps.length → ps.getD w none ≠ some k := fun k => by
    unfold leafB
    rw [chi, List.isEmpty_iff, List.filter_eq_nil_iff]
    exact ⟨fun h w hw e => h w (List.mem_range.mpr hw) (decide_eq_true e), fun h w hw e => h w (List.mem_range.mp hw) (of_decide_eq_true e)⟩
  have ch := fun k (hk : k < ps.length) => cha_ok o hwt k hk ps.length hk
  refine ⟨by omega, by have := o.l2; omega, o.l3, by rw [hp 0 (by omega)]; exact o.p0, ?_, fun k k0 hk => ?_, fun k hk => ?_, ?_, fun k hk hb => ?_, fun k hk hb => ?_, hy, fun k hk => ?_, fun k hk => hn k (by omega), fun k hk => hr k (by omega)⟩
  · rw [hc 0 (by omega)]
    show (chaN ps wt ps.length).getD 0 (0, 1) = _
    rw [chaN_at ps wt (by omega)]
    unfold cha1
    rw [o.p0]
  · obtain ⟨p, h1, h2, _⟩ := o.pr k k0 (by omega)
    exact ⟨p, by rw [hp k (by omega)]; exact h1, h2⟩
  · rw [dep]; exact o.dm k (by omega)
  · obtain ⟨k, hk, e⟩ := o.dx
    exact ⟨k, by omega, by rw [dep]; exact e⟩
  · rw [dep]; exact o.lf k (by omega) ((leaf k).mp hb)
  · have hne : chiF (wPar ws) k ≠ [] := fun e => by
      unfold leafB at hb
      rw [e] at hb; cases hb
    have q := cha_sum o hwt (k := k) (by omega) (chiF (wPar ws) k) (chi k) hne
    rw [hc k (by omega), ← q]
    congr 1
    refine List.map_congr_left fun w hw => ?_
    have := chiF_lt hw
    exact hc w (by omega)
  · rw [hc k (by omega)]
    obtain ⟨q1, q2, q3⟩ := ch k (by omega)
    have := o.dm k (by omega)
    have := o.l3
    exact ⟨q1, q2, q3.mono (by omega)⟩
/-! the law's own workforce -/
def neeN (d : List Nat) : Nat → List Q2
  | 0 => []
  | v + 1 => neeN d v ++ [if 0 < v ∧ d.getD (7 + 2 * v) 0 % 4 = 1 then (neeN d v).getD (d.getD (7 + 2 * v) 0 / 4 % v) (0, 1) else nrm ((d.getD (6 + 2 * v) 0 % 11 : Nat) : Int) ((1 + d.getD (6 + 2 * v) 0 / 11 % 3 : Nat) : Int)]
def needF (d : List Nat) (v : Nat) : Q2 := (neeN d (v + 1)).getD v (0, 1)
def rateF (d : List Nat) (v : Nat) : Q2 := nrm ((1 + d.getD (7 + 2 * v) 0 % 23 : Nat) : Int) ((1 + d.getD (7 + 2 * v) 0 / 23 % 3 : Nat) : Int)
def wkF (ps : List (Option Nat)) (cs : List Q2) (d : List Nat) (v : Nat) : Wk := ⟨ps.getD v none, cs.getD v (0, 1), needF d v, rateF d v⟩
def wksF (ps : List (Option Nat)) (cs : List Q2) (d : List Nat) : List Wk := (List.range ps.length).map (wkF ps cs d)
theorem neeN_len (d : List Nat) : ∀ k, (neeN d k).length = k
  | 0 => rfl
  | k + 1 => by rw [neeN, List.length_append, neeN_len d k]; rfl
theorem neeN_at (d : List Nat) : ∀ {m k : Nat}, k < m → (neeN d m).getD k (0, 1) = needF d k
  | 0, k, h => by omega
  | m + 1, k, h => by
    by_cases e : k = m
    · subst e; rfl
    · rw [neeN, getD_app_l _ _ _ (by rw [neeN_len]; omega)]
      exact neeN_at d (by omega)
theorem need_step (d : List Nat) (v : Nat) : needF d v = if 0 < v ∧ d.getD (7 + 2 * v) 0 % 4 = 1 then needF d (d.getD (7 + 2 * v) 0 / 4 % v) else nrm ((d.getD (6 + 2 * v) 0 % 11 : Nat) : Int) ((1 + d.getD (6 + 2 * v) 0 / 11 % 3 : Nat) : Int) := by
  show (neeN d (v + 1)).getD v (0, 1) = _
  rw [neeN, getD_app_e _ _ _ (neeN_len d v)]
  by_cases e : 0 < v ∧ d.getD (7 + 2 * v) 0 % 4 = 1
  · rw [if_pos e, if_pos e, neeN_at d (Nat.mod_lt _ e.1)]
  · rw [if_neg e, if_neg e]
theorem nrm_non0 {t b m : Nat} (hb : 0 < b) (ht : t < 2 ^ m) (hb2 : b < 2 ^ m) : Non0 m (nrm (t : Int) (b : Int)) := by
  have z : (b : Int) ≠ 0 := by omega
  refine ⟨(nrm_spec z).1, ?_, nrm_qz (sz_nat ht) (sz_nat hb2) z⟩
  rcases Nat.eq_zero_or_pos t with e | e
  · subst e
    rw [show ((0 : Nat) : Int) = 0 from rfl, nrm_zero z]; decide
  · have := nrm_pos (t := (t : Int)) (b := (b : Int)) (by omega) (by omega)
    omega
theorem nrm_pos1 {t b m : Nat} (h0 : 0 < t) (hb : 0 < b) (ht : t < 2 ^ m) (hb2 : b < 2 ^ m) : Pos1 m (nrm (t : Int) (b : Int)) := by
  have z : (b : Int) ≠ 0 := by omega
  exact ⟨(nrm_spec z).1, nrm_pos (by omega) (by omega), nrm_qz (sz_nat ht) (sz_nat hb2) z⟩
theorem need_ok (d : List Nat) : ∀ v, Non0 6 (needF d v) := by
  intro v
  induction v using Nat.strongRecOn with
  | _ v ih =>
    rw [need_step]
    by_cases e : 0 < v ∧ d.getD (7 + 2 * v) 0 % 4 = 1
    · rw [if_pos e]; exact ih _ (Nat.mod_lt _ e.1)
    · rw [if_neg e]; exact nrm_non0 (by omega) (by omega) (by omega)
theorem rate_ok (d : List Nat) (v : Nat) : Pos1 6 (rateF d v) := nrm_pos1 (by omega) (by omega) (by omega) (by omega)
/-- the pay -/
def belB (a b : Q2) : Bool := decide (a.1 * b.2 < b.1 * a.2)
def payN (ws : List Wk) (l : Q2) : Nat → Q2
  | 0 => (0, 1)
  | k + 1 => cond (belB l (ws.getD k default).need) (qadd (payN ws l k) (qmul (ws.getD k default).ch (ws.getD k default).rate)) (payN ws l k)
def payF (ws : List Wk) (d : List Nat) : Q2 :=
  let p := payN ws (ws.getD (d.getD 0 0 % ws.length) default).need ws.length
  if p.1 = 0 ∨ d.getD 1 0 % 2 = 1 then nrm ((1 + d.getD 2 0 % 40 : Nat) : Int) ((1 + d.getD 3 0 % 5 : Nat) : Int) else p
theorem qadd_pos {a b : Q2} (ha : Nf a) (hb : Nf b) (h1 : 0 ≤ a.1) (h2 : 0 < b.1) : 0 < (qadd a b).1 := by
  have p : 0 < b.1 * a.2 := Int.mul_pos h2 ha.pos
  have q : 0 ≤ a.1 * b.2 := Int.mul_nonneg h1 (by have := hb.pos; omega)
  exact nrm_pos (by omega) (Int.mul_pos ha.pos hb.pos)
theorem qmul_pos {a b : Q2} (ha : Nf a) (hb : Nf b) (h1 : 0 < a.1) (h2 : 0 < b.1) : 0 < (qmul a b).1 := nrm_pos (Int.mul_pos h1 h2) (Int.mul_pos ha.pos hb.pos)
theorem payN_ok {ws : List Wk} {l : Q2} (hc : ∀ k, k < ws.length → Pos1 24 (ws.getD k default).ch) (hr : ∀ k, k < ws.length → Pos1 6 (ws.getD k default).rate) : ∀ k, k ≤ ws.length → Nf (payN ws l k) ∧ 0 ≤ (payN ws l k).1 ∧ Qz (1 + 31 * k) (payN ws l k)
  | 0, _ => ⟨(⟨by decide, by decide⟩ : Nf ((0, 1) : Q2)), (by decide : (0 : Int) ≤ 0), z_qz⟩
  | k + 1, hk => by
    obtain ⟨a, b, c⟩ := payN_ok (l := l) hc hr k (by omega)
    have q1 := hc k (by omega)
    have q2 := hr k (by omega)
    rw [payN]
    cases belB l (ws.getD k default).need with
    | true =>
      have m1 := qmul_nf q1.nf.ne q2.nf.ne
      have m2 := qmul_pos q1.nf q2.nf q1.pos q2.pos
      exact ⟨qadd_nf' a m1, by have := qadd_pos a m1 b m2; show 0 ≤ (qadd _ _).1; omega, (qadd_qz c (qmul_qz q1.qz q2.qz)).mono (by omega)⟩
    | false => exact ⟨a, b, c.mono (by omega)⟩
theorem payF_ok {ws : List Wk} (d : List Nat) (hl : ws.length ≤ 16) (hc : ∀ k, k < ws.length → Pos1 24 (ws.getD k default).ch) (hr : ∀ k, k < ws.length → Pos1 6 (ws.getD k default).rate) : Pos1 600 (payF ws d) := by
  obtain ⟨a, b, c⟩ := payN_ok (l := (ws.getD (d.getD 0 0 % ws.length) default).need) hc hr ws.length (Nat.le_refl _)
  unfold payF
  dsimp only
  generalize payN ws (ws.getD (d.getD 0 0 % ws.length) default).need ws.length = p at *
  by_cases e : p.1 = 0 ∨ d.getD 1 0 % 2 = 1
  · rw [if_pos e]
    have := nrm_pos1 (t := 1 + d.getD 2 0 % 40) (b := 1 + d.getD 3 0 % 5) (m := 6) (by omega) (by omega) (by omega) (by omega)
    exact ⟨this.nf, this.pos, this.qz.mono (by decide)⟩
  · rw [if_neg e]
    exact ⟨a, by have : p.1 ≠ 0 := fun h => e (.inl h); omega, c.mono (by omega)⟩
theorem wksF_len (ps : List (Option Nat)) (cs : List Q2) (d : List Nat) : (wksF ps cs d).length = ps.length := by unfold wksF; rw [List.length_map, List.length_range]
theorem wksF_get (ps : List (Option Nat)) (cs : List Q2) (d : List Nat) {k : Nat} (h : k < ps.length) : (wksF ps cs d).getD k default = wkF ps cs d k := by
  unfold wksF
  rw [getD_map (a := 0) (by rwa [List.length_range]), DL.getD_at (by rwa [List.length_range]), List.getElem_range]
theorem wks_ok {ps : List (Option Nat)} {dl : List Nat} {last : Nat} (o : TreeOk ps dl last) (e d : List Nat) : WkOk (payF (wksF ps (chaF ps (wtN e)) d) d) (wksF ps (chaF ps (wtN e)) d) last := by
  have g := fun {k : Nat} (h : k < ps.length) => wksF_get ps (chaF ps (wtN e)) d h
  have wl := wksF_len ps (chaF ps (wtN e)) d
  have chk : ∀ k, k < ps.length → Pos1 24 ((wksF ps (chaF ps (wtN e)) d).getD k default).ch := fun k hk => by
    obtain ⟨q1, q2, q3⟩ := cha_ok o (wt_le e) k hk ps.length hk
    have := o.dm k hk
    have := o.l3
    rw [g hk]
    exact ⟨q1, q2, q3.mono (by omega)⟩
  have rtk : ∀ k, k < ps.length → Pos1 6 ((wksF ps (chaF ps (wtN e)) d).getD k default).rate := fun k hk => by rw [g hk]; exact rate_ok d k
  exact wk_ok o (wt_le e) wl (fun k hk => by rw [g hk]; rfl) (fun k hk => by rw [g hk]; rfl) (fun k hk => by rw [g hk]; exact need_ok d k) rtk (payF_ok d (by rw [wl]; exact o.l2) (fun k hk => chk k (by omega)) fun k hk => rtk k (by omega))
/-! the workforce of 16 nodes -/
def fwt (d : List Nat) : Nat → Nat
  | 0 => 1
  | k + 1 => 1 + d.getD k 0 % 3
def fps : List (Option Nat) := none :: List.replicate 15 (some 0)
def fdl : List Nat := 0 :: List.replicate 15 1
theorem fan_tree : TreeOk fps fdl 1 := treeB_ok (s := (fps, fdl)) (by decide +kernel)
theorem fwt_le (d : List Nat) (v : Nat) : 1 ≤ fwt d v ∧ fwt d v ≤ 4 := by
  cases v with
  | zero => exact ⟨Nat.le_refl 1, (by decide : 1 ≤ 4)⟩
  | succ v => show 1 ≤ 1 + d.getD v 0 % 3 ∧ 1 + d.getD v 0 % 3 ≤ 4; omega
def fsum (d : List Nat) : Nat := ((List.range 15).map fun k => 1 + d.getD k 0 % 3).sum
def fan1 (d : List Nat) (k : Nat) : Wk := ⟨some 0, nrm ((1 + d.getD k 0 % 3 : Nat) : Int) (fsum d : Int), nrm ((d.getD (17 + k) 0 % 9 : Nat) : Int) ((1 + d.getD (17 + k) 0 / 9 % 2 : Nat) : Int), nrm ((1 + d.getD (32 + k) 0 % 9 : Nat) : Int) ((1 + d.getD (32 + k) 0 / 9 % 2 : Nat) : Int)⟩
def fan0 (d : List Nat) : Wk := ⟨none, (1, 1), (((d.getD 15 0 % 4 : Nat) : Int), 1), nrm ((1 + d.getD 16 0 % 9 : Nat) : Int) 2⟩
def fanF (d : List Nat) : List Wk := fan0 d :: (List.range 15).map (fan1 d)
def fpay (d : List Nat) : Q2 := nrm ((1 + d.getD 47 0 % 20 : Nat) : Int) ((1 + d.getD 48 0 % 4 : Nat) : Int)
theorem fan_get (d : List Nat) {k : Nat} (h : k < 15) : (fanF d).getD (k + 1) default = fan1 d k := by
  show ((List.range 15).map (fan1 d)).getD k default = _
  rw [getD_map (a := 0) (by rwa [List.length_range]), DL.getD_at (by rwa [List.length_range]), List.getElem_range]
theorem fan_tot (d : List Nat) (k : Nat) (h : k < 15) : totW fps (fwt d) (k + 1) = fsum d := by
  have q : ∀ k : _root_.Fin 15, sibF fps (k.1 + 1) = (List.range 15).map (· + 1) := by decide +kernel
  unfold totW
  rw [q ⟨k, h⟩, List.map_map]; rfl
theorem fan_par (k : Nat) (h : k < 15) : fps.getD (k + 1) none = some 0 := by
  have q : ∀ k : _root_.Fin 15, fps.getD (k.1 + 1) none = some 0 := by decide +kernel
  exact q ⟨k, h⟩
theorem fan_ok (d : List Nat) : WkOk (fpay d) (fanF d) 1 := by
  have len : fps.length = 16 := by decide
  refine wk_ok fan_tree (fwt_le d) (ws := fanF d) (by unfold fanF; rw [List.length_cons, List.length_map, List.length_range]; rfl) (fun k hk => ?_) (fun k hk => ?_) (fun k hk => ?_) (fun k hk => ?_) ?_
  · rw [len] at hk
    cases k with
    | zero => rfl
    | succ k => rw [fan_get d (by omega), fan_par k (by omega)]; rfl
  · rw [len] at hk
    cases k with
    | zero => rfl
    | succ k =>
      rw [fan_get d (by omega)]
      show _ = (chaN fps (fwt d) fps.length).getD (k + 1) (0, 1)
      rw [chaN_at fps (fwt d) (by omega)]
      unfold cha1
      rw [fan_par k (by omega)]
      dsimp only
      rw [chaN_at fps (fwt d) (by omega), fan_tot d k (by omega)]
      show nrm _ _ = nrm (1 * _) (1 * _)
      rw [Int.one_mul, Int.one_mul]; rfl
  · rw [len] at hk
    cases k with
    | zero => exact ⟨⟨by show (0 : Int) < 1; decide, by show Nat.gcd _ 1 = 1; rw [Nat.gcd_one_right]⟩, by show (0 : Int) ≤ ((d.getD 15 0 % 4 : Nat) : Int); omega, sz_nat (by omega), by show (1 : Int).natAbs < 2 ^ 6; decide, by show (1 : Int) ≠ 0; decide⟩
    | succ k => rw [fan_get d (by omega)]; exact nrm_non0 (by omega) (by omega) (by omega)
  · rw [len] at hk
    cases k with
    | zero => exact nrm_pos1 (b := 2) (by omega) (by omega) (by omega) (by omega)
    | succ k => rw [fan_get d (by omega)]; exact nrm_pos1 (by omega) (by omega) (by omega) (by omega)
  · have := nrm_pos1 (t := 1 + d.getD 47 0 % 20) (b := 1 + d.getD 48 0 % 4) (m := 6) (by omega) (by omega) (by omega) (by omega)
    exact ⟨this.nf, this.pos, this.qz.mono (by decide)⟩
end DL
section
/-! ### the reading tactics -/
local macro_rules | `(tactic| walk_at "sz") => `(tactic| first
  | assumption
  | (apply DL.Sz.neg
     · walk_at "sz")
  | (apply DL.Sz.mul
     · walk_at "sz"
     · walk_at "sz")
  | (apply DL.Sz.add
     · walk_at "sz"
     · walk_at "sz")
  | (apply DL.Sz.sub
     · walk_at "sz"
     · walk_at "sz")
  | (apply DL.Sz.fmod
     · decide
     · walk_at "sz")
  | exact DL.Sz.self)
local macro_rules | `(tactic| walk_at "side") => `(tactic| first
  | assumption
  | (apply DL.cmulW_of
     · walk_at "sz"
     · walk_at "sz"
     · first | decide +kernel | omega)
  | rfl
  | decide
  | omega
  | (simp only [List.length_cons, List.length_nil]; decide)
  | (simp; done)
  | (simp only [PySem.sizeLine_eq, List.length_cons, List.length_nil]; omega))
local macro_rules | `(tactic| walk_at "rd") => `(tactic| first
  | exact DL.rd_addI
  | exact DL.rd_sub
  | exact DL.rd_mulL (by decide) (by decide)
  | exact DL.rd_mulR (by decide) (by decide)
  | (refine DL.rd_mulI ?_
     · walk_at "side")
  | exact DL.rd_pow ⟨by decide, by decide, by decide⟩
  | exact DL.rd_mod (by show (_ : Int) ≠ _; first | decide | assumption)
  | exact DL.rd_ix_T rfl
  | exact DL.rd_ix_L rfl
  | exact DL.rd_eqI
  | exact DL.rd_inC
  | exact DL.rd_niC
  | exact DL.rd_ix_S (by assumption) (by assumption)
  | exact DL.rd_neI
  | exact DL.rd_eqT
  | exact DL.rd_neT
  | exact DL.rd_eqB
  | exact DL.rd_I0b
  | (refine DL.rd_addS ?_
     · walk_at "side")
  | (refine DL.rd_addT ?_
     · walk_at "side")
  | (refine DL.rd_fdiv ?_ ?_
     · walk_at "side"
     · walk_at "side")
  | (refine DL.rd_mod ?_
     · walk_at "side")
  | assumption)
local macro_rules | `(tactic| walk_at "rc") => `(tactic| first
  | exact DL.rc_gcd
  | exact DL.rc_abs
  | exact DL.rc_max2
  | exact DL.rc_intV
  | exact DL.rc_intB
  | exact DL.rc_len_t
  | exact DL.rc_list_l
  | exact DL.rc_list_t
  | exact DL.rc_tup_l
  | exact DL.rc_len_l
  | (apply DL.rc_len_s
     · walk_at "side")
  | (apply DL.rc_str
     · walk_at "side")
  | assumption)
local macro_rules | `(tactic| walk_at "call") => `(tactic| first
  | exact ⟨_, rfl, by assumption, rfl⟩
  | exact ⟨_, rfl, rfl⟩
  | exact ⟨_, _, rfl, rfl⟩
  | assumption
  | fail "call: no contract")
local macro_rules | `(tactic| walk_at "ep") => `(tactic| first
  | with_reducible exact DL.ep_no
  | (with_reducible apply DL.ep_some
     · walk_at "ev"))
local macro_rules | `(tactic| walk_at "ev") => `(tactic| first
  | assumption
  | (with_reducible apply DL.ev_var
     · rfl)
  | with_reducible exact DL.ev_int
  | with_reducible exact DL.ev_str
  | with_reducible exact DL.ev_bl
  | with_reducible exact DL.ev_non
  | with_reducible exact DL.ea_nil
  | exact DL.ev_glob (by assumption)
  | (with_reducible apply DL.ev_op
     · walk_at "ev"
     · walk_at "ev"
     · walk_at "rd")
  | (with_reducible apply DL.ea_cons
     · walk_at "ev"
     · walk_at "ev")
  | (with_reducible apply DL.ev_sl
     · walk_at "ev"
     · walk_at "ep"
     · walk_at "ep"
     · first | exact DL.rs_s (by assumption) | exact DL.rs_l | exact DL.rs_t)
  | (with_reducible apply DL.ev_un
     · walk_at "ev"
     · with_reducible exact DL.ru_neg)
  | (with_reducible apply DL.ev_isiE
     · walk_at "ev"
     · first | rfl | assumption
     · first | rfl | assumption
     · rfl)
  | (with_reducible apply DL.ev_tupH
     · walk_at "ev"
     · walk_at "side")
  | (with_reducible apply DL.ev_lstH
     · walk_at "ev"
     · walk_at "side")
  | (with_reducible apply DL.ev_cb
     · walk_at "ev"
     · walk_at "rc")
  | (with_reducible apply DL.et_test
     · walk_at "ev")
  | (with_reducible apply DL.et_B
     · walk_at "ev")
  | (with_reducible apply DL.et_not
     · walk_at "ev")
  | (with_reducible apply DL.et_and
     · walk_at "ev"
     · (intro _; walk_at "ev"))
  | (with_reducible apply DL.et_or
     · walk_at "ev"
     · (intro _; walk_at "ev"))
  | (with_reducible apply DL.ev_xf
     · rfl
     · rfl)
  | (with_reducible apply DL.ev_chain
     · walk_at "ev"
     · walk_at "ev"
     · walk_at "rd"
     · (intro _; walk_at "ev")
     · (intro _; walk_at "rd"))
  | (with_reducible apply DL.ev_fld
     · walk_at "ev"
     · assumption
     · assumption
     · rfl)
  | (with_reducible apply DL.ev_isN
     · walk_at "ev")
  | (with_reducible apply DL.ev_notN
     · walk_at "ev")
  | (with_reducible apply DL.ev_andV
     · walk_at "ev"
     · (intro _; walk_at "ev"))
  | (with_reducible apply DL.ev_orV
     · walk_at "ev"
     · (intro _; walk_at "ev"))
  | (with_reducible apply DL.ev_notV
     · walk_at "ev")
  | (with_reducible apply DL.ev_callE
     · walk_at "ev"
     · walk_at "call"
     · rfl)
  | (with_reducible apply DL.ev_callSE
     · walk_at "ev"
     · walk_at "call"
     · rfl))
local macro_rules | `(tactic| walk_at "less") => `(tactic| (
  (try simp only [List.set_cons_zero, List.set_cons_succ])
  repeat (first | exact DL.less_nil | apply DL.less_same | apply DL.less_no)))
local macro_rules | `(tactic| walk_at "nat") => `(tactic| first
  | assumption
  | (with_reducible apply DL.ev_var
     · rfl)
  | exact DL.ev_int
  | (apply DL.en_ix
     · walk_at "nat"
     · walk_at "nat"
     · omega)
  | (apply DL.en_add
     · walk_at "nat"
     · walk_at "nat")
  | (apply DL.en_mod
     · walk_at "nat"
     · walk_at "nat"
     · omega)
  | (apply DL.en_div
     · walk_at "nat"
     · walk_at "nat"
     · omega
     · omega)
  | (apply DL.en_mul
     · walk_at "nat"
     · walk_at "nat"
     · first | decide | omega
     · first | decide | omega))

set_option Elab.async false
set_option linter.all false
set_option maxRecDepth 100000
set_option maxHeartbeats 4000000
set_option exponentiation.threshold 10000
/-! K74K: the law's workforces -/
namespace K74
open PySem PySem.Spec PyProof.Rows L2 DL
section
variable {P : Program} {w : World} {K : PySem.W.Frag} {mg : Str → Option Value} {base : Heap} {Z0 Z1 CB CM CK TKC CX1 : Addr}

abbrev s__law_tree_of : Stmt := topS 56
theorem sc__law_tree_of : FnScope ["script", "at", "shape", "last", "tree"] ["script", "at"] (defScope s__law_tree_of) := ⟨rfl, rfl, rfl, by decide +kernel, rfl, by decide +kernel, by decide +kernel⟩
def toD (ns : List Int) (k : Nat) : PyData := .list [.list ((toTr ns k).1.map parD), .list ((toCh ns k).map rat)]
def R_law_tree_of (ds : List PyData) (r : Res PyData) : Prop := ∃ (ns : List Int) (k : Nat), ds = [.list (ns.map .int), .int (k : Int)] ∧ r = .ok (toD ns k)
theorem len__law_tree_of : ∀ ds r, R_law_tree_of ds r → ds.length = (["script", "at"] : List Str).length := by
  rintro _ _ ⟨_, _, rfl, _⟩; rfl
theorem ok__law_tree_of (T : Tx K mg Z0 Z1) (D : DefAt K mg "_law_tree_of" s__law_tree_of []) (c__law_draws : CalX P w K mg base CX0 1 "_law_draws" [] R_law_draws) (c__law_tree : CalX P w K mg base CX0 1 "_law_tree" [] R_law_tree) (c__law_cell : CalX P w K mg base CX0 1 "_law_cell" [] R_law_cell) (c__law_chances : CalX P w K mg base CX0 3 "_law_chances" [] R_law_chances) : CalX P w K mg base CX0 4 "_law_tree_of" [] R_law_tree_of := by
  refine okN D (bind0 (fun _ _ _ _ _ _ us hl => match us, hl with | [_, _], _ => rfl)) sc__law_tree_of len__law_tree_of fun f cdv A outer s H Ex hr => ⟨_, (pss_cons (ps_set (i := 2) sc__law_tree_of.nd rfl (by first | exact Or.inl rfl | exact Or.inr rfl) (pe_cal c__law_draws hr (by decide) (fun σ => p0At σ) (pa_cons (pe_cal c__law_cell hr (by decide) (fun σ => p0At σ) (pa_cons (pv 0) (pa_cons (pv 1) pa_nil))) (pa_cons pe_int pa_nil))))
    (pss_cons (ps_set (i := 3) sc__law_tree_of.nd rfl (by first | exact Or.inl rfl | exact Or.inr rfl) (pe_ix ix_seq (pe_lst (pa_cons pe_int (pa_cons pe_int (pa_cons pe_int (pa_cons pe_int (pa_cons pe_int (pa_cons pe_int (pa_cons pe_int (pa_cons pe_int pa_nil))))))))) (pe_op op_modN (pe_ix ix_seq (pv 2) pe_int (fun _ _ => rfl)) pe_int) (fun _ _ => rfl)))
    (pss_cons (ps_set (i := 4) sc__law_tree_of.nd rfl (by first | exact Or.inl rfl | exact Or.inr rfl) (pe_cal c__law_tree hr (by decide) (fun σ => p0At σ) (pa_cons (pe_slice sl_U (pv 2) (po_some pe_int) po_none) (pa_cons (pv 3) (pa_cons (pe_op op_addU pe_int (pe_op op_modN (pe_ix ix_seq (pv 2) pe_int (fun _ _ => rfl)) pe_int)) pa_nil)))))
    (pss_one (ps_ret (pe_lst (pa_cons (pe_ix ix_seq (pv 4) pe_int (fun _ _ => rfl)) (pa_cons (pe_cal c__law_chances hr (by decide) (fun σ => p0At σ) (pa_cons (pe_ix ix_seq (pv 4) pe_int (fun _ _ => rfl)) (pa_cons (pe_cal c__law_draws hr (by decide) (fun σ => p0At σ) (pa_cons (pe_cal c__law_cell hr (by decide) (fun σ => p0At σ) (pa_cons (pv 0) (pa_cons (pe_op op_addU (pv 1) pe_int) pa_nil))) (pa_cons pe_int pa_nil))) pa_nil))) pa_nil)))))))), ?_⟩

  rintro ds r ⟨ns, k, rfl, rfl⟩
  have cl : ∀ k : Nat, R_law_cell [.list (ns.map .int), .int (k : Int)] (.ok (.int (cellF ns k))) := fun k => ⟨ns, k, rfl, rfl⟩
  have sl : (toSh ns k).length = 12 := drawsN_len _ _
  have o := toTr_ok ns k
  have p2 := o.l2
  refine en_seq (rn_asgE (d := .list ((toSh ns k).map fun n : Nat => PyData.int (n : Int))) (ev_callWE (ea_cons (ev_callWE (by walk_at "ev") (cl k) rfl) (ea_cons ev_int ea_nil)) (dr_ok (n := 12) (by decide)) rfl) rfl) ?_
  have m8 : (toSh ns k).getD 0 0 % 8 < ([1, 2, 1, 0, 2, 1, 3, 2] : List Nat).length := Nat.mod_lt _ (by decide)
  refine en_seq (rn_asgE (d := natI (toLs ns k)) (ev_op (x := .list (([1, 2, 1, 0, 2, 1, 3, 2] : List Nat).map fun n : Nat => PyData.int (n : Int))) (y := natI ((toSh ns k).getD 0 0 % 8)) (ev_lstH (ea_cons ev_int (ea_cons ev_int (ea_cons ev_int (ea_cons ev_int (ea_cons ev_int (ea_cons ev_int (ea_cons ev_int (ea_cons ev_int ea_nil)))))))) (by show 8 ≤ sizeLine; decide)) (by walk_at "nat") (rd_ix_L (at_mapD 0 (fun n : Nat => PyData.int (n : Int)) m8))) rfl) ?_
  have tq : R_law_tree [.list (((toSh ns k).drop 2).map fun n : Nat => PyData.int (n : Int)), natI (toLs ns k), natI (1 + (toSh ns k).getD 1 0 % 3)] (.ok (.list [.list ((toTr ns k).1.map parD), .list ((toTr ns k).2.map fun n : Nat => PyData.int (n : Int))])) := ⟨_, _, _, rfl, by rw [List.length_drop, sl]; omega, by omega, rfl⟩
  have cut : DL.cutD ((toSh ns k).map fun n : Nat => PyData.int (n : Int)) (some 2) none = ((toSh ns k).drop 2).map fun n : Nat => PyData.int (n : Int) := by
    have := cut_from ((toSh ns k).map fun n : Nat => PyData.int (n : Int)) 2
    rw [List.map_drop]; exact this
  have dl : (drawsN (cellF ns (k + 1)) 20).length = 20 := drawsN_len _ _
  have cq : R_law_chances [.list ((toTr ns k).1.map parD), .list ((drawsN (cellF ns (k + 1)) 20).map fun n : Nat => PyData.int (n : Int))] (.ok (.list ((toCh ns k).map rat))) := ⟨_, _, _, _, rfl, o, by omega, rfl⟩
  unfold toD
  generalize toCh ns k = C at *
  generalize toLs ns k = L at *
  generalize toTr ns k = TR at *
  generalize toSh ns k = S at *
  refine en_seq (rn_asgE (d := .list [.list (TR.1.map parD), .list (TR.2.map fun n : Nat => PyData.int (n : Int))]) (ev_callWE (ea_cons (ev_is (ev_sl (ev_var rfl) (ep_some ev_int) ep_no rs_l) (congrArg PyData.list cut)) (ea_cons (by walk_at "nat") (ea_cons (by walk_at "nat") ea_nil))) tq rfl) rfl) ?_
  refine en_rt (rn_ret (ev_lstH (ea_cons (ev_op (by walk_at "ev") ev_int (rd_ix_L rfl)) (ea_cons (ev_callWE (ea_cons (ev_op (by walk_at "ev") ev_int (rd_ix_L rfl)) (ea_cons (ev_callWE (ea_cons (ev_callWE (ea_cons (ev_var rfl) (ea_cons (by first | exact ev_is (ev_op (ev_var rfl) ev_int rd_addI) rfl) ea_nil)) (cl (k + 1)) rfl) (ea_cons ev_int ea_nil)) (dr_ok (n := 20) (by decide)) rfl) ea_nil)) cq rfl) ea_nil)) (by show 2 ≤ sizeLine; decide))) rfl
abbrev s__law_work : Stmt := topS 57
theorem sc__law_work : FnScope ["script", "at", "tree", "draws", "nodes", "v", "limit", "pay", "parent", "chance", "need", "rate"] ["script", "at"] (defScope s__law_work) := ⟨rfl, rfl, rfl, by decide +kernel, rfl, by decide +kernel, by decide +kernel⟩
def wDr (ns : List Int) (k : Nat) : List Nat := drawsN (cellF ns (k + 2)) (6 + 2 * (toTr ns k).1.length)
def wWs (ns : List Int) (k : Nat) : List Wk := wksF (toTr ns k).1 (toCh ns k) (wDr ns k)
def wPay (ns : List Int) (k : Nat) : Q2 := payF (wWs ns k) (wDr ns k)
theorem wOk (ns : List Int) (k : Nat) : WkOk (wPay ns k) (wWs ns k) (toLs ns k) := wks_ok (toTr_ok ns k) _ _
def pwD (pay : Q2) (ws : List Wk) : PyData := .list [rat pay, .list (ws.map wkD)]
def R_law_work (ds : List PyData) (r : Res PyData) : Prop := ∃ (ns : List Int) (k : Nat), ds = [.list (ns.map .int), .int (k : Int)] ∧ r = .ok (pwD (wPay ns k) (wWs ns k))
def wkDn (s : PyData) (k : Nat) (t d : PyData) (l : List Wk) : Dn := [.val s, .val (.int (k : Int)), .val t, .val d, .own (l.map wkD), .no, .no, .no, .no, .no, .no, .no]
def pyDn (s : PyData) (k : Nat) (t d ws lim : PyData) (p : Q2) : Dn := [.val s, .val (.int (k : Int)), .val t, .val d, .val ws, .no, .val lim, .val (rat p), .no, .no, .no, .no]
theorem len__law_work : ∀ ds r, R_law_work ds r → ds.length = (["script", "at"] : List Str).length := by
  rintro _ _ ⟨_, _, rfl, _⟩; rfl
theorem ok__law_work (T : Tx K mg Z0 Z1) (D : DefAt K mg "_law_work" s__law_work []) (c__law_tree_of : CalX P w K mg base CX0 4 "_law_tree_of" [] R_law_tree_of) (c__law_draws : CalX P w K mg base CX0 1 "_law_draws" [] R_law_draws) (c__law_cell : CalX P w K mg base CX0 1 "_law_cell" [] R_law_cell) (c__law_ratio : CalX P w K mg base CX0 2 "_law_ratio" [] R_law_ratio) (c__law_below : CalX P w K mg base CX0 1 "_law_below" [] (RQ 2100 fun a b => .bool (decide (a.1 * b.2 < b.1 * a.2)))) (c__law_add : CalX P w K mg base CX0 3 "_law_add" [] (RQ 2100 fun a b => rat (qadd a b))) (c__law_mul : CalX P w K mg base CX0 3 "_law_mul" [] (RQ 2100 fun a b => rat (qmul a b))) : CalX P w K mg base CX0 5 "_law_work" [] R_law_work := by
  refine okN D (bind0 (fun _ _ _ _ _ _ us hl => match us, hl with | [_, _], _ => rfl)) sc__law_work len__law_work fun f cdv A outer s H Ex hr => ⟨_, (pss_cons (ps_set (i := 2) sc__law_work.nd rfl (by first | exact Or.inl rfl | exact Or.inr rfl) (pe_cal c__law_tree_of hr (by decide) (fun σ => p0At σ) (pa_cons (pv 0) (pa_cons (pv 1) pa_nil))))
    (pss_cons (ps_set (i := 3) sc__law_work.nd rfl (by first | exact Or.inl rfl | exact Or.inr rfl) (pe_cal c__law_draws hr (by decide) (fun σ => p0At σ) (pa_cons (pe_cal c__law_cell hr (by decide) (fun σ => p0At σ) (pa_cons (pv 0) (pa_cons (pe_op op_addU (pv 1) pe_int) pa_nil))) (pa_cons (pe_op op_addU pe_int (pe_op op_mulU pe_int (pe_callB call_len (by rfl) T.n_len (by decide +kernel) (pa_cons (pe_ix ix_seq (pv 2) pe_int (fun _ _ => rfl)) pa_nil)))) pa_nil))))
    (pss_cons (ps_set (i := 4) sc__law_work.nd rfl (by first | exact Or.inl rfl | exact Or.inr rfl) (pe_lst pa_nil))
    (pss_cons (ps_for PassesOwn.never rfl (pi_range1 rfl T.n_range (pa_cons (pe_callB call_len (by rfl) T.n_len (by decide +kernel) (pa_cons (pe_ix ix_seq (pv 2) pe_int (fun _ _ => rfl)) pa_nil)) pa_nil)) (pg_name (i := 5) sc__law_work.nd rfl (by first | exact Or.inl rfl | exact Or.inr rfl)) (pss_cons (ps_set (i := 10) sc__law_work.nd rfl (by first | exact Or.inl rfl | exact Or.inr rfl) (pe_cal c__law_ratio hr (by decide) (fun σ => p0At σ) (pa_cons (pe_op op_modN (pe_ix ix_seq (pv 3) (pe_op op_addU pe_int (pe_op op_mulU pe_int (pv 5))) (fun _ _ => rfl)) pe_int) (pa_cons (pe_op op_addU pe_int (pe_op op_modN (pe_op op_fdivX (pe_ix ix_seq (pv 3) (pe_op op_addU pe_int (pe_op op_mulU pe_int (pv 5))) (fun _ _ => rfl)) pe_int) pe_int)) pa_nil))))
    (pss_cons (ps_if (PW.pt (pw_and (pt_cmpR op_gt (pv 5) pe_int (nomark _)) (pw_and1 (pt_cmpR (op_eqU (hu64 hr)) (pe_op op_modN (pe_ix ix_seq (pv 3) (pe_op op_addU pe_int (pe_op op_mulU pe_int (pv 5))) (fun _ _ => rfl)) pe_int) pe_int (nomark _))))) (pss_one (ps_set (i := 10) sc__law_work.nd rfl (by first | exact Or.inl rfl | exact Or.inr rfl) (pe_ix ix_seq (pe_ix ix_seq (pv 4) (pe_op op_modN (pe_op op_fdivX (pe_ix ix_seq (pv 3) (pe_op op_addU pe_int (pe_op op_mulU pe_int (pv 5))) (fun _ _ => rfl)) pe_int) (pv 5)) (fun _ _ => rfl)) pe_int (fun _ _ => rfl)))) pss_nil)
    (pss_one (ps_expr (pe_bm PySem.F.plainAttrs_list PySem.F.slot_list_append PySem.F.type_list_append mt_append (pv 4) (pa_cons (pe_tup (pa_cons (pe_ix ix_seq (pe_ix ix_seq (pv 2) pe_int (fun _ _ => rfl)) (pv 5) (fun _ _ => rfl)) (pa_cons (pe_ix ix_seq (pe_ix ix_seq (pv 2) pe_int (fun _ _ => rfl)) (pv 5) (fun _ _ => rfl)) (pa_cons (pv 10) (pa_cons (pe_cal c__law_ratio hr (by decide) (fun σ => p0At σ) (pa_cons (pe_op op_addU pe_int (pe_op op_modN (pe_ix ix_seq (pv 3) (pe_op op_addU pe_int (pe_op op_mulU pe_int (pv 5))) (fun _ _ => rfl)) pe_int)) (pa_cons (pe_op op_addU pe_int (pe_op op_modN (pe_op op_fdivX (pe_ix ix_seq (pv 3) (pe_op op_addU pe_int (pe_op op_mulU pe_int (pv 5))) (fun _ _ => rfl)) pe_int) pe_int)) pa_nil))) pa_nil))))) pa_nil)))))))
    (pss_cons (ps_set (i := 6) sc__law_work.nd rfl (by first | exact Or.inl rfl | exact Or.inr rfl) (pe_ix ix_seq (pe_ix ix_seq (pv 4) (pe_op op_modN (pe_ix ix_seq (pv 3) pe_int (fun _ _ => rfl)) (pe_callB call_len (by rfl) T.n_len (by decide +kernel) (pa_cons (pv 4) pa_nil))) (fun _ _ => rfl)) pe_int (fun _ _ => rfl)))
    (pss_cons (ps_set (i := 7) sc__law_work.nd rfl (by first | exact Or.inl rfl | exact Or.inr rfl) (pe_tup (pa_cons pe_int (pa_cons pe_int pa_nil))))
    (pss_cons (ps_for PassesOwn.never rfl (pi_list (pv 4)) (pg_tup (n := 4) (by rfl) (pgs_cons (pg_name (i := 8) sc__law_work.nd rfl (by first | exact Or.inl rfl | exact Or.inr rfl)) (pgs_cons (pg_name (i := 9) sc__law_work.nd rfl (by first | exact Or.inl rfl | exact Or.inr rfl)) (pgs_cons (pg_name (i := 10) sc__law_work.nd rfl (by first | exact Or.inl rfl | exact Or.inr rfl)) (pgs_cons (pg_name (i := 11) sc__law_work.nd rfl (by first | exact Or.inl rfl | exact Or.inr rfl)) pgs_nil))))) (pss_one (ps_if (pt_val (pe_cal c__law_below hr (by decide) (fun σ => p0At σ) (pa_cons (pv 6) (pa_cons (pv 10) pa_nil)))) (pss_one (ps_set (i := 7) sc__law_work.nd rfl (by first | exact Or.inl rfl | exact Or.inr rfl) (pe_cal c__law_add hr (by decide) (fun σ => p0At σ) (pa_cons (pv 7) (pa_cons (pe_cal c__law_mul hr (by decide) (fun σ => p0At σ) (pa_cons (pv 9) (pa_cons (pv 11) pa_nil))) pa_nil))))) pss_nil)))
    (pss_cons (ps_if (PW.pt (pw_or (pt_cmpR (op_eqU (hu64 hr)) (pe_ix ix_seq (pv 7) pe_int (fun _ _ => rfl)) pe_int (nomark _)) (pw_or1 (pt_cmpR (op_eqU (hu64 hr)) (pe_op op_modN (pe_ix ix_seq (pv 3) pe_int (fun _ _ => rfl)) pe_int) pe_int (nomark _))))) (pss_one (ps_set (i := 7) sc__law_work.nd rfl (by first | exact Or.inl rfl | exact Or.inr rfl) (pe_cal c__law_ratio hr (by decide) (fun σ => p0At σ) (pa_cons (pe_op op_addU pe_int (pe_op op_modN (pe_ix ix_seq (pv 3) pe_int (fun _ _ => rfl)) pe_int)) (pa_cons (pe_op op_addU pe_int (pe_op op_modN (pe_ix ix_seq (pv 3) pe_int (fun _ _ => rfl)) pe_int)) pa_nil))))) pss_nil)
    (pss_one (ps_ret (pe_lst (pa_cons (pv 7) (pa_cons (pv 4) pa_nil))))))))))))), ?_⟩

  rintro ds r ⟨ns, k, rfl, rfl⟩
  have cl : ∀ k : Nat, R_law_cell [.list (ns.map .int), .int (k : Int)] (.ok (.int (cellF ns k))) := fun k => ⟨ns, k, rfl, rfl⟩
  have tq : R_law_tree_of [.list (ns.map .int), .int (k : Int)] (.ok (toD ns k)) := ⟨ns, k, rfl, rfl⟩
  have o := toTr_ok ns k
  have l1 := o.l1
  have l2 := o.l2
  have W0 := wOk ns k
  have wlen : (wWs ns k).length = (toTr ns k).1.length := wksF_len _ _ _
  have dl : (wDr ns k).length = 6 + 2 * (toTr ns k).1.length := drawsN_len _ _
  have cl2 : (toCh ns k).length = (toTr ns k).1.length := chaF_len _ _
  have dq : R_law_draws [.int (cellF ns (k + 2)), natI (6 + 2 * (toTr ns k).1.length)] (.ok (.list ((wDr ns k).map fun n : Nat => PyData.int (n : Int)))) := dr_ok (by omega)
  have eP : wPay ns k = payF (wWs ns k) (wDr ns k) := rfl
  have eW : wWs ns k = (List.range (toTr ns k).1.length).map (wkF (toTr ns k).1 (toCh ns k) (wDr ns k)) := rfl
  refine en_seq (rn_asgE (d := toD ns k) (ev_callWE (by walk_at "ev") tq rfl) rfl) ?_
  have cq := cl (k + 2)
  unfold toD at *
  generalize wDr ns k = D0 at *
  generalize toCh ns k = C at *
  generalize (toTr ns k).1 = ps at *
  generalize wWs ns k = ws at *
  generalize wPay ns k = pay at *
  have tl : RC K (fun xs H Q => ∃ x n, xs = [x] ∧ LenV K x H n ∧ Q (.int n) H) [.list (ps.map parD)] (natI ps.length) := len_map_l parD ps
  have lenT : ∀ {W : WX} {δ : Dn} {te : TE}, EvD K W te δ (.ok (.list [.list (ps.map parD), .list (C.map rat)])) → EvD K W (tCB (fun xs H Q => ∃ x n, xs = [x] ∧ LenV K x H n ∧ Q (.int n) H) (tCons (tOp (rIx K) te (tC (.int 0))) tNil)) δ (.ok (natI ps.length)) := fun h => ev_cb (ea_cons (ev_op h ev_int (rd_ix_L rfl)) ea_nil) tl
  refine en_seq (rn_asgE (d := .list (D0.map fun n : Nat => PyData.int (n : Int))) (ev_callWE (ea_cons (ev_callWE (ea_cons (ev_var rfl) (ea_cons (by first | exact ev_is (ev_op (ev_var rfl) ev_int rd_addI) rfl) ea_nil)) cq rfl) (ea_cons (en_add ev_int (en_mul (a := 2) ev_int (lenT (ev_var rfl)) (by decide) (by omega))) ea_nil)) dq rfl) rfl) ?_
  refine en_seq (rn_asgO ea_nil (by decide)) ?_
  refine en_seq (rn_loop (js := [5]) (δ' := wkDn (.list (ns.map .int)) k (.list [.list (ps.map parD), .list (C.map rat)]) (.list (D0.map fun n : Nat => PyData.int (n : Int))) ws) (fun i => wkDn (.list (ns.map .int)) k (.list [.list (ps.map parD), .list (C.map rat)]) (.list (D0.map fun n : Nat => PyData.int (n : Int))) ((List.range i).map (wkF ps C D0))) rfl (src_rng1 (W := fun _ _ _ _ => False) (j := (ps.length : Int)) (ea_cons (lenT (ev_var rfl)) ea_nil) (by omega) (by omega)) (fun i x _ hx => ?_) (by rw [iota_len, Int.toNat_natCast, eW])) ?_
  · obtain ⟨hi, rfl⟩ := iota_at hx
    rw [Int.toNat_natCast] at hi
    have e2 : ((List.range (i + 1)).map (wkF ps C D0)).map wkD = ((List.range i).map (wkF ps C D0)).map wkD ++ [wkD (wkF ps C D0 i)] := by
      rw [List.range_succ, List.map_append, List.map_append]; rfl
    have bl : (((List.range i).map (wkF ps C D0)).map wkD).length < sizeLine := by rw [List.length_map, List.length_map, List.length_range, sizeLine_eq]; omega
    have r1 : R_law_ratio [natI (D0.getD (6 + 2 * i) 0 % 11), natI (1 + D0.getD (6 + 2 * i) 0 / 11 % 3)] (.ok (rat (nrm ((D0.getD (6 + 2 * i) 0 % 11 : Nat) : Int) ((1 + D0.getD (6 + 2 * i) 0 / 11 % 3 : Nat) : Int)))) := rr_nat (by omega) (by omega) (by omega)
    have r2 : R_law_ratio [natI (1 + D0.getD (7 + 2 * i) 0 % 23), natI (1 + D0.getD (7 + 2 * i) 0 / 23 % 3)] (.ok (rat (rateF D0 i))) := rr_nat (by omega) (by omega) (by omega)
    have ixp : atI (ps.map parD) (i : Int) = some (parD (ps.getD i none)) := at_mapD none parD hi
    have ixq : atI (C.map rat) (i : Int) = some (rat (C.getD i (0, 1))) := at_mapD (0, 1) rat (by omega)
    have i100 : i < 2 ^ 100 := by omega
    by_cases e : 0 < i ∧ D0.getD (7 + 2 * i) 0 % 4 = 1
    · have en : needF D0 i = needF D0 (D0.getD (7 + 2 * i) 0 / 4 % i) := by rw [need_step, if_pos e]
      have i0 := e.1
      have e1' := e.2
      refine ⟨_, _, as_name, rn_seq (rn_asgE (d := rat (nrm ((D0.getD (6 + 2 * i) 0 % 11 : Nat) : Int) ((1 + D0.getD (6 + 2 * i) 0 / 11 % 3 : Nat) : Int))) (ev_callWE (ea_cons (by walk_at "nat") (ea_cons (by walk_at "nat") ea_nil)) r1 rfl) rfl) (rn_seq (rn_ifT' (et_and (et_test (ev_op (ev_var rfl) ev_int rd_I0b)) fun _ => et_test (ev_op (x := natI (D0.getD (7 + 2 * i) 0 % 4)) (by walk_at "nat") ev_int rd_eqI)) (by rw [Bool.and_eq_true]; exact ⟨decide_eq_true (by omega), decide_eq_true (by omega)⟩) (rn_asgE (d := rat (needF D0 i)) (ev_is (ev_op (ev_ixO' (i := 4) (k := ((D0.getD (7 + 2 * i) 0 / 4 % i : Nat) : Int)) rfl (by walk_at "nat") (at_wk (wkF ps C D0) wkD (Nat.mod_lt _ i0))) ev_int (rd_ix_T rfl)) (congrArg rat en.symm)) rfl)) (rn_app (i := 4) (d := wkD (wkF ps C D0 i)) rfl (ev_is (ev_tupH (ea_cons (ev_op (ev_op (ev_var rfl) ev_int (rd_ix_L rfl)) (ev_var rfl) (rd_ix_L ixp)) (ea_cons (ev_op (ev_op (ev_var rfl) ev_int (rd_ix_L rfl)) (ev_var rfl) (rd_ix_L ixq)) (ea_cons (ev_var rfl) (ea_cons (ev_callWE (ea_cons (by walk_at "nat") (ea_cons (by walk_at "nat") ea_nil)) r2 rfl) ea_nil)))) (by show 4 ≤ sizeLine; decide)) rfl) bl)), ?_⟩
      unfold wkDn
      rw [e2]
      walk_at "less"
    · have en : needF D0 i = nrm ((D0.getD (6 + 2 * i) 0 % 11 : Nat) : Int) ((1 + D0.getD (6 + 2 * i) 0 / 11 % 3 : Nat) : Int) := by rw [need_step, if_neg e]
      rw [← en] at r1
      refine ⟨_, _, as_name, rn_seq (rn_asgE (d := rat (needF D0 i)) (ev_callWE (ea_cons (by walk_at "nat") (ea_cons (by walk_at "nat") ea_nil)) r1 rfl) rfl) (rn_seq (rn_ifF' (et_and (et_test (ev_op (ev_var rfl) ev_int rd_I0b)) fun _ => et_test (ev_op (x := natI (D0.getD (7 + 2 * i) 0 % 4)) (by walk_at "nat") ev_int rd_eqI)) (by
        rw [Bool.and_eq_false_iff]
        by_cases i0 : 0 < i
        · exact .inr (decide_eq_false (by have : ¬ D0.getD (7 + 2 * i) 0 % 4 = 1 := fun h => e ⟨i0, h⟩
                                          omega))
        · exact .inl (decide_eq_false (by omega))) rn_next) (rn_app (i := 4) (d := wkD (wkF ps C D0 i)) rfl (ev_is (ev_tupH (ea_cons (ev_op (ev_op (ev_var rfl) ev_int (rd_ix_L rfl)) (ev_var rfl) (rd_ix_L ixp)) (ea_cons (ev_op (ev_op (ev_var rfl) ev_int (rd_ix_L rfl)) (ev_var rfl) (rd_ix_L ixq)) (ea_cons (ev_var rfl) (ea_cons (ev_callWE (ea_cons (by walk_at "nat") (ea_cons (by walk_at "nat") ea_nil)) r2 rfl) ea_nil)))) (by show 4 ≤ sizeLine; decide)) rfl) bl)), ?_⟩
      unfold wkDn
      rw [e2]
      walk_at "less"
  refine en_frz (i := 4) (o := ownL (ws.map wkD)) rfl reads_L ?_
  have d0l : D0.getD 0 0 % ws.length < ws.length := Nat.mod_lt _ (by omega)
  have ixl : atI (ws.map wkD) ((D0.getD 0 0 % ws.length : Nat) : Int) = some (wkD (ws.getD (D0.getD 0 0 % ws.length) default)) := at_map wkD d0l
  refine en_seq (rn_asgE (d := rat (ws.getD (D0.getD 0 0 % ws.length) default).need) (ev_op (ev_op (ev_var rfl) (en_mod (a := D0.getD 0 0) (b := ws.length) (by walk_at "nat") (ev_cb (ea_cons (ev_var rfl) ea_nil) (len_map_l wkD ws)) (by omega)) (rd_ix_L ixl)) ev_int (rd_ix_T rfl)) rfl) ?_
  have lz := (W0.need _ d0l).qz
  unfold payF at eP
  dsimp only at eP
  generalize (ws.getD (D0.getD 0 0 % ws.length) default).need = lim at *
  refine en_seq (rn_asgE (d := rat (0, 1)) (by walk_at "ev") rfl) ?_
  have ats : ∀ {i : Nat} {d : PyData}, (ws.map wkD)[i]? = some d → i < ws.length ∧ d = wkD (ws.getD i default) := fun {i d} hd => by
    rw [List.getElem?_map] at hd
    cases hz : ws[i]? with
    | none => rw [hz] at hd; cases hd
    | some z =>
      rw [hz] at hd
      cases hd
      have hi := (List.getElem?_eq_some_iff.mp hz).1
      refine ⟨hi, ?_⟩
      rw [List.getD_eq_getElem?_getD, hz]; rfl
  refine en_seq (rn_loop (js := [8, 9, 10, 11]) (δ' := pyDn (.list (ns.map .int)) k (.list [.list (ps.map parD), .list (C.map rat)]) (.list (D0.map fun n : Nat => PyData.int (n : Int))) (.list (ws.map wkD)) (rat lim) (payN ws lim ws.length)) (fun i => pyDn (.list (ns.map .int)) k (.list [.list (ps.map parD), .list (C.map rat)]) (.list (D0.map fun n : Nat => PyData.int (n : Int))) (.list (ws.map wkD)) (rat lim) (payN ws lim i)) rfl (src_list (W := fun _ _ _ _ => False) (l := ws.map wkD) (ev_var rfl)) (fun i x _ hx => ?_) (by rw [List.length_map])) ?_
  · obtain ⟨hi, rfl⟩ := ats hx
    have nz := (W0.need i hi).qz
    have az := (W0.ch i hi).qz
    have bz := (W0.rate i hi).qz
    obtain ⟨_, _, pz⟩ := payN_ok (l := lim) W0.ch W0.rate i (by omega)
    have q1 : RQ 2100 (fun a b => .bool (decide (a.1 * b.2 < b.1 * a.2))) [rat lim, rat (ws.getD i default).need] (.ok (.bool (belB lim (ws.getD i default).need))) := rq_mk (f := fun a b => .bool (decide (a.1 * b.2 < b.1 * a.2))) (lz.mono (by decide)) (nz.mono (by decide))
    have q2 : RQ 2100 (fun a b => rat (qmul a b)) [rat (ws.getD i default).ch, rat (ws.getD i default).rate] (.ok (rat (qmul (ws.getD i default).ch (ws.getD i default).rate))) := rq_mk (az.mono (by decide)) (bz.mono (by decide))
    have q3 : RQ 2100 (fun a b => rat (qadd a b)) [rat (payN ws lim i), rat (qmul (ws.getD i default).ch (ws.getD i default).rate)] (.ok (rat (qadd (payN ws lim i) (qmul (ws.getD i default).ch (ws.getD i default).rate)))) := rq_mk (pz.mono (by omega)) ((qmul_qz az bz).mono (by decide))
    have ep : payN ws lim (i + 1) = cond (belB lim (ws.getD i default).need) (qadd (payN ws lim i) (qmul (ws.getD i default).ch (ws.getD i default).rate)) (payN ws lim i) := rfl
    rw [ep]
    cases hb : belB lim (ws.getD i default).need with
    | true =>
      rw [hb] at q1
      refine ⟨_, _, as_tup (as_cons as_name (as_cons as_name (as_cons as_name (as_cons as_name as_nil)))) rfl, rn_ifT' (et_B (ev_callWE (ea_cons (ev_var rfl) (ea_cons (ev_var rfl) ea_nil)) q1 rfl)) rfl (rn_asgE (ev_callWE (ea_cons (ev_var rfl) (ea_cons (ev_callWE (ea_cons (ev_var rfl) (ea_cons (ev_var rfl) ea_nil)) q2 rfl) ea_nil)) q3 rfl) rfl), ?_⟩
      unfold pyDn
      walk_at "less"
    | false =>
      rw [hb] at q1
      refine ⟨_, _, as_tup (as_cons as_name (as_cons as_name (as_cons as_name (as_cons as_name as_nil)))) rfl, rn_ifF' (et_B (ev_callWE (ea_cons (ev_var rfl) (ea_cons (ev_var rfl) ea_nil)) q1 rfl)) rfl rn_next, ?_⟩
      unfold pyDn
      walk_at "less"
  generalize payN ws lim ws.length = p at *
  have r1 : R_law_ratio [natI (1 + D0.getD 2 0 % 40), natI (1 + D0.getD 3 0 % 5)] (.ok (rat (nrm ((1 + D0.getD 2 0 % 40 : Nat) : Int) ((1 + D0.getD 3 0 % 5 : Nat) : Int)))) := rr_nat (by omega) (by omega) (by omega)
  by_cases e : p.1 = 0 ∨ D0.getD 1 0 % 2 = 1
  · rw [if_pos e] at eP
    rw [← eP] at r1
    refine en_seq (rn_ifT' (et_or (et_test (ev_op (ev_op (ev_var rfl) ev_int (rd_ix_T rfl)) ev_int rd_eqI)) fun _ => et_test (ev_op (x := natI (D0.getD 1 0 % 2)) (by walk_at "nat") ev_int rd_eqI)) ?_ (rn_asgE (d := rat pay) (ev_callWE (ea_cons (by walk_at "nat") (ea_cons (by walk_at "nat") ea_nil)) r1 rfl) rfl)) ?_
    · rw [Bool.or_eq_true]
      rcases e with e | e
      · exact .inl (decide_eq_true e)
      · exact .inr (decide_eq_true (by omega))
    · exact en_rt (rn_ret (ev_lstH (ea_cons (ev_var rfl) (ea_cons (ev_var rfl) ea_nil)) (by show 2 ≤ sizeLine; decide))) rfl
  · rw [if_neg e] at eP
    subst eP
    refine en_seq (rn_ifF' (et_or (et_test (ev_op (ev_op (ev_var rfl) ev_int (rd_ix_T rfl)) ev_int rd_eqI)) fun _ => et_test (ev_op (x := natI (D0.getD 1 0 % 2)) (by walk_at "nat") ev_int rd_eqI)) ?_ rn_next) ?_
    · rw [Bool.or_eq_false_iff]
      exact ⟨decide_eq_false fun h => e (.inl h), decide_eq_false fun h => e (.inr (by omega))⟩
    · exact en_rt (rn_ret (ev_lstH (ea_cons (ev_var rfl) (ea_cons (ev_var rfl) ea_nil)) (by show 2 ≤ sizeLine; decide))) rfl
end
end K74
end
section
/-! ### the reading tactics -/
local macro_rules | `(tactic| walk_at "sz") => `(tactic| first
  | assumption
  | (apply DL.Sz.neg
     · walk_at "sz")
  | (apply DL.Sz.mul
     · walk_at "sz"
     · walk_at "sz")
  | (apply DL.Sz.add
     · walk_at "sz"
     · walk_at "sz")
  | (apply DL.Sz.sub
     · walk_at "sz"
     · walk_at "sz")
  | (apply DL.Sz.fmod
     · decide
     · walk_at "sz")
  | exact DL.Sz.self)
local macro_rules | `(tactic| walk_at "side") => `(tactic| first
  | assumption
  | (apply DL.cmulW_of
     · walk_at "sz"
     · walk_at "sz"
     · first | decide +kernel | omega)
  | rfl
  | decide
  | omega
  | (simp only [List.length_cons, List.length_nil]; decide)
  | (simp; done)
  | (simp only [PySem.sizeLine_eq, List.length_cons, List.length_nil]; omega))
local macro_rules | `(tactic| walk_at "rd") => `(tactic| first
  | exact DL.rd_addI
  | exact DL.rd_sub
  | exact DL.rd_mulL (by decide) (by decide)
  | exact DL.rd_mulR (by decide) (by decide)
  | (refine DL.rd_mulI ?_
     · walk_at "side")
  | exact DL.rd_pow ⟨by decide, by decide, by decide⟩
  | exact DL.rd_mod (by show (_ : Int) ≠ _; first | decide | assumption)
  | exact DL.rd_ix_T rfl
  | exact DL.rd_ix_L rfl
  | exact DL.rd_eqI
  | exact DL.rd_inC
  | exact DL.rd_niC
  | exact DL.rd_ix_S (by assumption) (by assumption)
  | exact DL.rd_neI
  | exact DL.rd_eqT
  | exact DL.rd_neT
  | exact DL.rd_eqB
  | exact DL.rd_I0b
  | (refine DL.rd_addS ?_
     · walk_at "side")
  | (refine DL.rd_addT ?_
     · walk_at "side")
  | (refine DL.rd_fdiv ?_ ?_
     · walk_at "side"
     · walk_at "side")
  | (refine DL.rd_mod ?_
     · walk_at "side")
  | assumption)
local macro_rules | `(tactic| walk_at "rc") => `(tactic| first
  | exact DL.rc_gcd
  | exact DL.rc_abs
  | exact DL.rc_max2
  | exact DL.rc_intV
  | exact DL.rc_intB
  | exact DL.rc_len_t
  | exact DL.rc_list_l
  | exact DL.rc_list_t
  | exact DL.rc_tup_l
  | exact DL.rc_len_l
  | (apply DL.rc_len_s
     · walk_at "side")
  | (apply DL.rc_str
     · walk_at "side")
  | assumption)
local macro_rules | `(tactic| walk_at "call") => `(tactic| first
  | exact ⟨_, rfl, by assumption, rfl⟩
  | exact ⟨_, rfl, rfl⟩
  | exact ⟨_, _, rfl, rfl⟩
  | assumption
  | fail "call: no contract")
local macro_rules | `(tactic| walk_at "ep") => `(tactic| first
  | with_reducible exact DL.ep_no
  | (with_reducible apply DL.ep_some
     · walk_at "ev"))
local macro_rules | `(tactic| walk_at "ev") => `(tactic| first
  | assumption
  | (with_reducible apply DL.ev_var
     · rfl)
  | with_reducible exact DL.ev_int
  | with_reducible exact DL.ev_str
  | with_reducible exact DL.ev_bl
  | with_reducible exact DL.ev_non
  | with_reducible exact DL.ea_nil
  | exact DL.ev_glob (by assumption)
  | (with_reducible apply DL.ev_op
     · walk_at "ev"
     · walk_at "ev"
     · walk_at "rd")
  | (with_reducible apply DL.ea_cons
     · walk_at "ev"
     · walk_at "ev")
  | (with_reducible apply DL.ev_sl
     · walk_at "ev"
     · walk_at "ep"
     · walk_at "ep"
     · first | exact DL.rs_s (by assumption) | exact DL.rs_l | exact DL.rs_t)
  | (with_reducible apply DL.ev_un
     · walk_at "ev"
     · with_reducible exact DL.ru_neg)
  | (with_reducible apply DL.ev_isiE
     · walk_at "ev"
     · first | rfl | assumption
     · first | rfl | assumption
     · rfl)
  | (with_reducible apply DL.ev_tupH
     · walk_at "ev"
     · walk_at "side")
  | (with_reducible apply DL.ev_lstH
     · walk_at "ev"
     · walk_at "side")
  | (with_reducible apply DL.ev_cb
     · walk_at "ev"
     · walk_at "rc")
  | (with_reducible apply DL.et_test
     · walk_at "ev")
  | (with_reducible apply DL.et_B
     · walk_at "ev")
  | (with_reducible apply DL.et_not
     · walk_at "ev")
  | (with_reducible apply DL.et_and
     · walk_at "ev"
     · (intro _; walk_at "ev"))
  | (with_reducible apply DL.et_or
     · walk_at "ev"
     · (intro _; walk_at "ev"))
  | (with_reducible apply DL.ev_xf
     · rfl
     · rfl)
  | (with_reducible apply DL.ev_chain
     · walk_at "ev"
     · walk_at "ev"
     · walk_at "rd"
     · (intro _; walk_at "ev")
     · (intro _; walk_at "rd"))
  | (with_reducible apply DL.ev_fld
     · walk_at "ev"
     · assumption
     · assumption
     · rfl)
  | (with_reducible apply DL.ev_isN
     · walk_at "ev")
  | (with_reducible apply DL.ev_notN
     · walk_at "ev")
  | (with_reducible apply DL.ev_andV
     · walk_at "ev"
     · (intro _; walk_at "ev"))
  | (with_reducible apply DL.ev_orV
     · walk_at "ev"
     · (intro _; walk_at "ev"))
  | (with_reducible apply DL.ev_notV
     · walk_at "ev")
  | (with_reducible apply DL.ev_callE
     · walk_at "ev"
     · walk_at "call"
     · rfl)
  | (with_reducible apply DL.ev_callSE
     · walk_at "ev"
     · walk_at "call"
     · rfl))
local macro_rules | `(tactic| walk_at "less") => `(tactic| (
  (try simp only [List.set_cons_zero, List.set_cons_succ])
  repeat (first | exact DL.less_nil | apply DL.less_same | apply DL.less_no)))
local macro_rules | `(tactic| walk_at "nat") => `(tactic| first
  | assumption
  | (with_reducible apply DL.ev_var
     · rfl)
  | exact DL.ev_int
  | (apply DL.en_ix
     · walk_at "nat"
     · walk_at "nat"
     · omega)
  | (apply DL.en_add
     · walk_at "nat"
     · walk_at "nat")
  | (apply DL.en_mod
     · walk_at "nat"
     · walk_at "nat"
     · omega)
  | (apply DL.en_div
     · walk_at "nat"
     · walk_at "nat"
     · omega
     · omega)
  | (apply DL.en_mul
     · walk_at "nat"
     · walk_at "nat"
     · first | decide | omega
     · first | decide | omega))

set_option Elab.async false
set_option linter.all false
set_option maxRecDepth 100000
set_option maxHeartbeats 4000000
set_option exponentiation.threshold 10000
/-! K74L: a fan -/
namespace K74
open PySem PySem.Spec PyProof.Rows L2 DL
section
variable {P : Program} {w : World} {K : PySem.W.Frag} {mg : Str → Option Value} {base : Heap} {Z0 Z1 CB CM CK TKC CX1 : Addr}

abbrev s__law_fan : Stmt := topS 58
theorem sc__law_fan : FnScope ["draws", "weights", "nodes", "k", "need"] ["draws"] (defScope s__law_fan) := ⟨rfl, rfl, rfl, by decide +kernel, rfl, by decide +kernel, by decide +kernel⟩
def R_law_fan (ds : List PyData) (r : Res PyData) : Prop := ∃ d : List Nat, ds = [.list (d.map fun n : Nat => PyData.int (n : Int))] ∧ d.length = 50 ∧ r = .ok (pwD (fpay d) (fanF d))
def fnDn (d : List Nat) (l : List Wk) : Dn := [.val (.list (d.map fun n : Nat => PyData.int (n : Int))), .val (.list (((List.range 15).map fun k => 1 + d.getD k 0 % 3).map fun n : Nat => PyData.int (n : Int))), .own (l.map wkD), .no, .no]
theorem len__law_fan : ∀ ds r, R_law_fan ds r → ds.length = (["draws"] : List Str).length := by
  rintro _ _ ⟨_, rfl, _⟩; rfl
theorem ok__law_fan (T : Tx K mg Z0 Z1) (D : DefAt K mg "_law_fan" s__law_fan []) (c__law_ratio : CalX P w K mg base CX0 2 "_law_ratio" [] R_law_ratio) : CalX P w K mg base CX0 3 "_law_fan" [] R_law_fan := by
  refine okN D (bind0 (fun _ _ _ _ _ _ us hl => match us, hl with | [_], _ => rfl)) sc__law_fan len__law_fan fun f cdv A outer s H Ex hr => ⟨_, (pss_cons (ps_setLc (i := 1) (own := [("k", 3)]) rfl sc__law_fan.nd rfl rfl (sw_true rfl rfl rfl (by decide +kernel)) (pi_range1 rfl T.n_range (pa_cons pe_int pa_nil)) (blkOk_by (by show blkC ["draws", "weights", "nodes", "k", "need"] (defScope s__law_fan) _ [("k", 3)] = true; decide +kernel)) (fun _ _ _ _ _ => (pg_name (i := 3) sc__law_fan.nd rfl (by first | exact Or.inl rfl | exact Or.inr rfl))) (fun _ _ _ _ _ => pts_nil) (fun _ _ _ _ _ => (pe_op (op_addK (K := K) rfl) pe_int (pe_op op_modN (pe_ix (ix_K (K := K) rfl) (pv 0) (pv 3) (fun _ _ => rfl)) pe_int))))
    (pss_cons (ps_set (i := 2) sc__law_fan.nd rfl (by first | exact Or.inl rfl | exact Or.inr rfl) (pe_lst (pa_cons (pe_tup (pa_cons pe_non (pa_cons (pe_tup (pa_cons pe_int (pa_cons pe_int pa_nil))) (pa_cons (pe_tup (pa_cons (pe_op op_modN (pe_ix ix_seq (pv 0) pe_int (fun _ _ => rfl)) pe_int) (pa_cons pe_int pa_nil))) (pa_cons (pe_cal c__law_ratio hr (by decide) (fun σ => p0At σ) (pa_cons (pe_op op_addU pe_int (pe_op op_modN (pe_ix ix_seq (pv 0) pe_int (fun _ _ => rfl)) pe_int)) (pa_cons pe_int pa_nil))) pa_nil))))) pa_nil)))
    (pss_cons (ps_for PassesOwn.never rfl (pi_range1 rfl T.n_range (pa_cons pe_int pa_nil)) (pg_name (i := 3) sc__law_fan.nd rfl (by first | exact Or.inl rfl | exact Or.inr rfl)) (pss_cons (ps_set (i := 4) sc__law_fan.nd rfl (by first | exact Or.inl rfl | exact Or.inr rfl) (pe_cal c__law_ratio hr (by decide) (fun σ => p0At σ) (pa_cons (pe_op op_modN (pe_ix ix_seq (pv 0) (pe_op op_addU pe_int (pv 3)) (fun _ _ => rfl)) pe_int) (pa_cons (pe_op op_addU pe_int (pe_op op_modN (pe_op op_fdivX (pe_ix ix_seq (pv 0) (pe_op op_addU pe_int (pv 3)) (fun _ _ => rfl)) pe_int) pe_int)) pa_nil))))
    (pss_one (ps_expr (pe_bm PySem.F.plainAttrs_list PySem.F.slot_list_append PySem.F.type_list_append mt_append (pv 2) (pa_cons (pe_tup (pa_cons pe_int (pa_cons (pe_cal c__law_ratio hr (by decide) (fun σ => p0At σ) (pa_cons (pe_ix ix_seq (pv 1) (pv 3) (fun _ _ => rfl)) (pa_cons (pe_callB (cr_sum rfl) (by rfl) T.n_sum (by decide +kernel) (pa_cons (pv 1) pa_nil)) pa_nil))) (pa_cons (pv 4) (pa_cons (pe_cal c__law_ratio hr (by decide) (fun σ => p0At σ) (pa_cons (pe_op op_addU pe_int (pe_op op_modN (pe_ix ix_seq (pv 0) (pe_op op_addU pe_int (pv 3)) (fun _ _ => rfl)) pe_int)) (pa_cons (pe_op op_addU pe_int (pe_op op_modN (pe_op op_fdivX (pe_ix ix_seq (pv 0) (pe_op op_addU pe_int (pv 3)) (fun _ _ => rfl)) pe_int) pe_int)) pa_nil))) pa_nil))))) pa_nil))))))
    (pss_one (ps_ret (pe_lst (pa_cons (pe_cal c__law_ratio hr (by decide) (fun σ => p0At σ) (pa_cons (pe_op op_addU pe_int (pe_op op_modN (pe_ix ix_seq (pv 0) pe_int (fun _ _ => rfl)) pe_int)) (pa_cons (pe_op op_addU pe_int (pe_op op_modN (pe_ix ix_seq (pv 0) pe_int (fun _ _ => rfl)) pe_int)) pa_nil))) (pa_cons (pv 2) pa_nil)))))))), ?_⟩

  rintro ds r ⟨d, rfl, dl, rfl⟩
  have wl : ((List.range 15).map fun k => 1 + d.getD k 0 % 3).length = 15 := by rw [List.length_map, List.length_range]
  refine en_seq (rn_asgE (d := .list (((List.range 15).map fun k => 1 + d.getD k 0 % 3).map fun n : Nat => PyData.int (n : Int))) (ev_is (ev_lcM (W' := fun _ _ _ _ => False) (js := [3]) (fun x => match x with
    | .int v => natI (1 + d.getD v.toNat 0 % 3)
    | x => x) (src_rng1 (W := fun _ _ _ _ => False) (j := (15 : Int)) (by walk_at "ev") (by omega) (by omega)) (by intro j hj; exact hj) (by rw [iota_len, sizeLine_eq]; decide) (fun v x hx => ?_)) ?_) rfl) ?_
  · obtain ⟨hv, rfl⟩ := iota_at hx
    have hv : v < 15 := hv
    refine ⟨_, as_name, ev_is (x := natI (1 + d.getD v 0 % 3)) (by walk_at "nat") ?_⟩
    show _ = natI (1 + d.getD ((v : Int)).toNat 0 % 3)
    rw [Int.toNat_natCast]
  · rw [show (15 : Int).toNat = 15 from rfl, iota_map, List.map_map, List.map_map]
    congr 1
  have r0 : R_law_ratio [natI (1 + d.getD 16 0 % 9), natI 2] (.ok (rat (nrm ((1 + d.getD 16 0 % 9 : Nat) : Int) 2))) := rr_nat (by omega) (by omega) (by decide)
  refine en_seq (rn_asgO (ds := [wkD (fan0 d)]) (ea_cons (ev_is (x := .tuple [.none, rat (1, 1), .tuple [natI (d.getD 15 0 % 4), .int 1], rat (nrm ((1 + d.getD 16 0 % 9 : Nat) : Int) 2)]) (ev_tupH (ea_cons ev_non (ea_cons (by walk_at "ev") (ea_cons (ev_tupH (ea_cons (by walk_at "nat") (ea_cons ev_int ea_nil)) (by show 2 ≤ sizeLine; decide)) (ea_cons (ev_callWE (ea_cons (by walk_at "nat") (ea_cons (ev_is ev_int rfl) ea_nil)) r0 rfl) ea_nil)))) (by show 4 ≤ sizeLine; decide)) rfl) ea_nil) (by show 1 ≤ sizeLine; decide)) ?_
  have sm : RC K (rSum K) [.list (((List.range 15).map fun k => 1 + d.getD k 0 % 3).map fun n : Nat => PyData.int (n : Int))] (natI (fsum d)) := by
    have e : ((List.range 15).map fun k => 1 + d.getD k 0 % 3).map (fun n : Nat => PyData.int (n : Int)) = ((List.range 15).map fun k => ((1 + d.getD k 0 % 3 : Nat) : Int)).map .int := by
      rw [List.map_map, List.map_map]; rfl
    have q := sum_ints (fun k => 1 + d.getD k 0 % 3) (List.range 15)
    rw [e]
    show RC K (rSum K) _ (.int (((((List.range 15).map fun k => 1 + d.getD k 0 % 3).sum : Nat)) : Int))
    rw [← q]
    exact rc_sum
  have fs0 : 0 < fsum d := by
    have := le_sum (fun k => 1 + d.getD k 0 % 3) (l := List.range 15) (a := 0) (by decide)
    unfold fsum
    omega
  have fs1 : fsum d ≤ 45 := by
    have := sum_le (fun k => 1 + d.getD k 0 % 3) 3 (List.range 15) fun k _ => by show 1 + _ ≤ 3; omega
    rw [List.length_range] at this
    exact this
  refine en_seq (rn_loop (js := [3]) (δ' := fnDn d (fanF d)) (fun i => fnDn d (fan0 d :: (List.range i).map (fan1 d))) rfl (src_rng1 (W := fun _ _ _ _ => False) (j := (15 : Int)) (by walk_at "ev") (by omega) (by omega)) (fun i x _ hx => ?_) (by rw [iota_len]; rfl)) ?_
  · obtain ⟨hi, rfl⟩ := iota_at hx
    have hi : i < 15 := hi
    have e2 : (fan0 d :: (List.range (i + 1)).map (fan1 d)).map wkD = (fan0 d :: (List.range i).map (fan1 d)).map wkD ++ [wkD (fan1 d i)] := by
      rw [List.range_succ, List.map_append, List.map_cons, List.map_append]; rfl
    have bl : ((fan0 d :: (List.range i).map (fan1 d)).map wkD).length < sizeLine := by rw [List.length_map, List.length_cons, List.length_map, List.length_range, sizeLine_eq]; omega
    have r1 : R_law_ratio [natI (d.getD (17 + i) 0 % 9), natI (1 + d.getD (17 + i) 0 / 9 % 2)] (.ok (rat (nrm ((d.getD (17 + i) 0 % 9 : Nat) : Int) ((1 + d.getD (17 + i) 0 / 9 % 2 : Nat) : Int)))) := rr_nat (by omega) (by omega) (by omega)
    have r2 : R_law_ratio [natI (1 + d.getD (32 + i) 0 % 9), natI (1 + d.getD (32 + i) 0 / 9 % 2)] (.ok (rat (nrm ((1 + d.getD (32 + i) 0 % 9 : Nat) : Int) ((1 + d.getD (32 + i) 0 / 9 % 2 : Nat) : Int)))) := rr_nat (by omega) (by omega) (by omega)
    have r3 : R_law_ratio [natI (1 + d.getD i 0 % 3), natI (fsum d)] (.ok (rat (nrm ((1 + d.getD i 0 % 3 : Nat) : Int) (fsum d : Int)))) := rr_nat fs0 (by omega) (by omega)
    have ixw : atI (((List.range 15).map fun k => 1 + d.getD k 0 % 3).map fun n : Nat => PyData.int (n : Int)) (i : Int) = some (natI (1 + d.getD i 0 % 3)) := at_wk (fun k => 1 + d.getD k 0 % 3) (fun n : Nat => PyData.int (n : Int)) hi
    refine ⟨_, _, as_name, rn_seq (rn_asgE (ev_callWE (ea_cons (by walk_at "nat") (ea_cons (by walk_at "nat") ea_nil)) r1 rfl) rfl) (rn_app (i := 2) (d := wkD (fan1 d i)) rfl (ev_is (ev_tupH (ea_cons ev_int (ea_cons (ev_callWE (ea_cons (ev_op (ev_var rfl) (ev_var rfl) (rd_ix_L ixw)) (ea_cons (ev_cb (ea_cons (ev_var rfl) ea_nil) sm) ea_nil)) r3 rfl) (ea_cons (ev_var rfl) (ea_cons (ev_callWE (ea_cons (by walk_at "nat") (ea_cons (by walk_at "nat") ea_nil)) r2 rfl) ea_nil)))) (by show 4 ≤ sizeLine; decide)) rfl) bl), ?_⟩
    unfold fnDn
    rw [e2]
    walk_at "less"
  refine en_frz (i := 2) (o := ownL ((fanF d).map wkD)) rfl reads_L ?_
  have r4 : R_law_ratio [natI (1 + d.getD 47 0 % 20), natI (1 + d.getD 48 0 % 4)] (.ok (rat (fpay d))) := rr_nat (by omega) (by omega) (by omega)
  exact en_rt (rn_ret (ev_lstH (ea_cons (ev_callWE (ea_cons (by walk_at "nat") (ea_cons (by walk_at "nat") ea_nil)) r4 rfl) (ea_cons (ev_var rfl) ea_nil)) (by show 2 ≤ sizeLine; decide))) rfl
end
end K74
end
set_option Elab.async false
set_option linter.all false
set_option maxRecDepth 100000
set_option maxHeartbeats 4000000
/-! PF: the law's own costs and its best number, plain. -/
namespace DL
open PySem PySem.Spec PyProof.Rows L2
theorem bel_cmp (a b : Q2) : belB a b = decide (qcmp b a > 0) := by
  unfold belB qcmp
  by_cases h1 : b.1 * a.2 - a.1 * b.2 < 0
  · rw [if_pos h1, decide_eq_false (show ¬ a.1 * b.2 < b.1 * a.2 by omega)]; rfl
  · rw [if_neg h1]
    by_cases h2 : b.1 * a.2 - a.1 * b.2 > 0
    · rw [if_pos h2, decide_eq_true (show a.1 * b.2 < b.1 * a.2 by omega)]; rfl
    · rw [if_neg h2, decide_eq_false (show ¬ a.1 * b.2 < b.1 * a.2 by omega)]; rfl
def lbN (pay : Q2) (ws : List Wk) : Nat → Q2 × Q2
  | 0 => ((0, 1), cosF pay ws (0, 1))
  | k + 1 => cond (belB (cosF pay ws (ws.getD k default).need) (lbN pay ws k).2 || (decide (cosF pay ws (ws.getD k default).need = (lbN pay ws k).2) && belB (ws.getD k default).need (lbN pay ws k).1)) ((ws.getD k default).need, cosF pay ws (ws.getD k default).need) (lbN pay ws k)
def lbF (pay : Q2) (ws : List Wk) : Q2 × Q2 := lbN pay ws ws.length
theorem lbN_in {pay : Q2} {ws : List Wk} : ∀ k, k ≤ ws.length → ((lbN pay ws k).1 = (0, 1) ∨ ∃ j, j < k ∧ (lbN pay ws k).1 = (ws.getD j default).need) ∧ (lbN pay ws k).2 = cosF pay ws (lbN pay ws k).1
  | 0, _ => ⟨.inl rfl, rfl⟩
  | k + 1, hk => by
    obtain ⟨a, b⟩ := lbN_in (pay := pay) (ws := ws) k (by omega)
    rw [lbN]
    cases (belB (cosF pay ws (ws.getD k default).need) (lbN pay ws k).2 || (decide (cosF pay ws (ws.getD k default).need = (lbN pay ws k).2) && belB (ws.getD k default).need (lbN pay ws k).1)) with
    | true => exact ⟨.inr ⟨k, by omega, rfl⟩, rfl⟩
    | false =>
      refine ⟨?_, b⟩
      rcases a with a | ⟨j, hj, a⟩
      · exact .inl a
      · exact .inr ⟨j, by omega, a⟩
theorem lbN_qz {pay : Q2} {ws : List Wk} {m : Nat} (o : WkOk pay ws m) {k : Nat} (hk : k ≤ ws.length) : Qz 20 (lbN pay ws k).1 := by
  obtain ⟨a, _⟩ := lbN_in (pay := pay) (ws := ws) k hk
  rcases a with a | ⟨j, hj, a⟩
  · rw [a]; exact z_qz.mono (by decide)
  · rw [a]; exact (o.need j (by omega)).qz.mono (by decide)
theorem cosF_qz {pay : Q2} {ws : List Wk} {m : Nat} (o : WkOk pay ws m) {h : Q2} (hh : Qz 20 h) : Qz 1600 (cosF pay ws h) := (cosN_qz o hh ws.length (Nat.le_refl _)).mono (by have := o.l2; omega)
end DL
section
/-! ### the reading tactics -/
local macro_rules | `(tactic| walk_at "sz") => `(tactic| first
  | assumption
  | (apply DL.Sz.neg
     · walk_at "sz")
  | (apply DL.Sz.mul
     · walk_at "sz"
     · walk_at "sz")
  | (apply DL.Sz.add
     · walk_at "sz"
     · walk_at "sz")
  | (apply DL.Sz.sub
     · walk_at "sz"
     · walk_at "sz")
  | (apply DL.Sz.fmod
     · decide
     · walk_at "sz")
  | exact DL.Sz.self)
local macro_rules | `(tactic| walk_at "side") => `(tactic| first
  | assumption
  | (apply DL.cmulW_of
     · walk_at "sz"
     · walk_at "sz"
     · first | decide +kernel | omega)
  | rfl
  | decide
  | omega
  | (simp only [List.length_cons, List.length_nil]; decide)
  | (simp; done)
  | (simp only [PySem.sizeLine_eq, List.length_cons, List.length_nil]; omega))
local macro_rules | `(tactic| walk_at "rd") => `(tactic| first
  | exact DL.rd_addI
  | exact DL.rd_sub
  | exact DL.rd_mulL (by decide) (by decide)
  | exact DL.rd_mulR (by decide) (by decide)
  | (refine DL.rd_mulI ?_
     · walk_at "side")
  | exact DL.rd_pow ⟨by decide, by decide, by decide⟩
  | exact DL.rd_mod (by show (_ : Int) ≠ _; first | decide | assumption)
  | exact DL.rd_ix_T rfl
  | exact DL.rd_ix_L rfl
  | exact DL.rd_eqI
  | exact DL.rd_inC
  | exact DL.rd_niC
  | exact DL.rd_ix_S (by assumption) (by assumption)
  | exact DL.rd_neI
  | exact DL.rd_eqT
  | exact DL.rd_neT
  | exact DL.rd_eqB
  | exact DL.rd_I0b
  | (refine DL.rd_addS ?_
     · walk_at "side")
  | (refine DL.rd_addT ?_
     · walk_at "side")
  | (refine DL.rd_fdiv ?_ ?_
     · walk_at "side"
     · walk_at "side")
  | (refine DL.rd_mod ?_
     · walk_at "side")
  | assumption)
local macro_rules | `(tactic| walk_at "rc") => `(tactic| first
  | exact DL.rc_gcd
  | exact DL.rc_abs
  | exact DL.rc_max2
  | exact DL.rc_intV
  | exact DL.rc_intB
  | exact DL.rc_len_t
  | exact DL.rc_list_l
  | exact DL.rc_list_t
  | exact DL.rc_tup_l
  | exact DL.rc_len_l
  | (apply DL.rc_len_s
     · walk_at "side")
  | (apply DL.rc_str
     · walk_at "side")
  | assumption)
local macro_rules | `(tactic| walk_at "call") => `(tactic| first
  | exact ⟨_, rfl, by assumption, rfl⟩
  | exact ⟨_, rfl, rfl⟩
  | exact ⟨_, _, rfl, rfl⟩
  | assumption
  | fail "call: no contract")
local macro_rules | `(tactic| walk_at "ep") => `(tactic| first
  | with_reducible exact DL.ep_no
  | (with_reducible apply DL.ep_some
     · walk_at "ev"))
local macro_rules | `(tactic| walk_at "ev") => `(tactic| first
  | assumption
  | (with_reducible apply DL.ev_var
     · rfl)
  | with_reducible exact DL.ev_int
  | with_reducible exact DL.ev_str
  | with_reducible exact DL.ev_bl
  | with_reducible exact DL.ev_non
  | with_reducible exact DL.ea_nil
  | exact DL.ev_glob (by assumption)
  | (with_reducible apply DL.ev_op
     · walk_at "ev"
     · walk_at "ev"
     · walk_at "rd")
  | (with_reducible apply DL.ea_cons
     · walk_at "ev"
     · walk_at "ev")
  | (with_reducible apply DL.ev_sl
     · walk_at "ev"
     · walk_at "ep"
     · walk_at "ep"
     · first | exact DL.rs_s (by assumption) | exact DL.rs_l | exact DL.rs_t)
  | (with_reducible apply DL.ev_un
     · walk_at "ev"
     · with_reducible exact DL.ru_neg)
  | (with_reducible apply DL.ev_isiE
     · walk_at "ev"
     · first | rfl | assumption
     · first | rfl | assumption
     · rfl)
  | (with_reducible apply DL.ev_tupH
     · walk_at "ev"
     · walk_at "side")
  | (with_reducible apply DL.ev_lstH
     · walk_at "ev"
     · walk_at "side")
  | (with_reducible apply DL.ev_cb
     · walk_at "ev"
     · walk_at "rc")
  | (with_reducible apply DL.et_test
     · walk_at "ev")
  | (with_reducible apply DL.et_B
     · walk_at "ev")
  | (with_reducible apply DL.et_not
     · walk_at "ev")
  | (with_reducible apply DL.et_and
     · walk_at "ev"
     · (intro _; walk_at "ev"))
  | (with_reducible apply DL.et_or
     · walk_at "ev"
     · (intro _; walk_at "ev"))
  | (with_reducible apply DL.ev_xf
     · rfl
     · rfl)
  | (with_reducible apply DL.ev_chain
     · walk_at "ev"
     · walk_at "ev"
     · walk_at "rd"
     · (intro _; walk_at "ev")
     · (intro _; walk_at "rd"))
  | (with_reducible apply DL.ev_fld
     · walk_at "ev"
     · assumption
     · assumption
     · rfl)
  | (with_reducible apply DL.ev_isN
     · walk_at "ev")
  | (with_reducible apply DL.ev_notN
     · walk_at "ev")
  | (with_reducible apply DL.ev_andV
     · walk_at "ev"
     · (intro _; walk_at "ev"))
  | (with_reducible apply DL.ev_orV
     · walk_at "ev"
     · (intro _; walk_at "ev"))
  | (with_reducible apply DL.ev_notV
     · walk_at "ev")
  | (with_reducible apply DL.ev_callE
     · walk_at "ev"
     · walk_at "call"
     · rfl)
  | (with_reducible apply DL.ev_callSE
     · walk_at "ev"
     · walk_at "call"
     · rfl))
local macro_rules | `(tactic| walk_at "less") => `(tactic| (
  (try simp only [List.set_cons_zero, List.set_cons_succ])
  repeat (first | exact DL.less_nil | apply DL.less_same | apply DL.less_no)))
local macro_rules | `(tactic| walk_at "nat") => `(tactic| first
  | assumption
  | (with_reducible apply DL.ev_var
     · rfl)
  | exact DL.ev_int
  | (apply DL.en_ix
     · walk_at "nat"
     · walk_at "nat"
     · omega)
  | (apply DL.en_add
     · walk_at "nat"
     · walk_at "nat")
  | (apply DL.en_mod
     · walk_at "nat"
     · walk_at "nat"
     · omega)
  | (apply DL.en_div
     · walk_at "nat"
     · walk_at "nat"
     · omega
     · omega)
  | (apply DL.en_mul
     · walk_at "nat"
     · walk_at "nat"
     · first | decide | omega
     · first | decide | omega))

set_option Elab.async false
set_option linter.all false
set_option maxRecDepth 100000
set_option maxHeartbeats 4000000
set_option exponentiation.threshold 10000
/-! K74M: the law's costs -/
namespace K74
open PySem PySem.Spec PyProof.Rows L2 DL
section
variable {P : Program} {w : World} {K : PySem.W.Frag} {mg : Str → Option Value} {base : Heap} {Z0 Z1 CB CM CK TKC CX1 : Addr}

abbrev s__law_cost_of : Stmt := topS 60
theorem sc__law_cost_of : FnScope ["pay", "nodes", "hired", "total", "parent", "chance", "need", "rate", "missing"] ["pay", "nodes", "hired"] (defScope s__law_cost_of) := ⟨rfl, rfl, rfl, by decide +kernel, rfl, by decide +kernel, by decide +kernel⟩
def R_law_cost_of (ds : List PyData) (r : Res PyData) : Prop := ∃ (pay h : Q2) (ws : List Wk) (m : Nat), ds = [rat pay, .list (ws.map wkD), rat h] ∧ WkOk pay ws m ∧ Qz 20 h ∧ r = .ok (rat (cosF pay ws h))
def coDn (pay h : Q2) (ws : List Wk) (t : Q2) : Dn := [.val (rat pay), .val (.list (ws.map wkD)), .val (rat h), .val (rat t), .no, .no, .no, .no, .no]
theorem len__law_cost_of : ∀ ds r, R_law_cost_of ds r → ds.length = (["pay", "nodes", "hired"] : List Str).length := by
  rintro _ _ ⟨_, _, _, _, rfl, _⟩; rfl
theorem ok__law_cost_of (T : Tx K mg Z0 Z1) (D : DefAt K mg "_law_cost_of" s__law_cost_of []) (c__law_mul : CalX P w K mg base CX0 3 "_law_mul" [] (RQ 2100 fun a b => rat (qmul a b))) (c__law_below : CalX P w K mg base CX0 1 "_law_below" [] (RQ 2100 fun a b => .bool (decide (a.1 * b.2 < b.1 * a.2)))) (c__law_minus : CalX P w K mg base CX0 4 "_law_minus" [] (RQ 2000 fun a b => rat (qsub a b))) (c__law_add : CalX P w K mg base CX0 3 "_law_add" [] (RQ 2100 fun a b => rat (qadd a b))) : CalX P w K mg base CX0 5 "_law_cost_of" [] R_law_cost_of := by
  refine okN D (bind0 (fun _ _ _ _ _ _ us hl => match us, hl with | [_, _, _], _ => rfl)) sc__law_cost_of len__law_cost_of fun f cdv A outer s H Ex hr => ⟨_, (pss_cons (ps_set (i := 3) sc__law_cost_of.nd rfl (by first | exact Or.inl rfl | exact Or.inr rfl) (pe_cal c__law_mul hr (by decide) (fun σ => p0At σ) (pa_cons (pv 0) (pa_cons (pv 2) pa_nil))))
    (pss_cons (ps_for PassesOwn.never rfl (pi_list (pv 1)) (pg_tup (n := 4) (by rfl) (pgs_cons (pg_name (i := 4) sc__law_cost_of.nd rfl (by first | exact Or.inl rfl | exact Or.inr rfl)) (pgs_cons (pg_name (i := 5) sc__law_cost_of.nd rfl (by first | exact Or.inl rfl | exact Or.inr rfl)) (pgs_cons (pg_name (i := 6) sc__law_cost_of.nd rfl (by first | exact Or.inl rfl | exact Or.inr rfl)) (pgs_cons (pg_name (i := 7) sc__law_cost_of.nd rfl (by first | exact Or.inl rfl | exact Or.inr rfl)) pgs_nil))))) (pss_one (ps_if (pt_val (pe_cal c__law_below hr (by decide) (fun σ => p0At σ) (pa_cons (pv 2) (pa_cons (pv 6) pa_nil)))) (pss_cons (ps_set (i := 8) sc__law_cost_of.nd rfl (by first | exact Or.inl rfl | exact Or.inr rfl) (pe_cal c__law_minus hr (by decide) (fun σ => p0At σ) (pa_cons (pv 6) (pa_cons (pv 2) pa_nil))))
    (pss_one (ps_set (i := 3) sc__law_cost_of.nd rfl (by first | exact Or.inl rfl | exact Or.inr rfl) (pe_cal c__law_add hr (by decide) (fun σ => p0At σ) (pa_cons (pv 3) (pa_cons (pe_cal c__law_mul hr (by decide) (fun σ => p0At σ) (pa_cons (pe_cal c__law_mul hr (by decide) (fun σ => p0At σ) (pa_cons (pv 5) (pa_cons (pv 7) pa_nil))) (pa_cons (pv 8) pa_nil))) pa_nil)))))) pss_nil)))
    (pss_one (ps_ret (pv 3))))), ?_⟩

  rintro ds r ⟨pay, h, ws, m, rfl, o, hz, rfl⟩
  have l2 := o.l2
  have ats : ∀ {i : Nat} {d : PyData}, (ws.map wkD)[i]? = some d → i < ws.length ∧ d = wkD (ws.getD i default) := fun {i d} hd => by
    rw [List.getElem?_map] at hd
    cases hz : ws[i]? with
    | none => rw [hz] at hd; cases hd
    | some z =>
      rw [hz] at hd
      cases hd
      have hi := (List.getElem?_eq_some_iff.mp hz).1
      refine ⟨hi, ?_⟩
      rw [List.getD_eq_getElem?_getD, hz]; rfl
  have p0 : RQ 2100 (fun a b => rat (qmul a b)) [rat pay, rat h] (.ok (rat (qmul pay h))) := rq_mk (o.pay.qz.mono (by decide)) (hz.mono (by decide))
  refine en_seq (rn_asgE (ev_callWE (by walk_at "ev") p0 rfl) rfl) ?_
  refine en_seq (rn_loop (js := [4, 5, 6, 7]) (δ' := coDn pay h ws (cosF pay ws h)) (fun i => coDn pay h ws (cosN pay ws h i)) rfl (src_list (W := fun _ _ _ _ => False) (l := ws.map wkD) (ev_var rfl)) (fun i d _ hd => ?_) (by rw [List.length_map]; rfl)) (en_rt (rn_ret (ev_var rfl)) rfl)
  obtain ⟨hi, rfl⟩ := ats hd
  have a := (o.ch i hi).qz
  have b := (o.rate i hi).qz
  have nz := (o.need i hi).qz
  have q1 : RQ 2100 (fun a b => .bool (decide (a.1 * b.2 < b.1 * a.2))) [rat h, rat (ws.getD i default).need] (.ok (.bool (belB h (ws.getD i default).need))) := rq_mk (f := fun a b => .bool (decide (a.1 * b.2 < b.1 * a.2))) (hz.mono (by decide)) (nz.mono (by decide))
  have q2 : RQ 2100 (fun a b => rat (qmul a b)) [rat (ws.getD i default).ch, rat (ws.getD i default).rate] (.ok (rat (qmul (ws.getD i default).ch (ws.getD i default).rate))) := rq_mk (a.mono (by decide)) (b.mono (by decide))
  have q4 : RQ 2000 (fun a b => rat (qsub a b)) [rat (ws.getD i default).need, rat h] (.ok (rat (qsub (ws.getD i default).need h))) := rq_mk (nz.mono (by decide)) (hz.mono (by decide))
  have q5 : RQ 2100 (fun a b => rat (qmul a b)) [rat (qmul (ws.getD i default).ch (ws.getD i default).rate), rat (qsub (ws.getD i default).need h)] (.ok (rat (qmul (qmul (ws.getD i default).ch (ws.getD i default).rate) (qsub (ws.getD i default).need h)))) := rq_mk ((qmul_qz a b).mono (by decide)) ((qsub_qz nz hz).mono (by decide))
  have cq := cosN_qz o hz i (by omega)
  have q3 : RQ 2100 (fun a b => rat (qadd a b)) [rat (cosN pay ws h i), rat (qmul (qmul (ws.getD i default).ch (ws.getD i default).rate) (qsub (ws.getD i default).need h))] (.ok (rat (qadd (cosN pay ws h i) (qmul (qmul (ws.getD i default).ch (ws.getD i default).rate) (qsub (ws.getD i default).need h))))) := rq_mk (cq.mono (by omega)) ((qmul_qz (qmul_qz a b) (qsub_qz nz hz)).mono (by decide))
  rw [bel_cmp] at q1
  by_cases c : qcmp (ws.getD i default).need h > 0
  · rw [decide_eq_true c] at q1
    have e : cosN pay ws h (i + 1) = qadd (cosN pay ws h i) (qmul (qmul (ws.getD i default).ch (ws.getD i default).rate) (qsub (ws.getD i default).need h)) := by rw [cosN, if_pos c]
    rw [e]
    refine ⟨_, _, as_tup (as_cons as_name (as_cons as_name (as_cons as_name (as_cons as_name as_nil)))) rfl, rn_ifT' (et_B (ev_callWE (ea_cons (ev_var rfl) (ea_cons (ev_var rfl) ea_nil)) q1 rfl)) rfl (rn_seq (rn_asgE (ev_callWE (ea_cons (ev_var rfl) (ea_cons (ev_var rfl) ea_nil)) q4 rfl) rfl) (rn_asgE (ev_callWE (ea_cons (ev_var rfl) (ea_cons (ev_callWE (ea_cons (ev_callWE (ea_cons (ev_var rfl) (ea_cons (ev_var rfl) ea_nil)) q2 rfl) (ea_cons (ev_var rfl) ea_nil)) q5 rfl) ea_nil)) q3 rfl) rfl)), ?_⟩
    unfold coDn
    walk_at "less"
  · rw [decide_eq_false c] at q1
    have e : cosN pay ws h (i + 1) = cosN pay ws h i := by rw [cosN, if_neg c]
    rw [e]
    refine ⟨_, _, as_tup (as_cons as_name (as_cons as_name (as_cons as_name (as_cons as_name as_nil)))) rfl, rn_ifF' (et_B (ev_callWE (ea_cons (ev_var rfl) (ea_cons (ev_var rfl) ea_nil)) q1 rfl)) rfl rn_next, ?_⟩
    unfold coDn
    walk_at "less"
abbrev s__law_best_of : Stmt := topS 61
theorem sc__law_best_of : FnScope ["pay", "nodes", "best", "least", "parent", "chance", "need", "rate", "total"] ["pay", "nodes"] (defScope s__law_best_of) := ⟨rfl, rfl, rfl, by decide +kernel, rfl, by decide +kernel, by decide +kernel⟩
def R_law_best_of (ds : List PyData) (r : Res PyData) : Prop := ∃ (pay : Q2) (ws : List Wk) (m : Nat), ds = [rat pay, .list (ws.map wkD)] ∧ WkOk pay ws m ∧ r = .ok (.tuple [rat (lbF pay ws).1, rat (lbF pay ws).2])
def beDn (pay : Q2) (ws : List Wk) (t : Q2 × Q2) : Dn := [.val (rat pay), .val (.list (ws.map wkD)), .val (rat t.1), .val (rat t.2), .no, .no, .no, .no, .no]
theorem len__law_best_of : ∀ ds r, R_law_best_of ds r → ds.length = (["pay", "nodes"] : List Str).length := by
  rintro _ _ ⟨_, _, _, rfl, _⟩; rfl
theorem ok__law_best_of (T : Tx K mg Z0 Z1) (D : DefAt K mg "_law_best_of" s__law_best_of []) (c__law_cost_of : CalX P w K mg base CX0 5 "_law_cost_of" [] R_law_cost_of) (c__law_below : CalX P w K mg base CX0 1 "_law_below" [] (RQ 2100 fun a b => .bool (decide (a.1 * b.2 < b.1 * a.2)))) : CalX P w K mg base CX0 6 "_law_best_of" [] R_law_best_of := by
  refine okN D (bind0 (fun _ _ _ _ _ _ us hl => match us, hl with | [_, _], _ => rfl)) sc__law_best_of len__law_best_of fun f cdv A outer s H Ex hr => ⟨_, (pss_cons (ps_set (i := 2) sc__law_best_of.nd rfl (by first | exact Or.inl rfl | exact Or.inr rfl) (pe_tup (pa_cons pe_int (pa_cons pe_int pa_nil))))
    (pss_cons (ps_set (i := 3) sc__law_best_of.nd rfl (by first | exact Or.inl rfl | exact Or.inr rfl) (pe_cal c__law_cost_of hr (by decide) (fun σ => p0At σ) (pa_cons (pv 0) (pa_cons (pv 1) (pa_cons (pv 2) pa_nil)))))
    (pss_cons (ps_for PassesOwn.never rfl (pi_list (pv 1)) (pg_tup (n := 4) (by rfl) (pgs_cons (pg_name (i := 4) sc__law_best_of.nd rfl (by first | exact Or.inl rfl | exact Or.inr rfl)) (pgs_cons (pg_name (i := 5) sc__law_best_of.nd rfl (by first | exact Or.inl rfl | exact Or.inr rfl)) (pgs_cons (pg_name (i := 6) sc__law_best_of.nd rfl (by first | exact Or.inl rfl | exact Or.inr rfl)) (pgs_cons (pg_name (i := 7) sc__law_best_of.nd rfl (by first | exact Or.inl rfl | exact Or.inr rfl)) pgs_nil))))) (pss_cons (ps_set (i := 8) sc__law_best_of.nd rfl (by first | exact Or.inl rfl | exact Or.inr rfl) (pe_cal c__law_cost_of hr (by decide) (fun σ => p0At σ) (pa_cons (pv 0) (pa_cons (pv 1) (pa_cons (pv 6) pa_nil)))))
    (pss_one (ps_if (PW.pt (pw_or (pt_val (pe_cal c__law_below hr (by decide) (fun σ => p0At σ) (pa_cons (pv 8) (pa_cons (pv 3) pa_nil)))) (pw_or1 (PW.pt (pw_and (pt_cmpR (op_eqU (hu64 hr)) (pv 8) (pv 3) (nomark _)) (pw_and1 (pt_val (pe_cal c__law_below hr (by decide) (fun σ => p0At σ) (pa_cons (pv 6) (pa_cons (pv 2) pa_nil)))))))))) (pss_cons (ps_set (i := 2) sc__law_best_of.nd rfl (by first | exact Or.inl rfl | exact Or.inr rfl) (pv 6))
    (pss_one (ps_set (i := 3) sc__law_best_of.nd rfl (by first | exact Or.inl rfl | exact Or.inr rfl) (pv 8)))) pss_nil))))
    (pss_one (ps_ret (pe_tup (pa_cons (pv 2) (pa_cons (pv 3) pa_nil)))))))), ?_⟩

  rintro ds r ⟨pay, ws, m, rfl, o, rfl⟩
  have l2 := o.l2
  have ats : ∀ {i : Nat} {d : PyData}, (ws.map wkD)[i]? = some d → i < ws.length ∧ d = wkD (ws.getD i default) := fun {i d} hd => by
    rw [List.getElem?_map] at hd
    cases hz : ws[i]? with
    | none => rw [hz] at hd; cases hd
    | some z =>
      rw [hz] at hd
      cases hd
      have hi := (List.getElem?_eq_some_iff.mp hz).1
      refine ⟨hi, ?_⟩
      rw [List.getD_eq_getElem?_getD, hz]; rfl
  have cq : ∀ h, Qz 20 h → R_law_cost_of [rat pay, .list (ws.map wkD), rat h] (.ok (rat (cosF pay ws h))) := fun h hz => ⟨pay, h, ws, m, rfl, o, hz, rfl⟩
  refine en_seq (rn_asgE (d := rat (0, 1)) (by walk_at "ev") rfl) ?_
  refine en_seq (rn_asgE (ev_callWE (ea_cons (ev_var rfl) (ea_cons (ev_var rfl) (ea_cons (ev_var rfl) ea_nil))) (cq (0, 1) (z_qz.mono (by decide))) rfl) rfl) ?_
  refine en_seq (rn_loop (js := [4, 5, 6, 7]) (δ' := beDn pay ws (lbF pay ws)) (fun i => beDn pay ws (lbN pay ws i)) rfl (src_list (W := fun _ _ _ _ => False) (l := ws.map wkD) (ev_var rfl)) (fun i d _ hd => ?_) (by rw [List.length_map]; rfl)) (en_rt (rn_ret (ev_tupH (ea_cons (ev_var rfl) (ea_cons (ev_var rfl) ea_nil)) (by show 2 ≤ sizeLine; decide))) rfl)
  obtain ⟨hi, rfl⟩ := ats hd
  have nz := (o.need i hi).qz
  have n20 := nz.mono (show 6 ≤ 20 by decide)
  have bz := lbN_qz o (k := i) (by omega)
  have lz : Qz 1600 (lbN pay ws i).2 := by rw [(lbN_in i (by omega)).2]; exact cosF_qz o bz
  have q1 : RQ 2100 (fun a b => .bool (decide (a.1 * b.2 < b.1 * a.2))) [rat (cosF pay ws (ws.getD i default).need), rat (lbN pay ws i).2] (.ok (.bool (belB (cosF pay ws (ws.getD i default).need) (lbN pay ws i).2))) := rq_mk (f := fun a b => .bool (decide (a.1 * b.2 < b.1 * a.2))) ((cosF_qz o n20).mono (by decide)) (lz.mono (by decide))
  have q2 : RQ 2100 (fun a b => .bool (decide (a.1 * b.2 < b.1 * a.2))) [rat (ws.getD i default).need, rat (lbN pay ws i).1] (.ok (.bool (belB (ws.getD i default).need (lbN pay ws i).1))) := rq_mk (f := fun a b => .bool (decide (a.1 * b.2 < b.1 * a.2))) (nz.mono (by decide)) (bz.mono (by decide))
  have ee := eqv_rat (cosF pay ws (ws.getD i default).need) (lbN pay ws i).2
  have es : lbN pay ws (i + 1) = cond (belB (cosF pay ws (ws.getD i default).need) (lbN pay ws i).2 || (decide (cosF pay ws (ws.getD i default).need = (lbN pay ws i).2) && belB (ws.getD i default).need (lbN pay ws i).1)) ((ws.getD i default).need, cosF pay ws (ws.getD i default).need) (lbN pay ws i) := rfl
  have cq1 := cq _ n20
  rw [es]
  generalize cosF pay ws (ws.getD i default).need = t at *
  generalize lbN pay ws i = s at *
  cases hb : (belB t s.2 || (decide (t = s.2) && belB (ws.getD i default).need s.1)) with
  | true =>
    refine ⟨_, _, as_tup (as_cons as_name (as_cons as_name (as_cons as_name (as_cons as_name as_nil)))) rfl, rn_seq (rn_asgE (ev_callWE (ea_cons (ev_var rfl) (ea_cons (ev_var rfl) (ea_cons (ev_var rfl) ea_nil))) cq1 rfl) rfl) (rn_ifT' (et_or (et_B (ev_callWE (ea_cons (ev_var rfl) (ea_cons (ev_var rfl) ea_nil)) q1 rfl)) fun _ => et_and (et_test (ev_op (ev_var rfl) (ev_var rfl) (rd_eqX (shaped_rat _) (shaped_rat _)))) fun _ => et_B (ev_callWE (ea_cons (ev_var rfl) (ea_cons (ev_var rfl) ea_nil)) q2 rfl)) (by rw [ee]; exact hb) (rn_seq (rn_asgE (ev_var rfl) rfl) (rn_asgE (ev_var rfl) rfl))), ?_⟩
    unfold beDn
    walk_at "less"
  | false =>
    refine ⟨_, _, as_tup (as_cons as_name (as_cons as_name (as_cons as_name (as_cons as_name as_nil)))) rfl, rn_seq (rn_asgE (ev_callWE (ea_cons (ev_var rfl) (ea_cons (ev_var rfl) (ea_cons (ev_var rfl) ea_nil))) cq1 rfl) rfl) (rn_ifF' (et_or (et_B (ev_callWE (ea_cons (ev_var rfl) (ea_cons (ev_var rfl) ea_nil)) q1 rfl)) fun _ => et_and (et_test (ev_op (ev_var rfl) (ev_var rfl) (rd_eqX (shaped_rat _) (shaped_rat _)))) fun _ => et_B (ev_callWE (ea_cons (ev_var rfl) (ea_cons (ev_var rfl) ea_nil)) q2 rfl)) (by rw [ee]; exact hb) rn_next), ?_⟩
    unfold beDn
    walk_at "less"
end
end K74
end
set_option Elab.async false
set_option linter.all false
set_option maxRecDepth 100000
set_option maxHeartbeats 4000000
/-! PG: the least best number of hands, plain. -/
namespace DL
open PySem PySem.Spec PyProof.Rows L2
theorem max_ex (v : Nat → Rat) (P : Nat → Prop) : ∀ n, (∃ j, j < n ∧ P j) → ∃ j, j < n ∧ P j ∧ ∀ i, i < n → P i → v i ≤ v j
  | 0, ⟨j, h, _⟩ => by omega
  | n + 1, ⟨j, hj, hp⟩ => by
    by_cases e : ∃ j, j < n ∧ P j
    · obtain ⟨m, h1, h2, h3⟩ := max_ex v P n e
      by_cases pn : P n ∧ ¬ v n ≤ v m
      · refine ⟨n, by omega, pn.1, fun i hi pi => ?_⟩
        by_cases z : i = n
        · subst z; exact Rat.le_refl
        · have := h3 i (by omega) pi
          have := pn.2
          grind
      · refine ⟨m, by omega, h2, fun i hi pi => ?_⟩
        by_cases z : i = n
        · subst z
          exact Classical.byContradiction fun h => pn ⟨pi, h⟩
        · exact h3 i (by omega) pi
    · have jn : j = n := by
        refine Classical.byContradiction fun h => e ⟨j, by omega, hp⟩
      subst jn
      refine ⟨j, by omega, hp, fun i hi pi => ?_⟩
      by_cases z : i = j
      · subst z; exact Rat.le_refl
      · exact absurd ⟨i, by omega, pi⟩ e
/-- a piece: weight, need -/
def svR (c n : Nat → Rat) (h : Rat) : Nat → Rat
  | 0 => 0
  | k + 1 => svR c n h k + if h < n k then c k else 0
def coR (p : Rat) (c n : Nat → Rat) (h : Rat) : Nat → Rat
  | 0 => p * h
  | k + 1 => coR p c n h k + if h < n k then c k * (n k - h) else 0
theorem co_above {p : Rat} {c n : Nat → Rat} (x h : Rat) : ∀ k, (∀ i, i < k → 0 ≤ c i) → coR p c n x k + (p - svR c n x k) * (h - x) ≤ coR p c n h k
  | 0, _ => by
    show p * x + (p - 0) * (h - x) ≤ p * h
    grind
  | k + 1, hc => by
    have i := co_above (p := p) (c := c) (n := n) x h k fun i hi => hc i (by omega)
    have c0 := hc k (by omega)
    rw [coR, coR, svR]
    by_cases a : x < n k
    · rw [if_pos a, if_pos a]
      by_cases b : h < n k
      · rw [if_pos b]; grind
      · rw [if_neg b]
        have : 0 ≤ c k * (h - n k) := Rat.mul_nonneg c0 (by grind)
        grind
    · rw [if_neg a, if_neg a]
      by_cases b : h < n k
      · rw [if_pos b]
        have : 0 ≤ c k * (n k - h) := Rat.mul_nonneg c0 (by grind)
        grind
      · rw [if_neg b]; grind
theorem co_line {p : Rat} {c n : Nat → Rat} {x y : Rat} (hxy : x ≤ y) : ∀ k, (∀ i, i < k → x < n i → y ≤ n i) → coR p c n y k = coR p c n x k + (p - svR c n x k) * (y - x)
  | 0, _ => by
    show p * y = p * x + (p - 0) * (y - x)
    grind
  | k + 1, hc => by
    have i := co_line (p := p) (c := c) hxy k fun i hi => hc i (by omega)
    have c0 := hc k (by omega)
    rw [coR, coR, svR]
    by_cases a : x < n k
    · have q := c0 a
      rw [if_pos a, if_pos a]
      by_cases b : y < n k
      · rw [if_pos b]; grind
      · rw [if_neg b]
        have : n k = y := by grind
        rw [i, this]; grind
    · rw [if_neg a, if_neg a, if_neg (by grind)]
      grind
theorem sv_zero {c n : Nat → Rat} {h : Rat} : ∀ k, (∀ i, i < k → n i ≤ h) → svR c n h k = 0
  | 0, _ => rfl
  | k + 1, hc => by
    have := hc k (by omega)
    rw [svR, sv_zero k fun i hi => hc i (by omega), if_neg (by grind)]
    grind
section
variable {pay : Q2} {ws : List Wk} {m : Nat}
def cR (ws : List Wk) (i : Nat) : Rat := rv (ws.getD i default).ch * rv (ws.getD i default).rate
def nR (ws : List Wk) (i : Nat) : Rat := rv (ws.getD i default).need
theorem rv_pos {a : Q2} (h : Nf a) (p : 0 < a.1) : 0 < rv a := by
  have := (rv_lt (a := ((0, 1) : Q2)) (b := a) (by decide) h.pos).mpr (by show (0 : Int) * _ < _ * 1; omega)
  have z : rv ((0, 1) : Q2) = 0 := by show ((0 : Int) : Rat) / ((1 : Int) : Rat) = 0; decide +kernel
  rwa [z] at this
theorem rv_zero : rv ((0, 1) : Q2) = 0 := by show ((0 : Int) : Rat) / ((1 : Int) : Rat) = 0; decide +kernel
theorem rv_nonneg {a : Q2} (h : Nf a) (p : 0 ≤ a.1) : 0 ≤ rv a := by
  rcases Int.lt_or_eq_of_le p with q | q
  · have := rv_pos h q; grind
  · unfold rv
    rw [← q]
    have : ((0 : Int) : Rat) = 0 := rfl
    rw [this]; grind
theorem sav_rv (o : WkOk pay ws m) {h : Q2} (hh : Nf h) : ∀ k, k ≤ ws.length → Nf (savN ws h k) ∧ rv (savN ws h k) = svR (cR ws) (nR ws) (rv h) k
  | 0, _ => ⟨(⟨by decide, by decide⟩ : Nf ((0, 1) : Q2)), rv_zero⟩
  | k + 1, hk => by
    obtain ⟨a, b⟩ := sav_rv o hh k (by omega)
    have n := (o.need k (by omega)).nf
    have c := (o.ch k (by omega)).nf
    have r := (o.rate k (by omega)).nf
    rw [savN, svR]
    have q : 0 < qcmp (ws.getD k default).need h ↔ rv h < nR ws k := qcmp_pos (a := (ws.getD k default).need) (b := h) n.pos hh.pos
    by_cases e : qcmp (ws.getD k default).need h > 0
    · rw [if_pos e, if_pos (q.mp e)]
      refine ⟨qadd_nf' a (qmul_nf c.ne r.ne), ?_⟩
      rw [rv_add a.ne (qmul_nf c.ne r.ne).ne, rv_mul c.ne r.ne, b]; rfl
    · rw [if_neg e, if_neg fun z => e (q.mpr z)]
      exact ⟨a, by rw [b]; grind⟩
theorem cos_rv (o : WkOk pay ws m) {h : Q2} (hh : Nf h) : ∀ k, k ≤ ws.length → Nf (cosN pay ws h k) ∧ rv (cosN pay ws h k) = coR (rv pay) (cR ws) (nR ws) (rv h) k
  | 0, _ => ⟨qmul_nf o.pay.nf.ne hh.ne, rv_mul o.pay.nf.ne hh.ne⟩
  | k + 1, hk => by
    obtain ⟨a, b⟩ := cos_rv o hh k (by omega)
    have n := (o.need k (by omega)).nf
    have c := (o.ch k (by omega)).nf
    have r := (o.rate k (by omega)).nf
    rw [cosN, coR]
    have q : 0 < qcmp (ws.getD k default).need h ↔ rv h < nR ws k := qcmp_pos (a := (ws.getD k default).need) (b := h) n.pos hh.pos
    by_cases e : qcmp (ws.getD k default).need h > 0
    · rw [if_pos e, if_pos (q.mp e)]
      have m1 := qmul_nf c.ne r.ne
      have m2 := qsub_nf n.ne hh.ne
      refine ⟨qadd_nf' a (qmul_nf m1.ne m2.ne), ?_⟩
      rw [rv_add a.ne (qmul_nf m1.ne m2.ne).ne, rv_mul m1.ne m2.ne, rv_mul c.ne r.ne, rv_sub n.ne hh.ne, b]; rfl
    · rw [if_neg e, if_neg fun z => e (q.mpr z)]
      exact ⟨a, by rw [b]; grind⟩
def cd (ws : List Wk) (j : Nat) : Q2 := (candF ws).getD j (0, 1)
theorem cd_zero (ws : List Wk) : cd ws 0 = (0, 1) := rfl
theorem cd_succ (ws : List Wk) {j : Nat} (h : j < ws.length) : cd ws (j + 1) = (ws.getD j default).need := by
  show (ws.map (·.need)).getD j (0, 1) = _
  rw [getD_map (a := default) h]
theorem cd_ok (o : WkOk pay ws m) {j : Nat} (h : j < ws.length + 1) : Non0 6 (cd ws j) := by
  cases j with
  | zero => exact ⟨⟨by show (0 : Int) < 1; decide, by show Nat.gcd 0 1 = 1; decide⟩, by show (0 : Int) ≤ 0; decide, z_qz.mono (by decide)⟩
  | succ j => rw [cd_succ ws (by omega)]; exact o.need j (by omega)
def good (pay : Q2) (ws : List Wk) (c : Q2) : Prop := svR (cR ws) (nR ws) (rv c) ws.length ≤ rv pay
theorem good_iff (o : WkOk pay ws m) {c : Q2} (hc : Nf c) : decide (qcmp pay (savF ws c) ≥ 0) = true ↔ good pay ws c := by
  obtain ⟨a, b⟩ := sav_rv o hc ws.length (Nat.le_refl _)
  unfold good
  rw [← b, decide_eq_true_iff]
  have q := qcmp_neg (a := pay) (b := savF ws c) o.pay.nf.pos a.pos
  constructor
  · intro h
    have : ¬ rv pay < rv (savF ws c) := fun z => by have := q.mpr z; omega
    show rv (savF ws c) ≤ _
    grind
  · intro h
    have : ¬ qcmp pay (savF ws c) < 0 := fun z => by
      have := q.mp z
      have h' : rv (savF ws c) ≤ rv pay := h
      grind
    omega
theorem bst_spec (o : WkOk pay ws m) : ∀ k, k ≤ ws.length + 1 → (match bstN pay ws k with
    | none => ∀ j, j < k → ¬ good pay ws (cd ws j)
    | some b => (∃ j, j < k ∧ b = cd ws j) ∧ good pay ws b ∧ ∀ j, j < k → good pay ws (cd ws j) → rv b ≤ rv (cd ws j))
  | 0, _ => fun j hj => by omega
  | k + 1, hk => by
    have i := bst_spec o k (by omega)
    have ck := (cd_ok o (j := k) (by omega)).nf
    have gi := good_iff o ck
    show (match cond (decide (qcmp pay (savF ws (cd ws k)) ≥ 0) && btB (cd ws k) (bstN pay ws k)) (some (cd ws k)) (bstN pay ws k) with
      | none => ∀ j, j < k + 1 → ¬ good pay ws (cd ws j)
      | some b => (∃ j, j < k + 1 ∧ b = cd ws j) ∧ good pay ws b ∧ ∀ j, j < k + 1 → good pay ws (cd ws j) → rv b ≤ rv (cd ws j))
    cases hb : bstN pay ws k with
    | none =>
      rw [hb] at i
      cases hg : decide (qcmp pay (savF ws (cd ws k)) ≥ 0) with
      | true =>
        refine ⟨⟨k, by omega, rfl⟩, gi.mp hg, fun j hj gj => ?_⟩
        by_cases z : j = k
        · subst z; exact Rat.le_refl
        · exact absurd gj (i j (by omega))
      | false =>
        intro j hj
        by_cases z : j = k
        · subst z
          intro g
          rw [gi.mpr g] at hg; cases hg
        · exact i j (by omega)
    | some b =>
      rw [hb] at i
      obtain ⟨⟨j0, hj0, eb⟩, gb, lb⟩ := i
      have nb : Nf b := by rw [eb]; exact (cd_ok o (by omega)).nf
      rw [btB_some]
      have q := qcmp_neg (a := cd ws k) (b := b) ck.pos nb.pos
      cases hg : decide (qcmp pay (savF ws (cd ws k)) ≥ 0) with
      | true =>
        by_cases hl : qcmp (cd ws k) b < 0
        · rw [decide_eq_true hl]
          refine ⟨⟨k, by omega, rfl⟩, gi.mp hg, fun j hj gj => ?_⟩
          have := q.mp hl
          by_cases z : j = k
          · subst z; exact Rat.le_refl
          · have := lb j (by omega) gj
            grind
        · rw [decide_eq_false hl]
          refine ⟨⟨j0, by omega, eb⟩, gb, fun j hj gj => ?_⟩
          by_cases z : j = k
          · subst z
            have : ¬ rv (cd ws j) < rv b := fun w => hl (q.mpr w)
            grind
          · exact lb j (by omega) gj
      | false =>
        refine ⟨⟨j0, by omega, eb⟩, gb, fun j hj gj => ?_⟩
        by_cases z : j = k
        · subst z
          rw [gi.mpr gj] at hg; cases hg
        · exact lb j (by omega) gj
def fR (pay : Q2) (ws : List Wk) (h : Rat) : Rat := coR (rv pay) (cR ws) (nR ws) h ws.length
theorem lb_spec (o : WkOk pay ws m) : ∀ k, k ≤ ws.length → (∃ j, j < k + 1 ∧ (lbN pay ws k).1 = cd ws j) ∧ (lbN pay ws k).2 = cosF pay ws (lbN pay ws k).1 ∧ ∀ j, j < k + 1 → fR pay ws (rv (lbN pay ws k).1) < fR pay ws (rv (cd ws j)) ∨ (fR pay ws (rv (lbN pay ws k).1) = fR pay ws (rv (cd ws j)) ∧ rv (lbN pay ws k).1 ≤ rv (cd ws j))
  | 0, _ => ⟨⟨0, by omega, rfl⟩, rfl, fun j hj => by
    have : j = 0 := by omega
    subst this
    exact .inr ⟨rfl, Rat.le_refl⟩⟩
  | k + 1, hk => by
    obtain ⟨⟨j0, hj0, e0⟩, ec, hm⟩ := lb_spec o k (by omega)
    have nk := (o.need k (by omega)).nf
    have ek := cd_succ ws (j := k) (by omega)
    have nb : Nf (lbN pay ws k).1 := by rw [e0]; exact (cd_ok o (by omega)).nf
    obtain ⟨c1, c2⟩ := cos_rv o nk ws.length (Nat.le_refl _)
    obtain ⟨c3, c4⟩ := cos_rv o nb ws.length (Nat.le_refl _)
    have f1 : rv (cosF pay ws (ws.getD k default).need) = fR pay ws (rv (ws.getD k default).need) := c2
    have f2 : rv (lbN pay ws k).2 = fR pay ws (rv (lbN pay ws k).1) := by rw [ec]; exact c4
    have n3 : Nf (lbN pay ws k).2 := by rw [ec]; exact c3
    have n1 : Nf (cosF pay ws (ws.getD k default).need) := c1
    have q1 := rv_lt (a := cosF pay ws (ws.getD k default).need) (b := (lbN pay ws k).2) n1.pos n3.pos
    have q2 := rv_lt (a := (ws.getD k default).need) (b := (lbN pay ws k).1) nk.pos nb.pos
    rw [f1, f2] at q1
    have q3 : cosF pay ws (ws.getD k default).need = (lbN pay ws k).2 ↔ fR pay ws (rv (ws.getD k default).need) = fR pay ws (rv (lbN pay ws k).1) := by
      constructor
      · intro h; rw [← f1, ← f2, h]
      · intro h; exact nf_ext n1 n3 (by rw [f1, f2, h])
    rw [lbN]
    by_cases t1 : fR pay ws (rv (ws.getD k default).need) < fR pay ws (rv (lbN pay ws k).1)
    · have hb : (belB (cosF pay ws (ws.getD k default).need) (lbN pay ws k).2 || (decide (cosF pay ws (ws.getD k default).need = (lbN pay ws k).2) && belB (ws.getD k default).need (lbN pay ws k).1)) = true := by
        rw [Bool.or_eq_true]; exact .inl (decide_eq_true (q1.mp t1))
      rw [hb]
      refine ⟨⟨k + 1, by omega, ek.symm⟩, rfl, fun j hj => ?_⟩
      show fR pay ws (rv (ws.getD k default).need) < _ ∨ (fR pay ws (rv (ws.getD k default).need) = _ ∧ rv (ws.getD k default).need ≤ _)
      by_cases z : j = k + 1
      · subst z; rw [ek]; exact .inr ⟨rfl, Rat.le_refl⟩
      · rcases hm j (by omega) with h | ⟨h, _⟩
        · exact .inl (by grind)
        · exact .inl (by grind)
    · have b1 : belB (cosF pay ws (ws.getD k default).need) (lbN pay ws k).2 = false := decide_eq_false fun h => t1 (q1.mpr h)
      by_cases t2 : fR pay ws (rv (ws.getD k default).need) = fR pay ws (rv (lbN pay ws k).1) ∧ rv (ws.getD k default).need < rv (lbN pay ws k).1
      · have hb : (belB (cosF pay ws (ws.getD k default).need) (lbN pay ws k).2 || (decide (cosF pay ws (ws.getD k default).need = (lbN pay ws k).2) && belB (ws.getD k default).need (lbN pay ws k).1)) = true := by
          rw [Bool.or_eq_true, Bool.and_eq_true]; exact .inr ⟨decide_eq_true (q3.mpr t2.1), decide_eq_true (q2.mp t2.2)⟩
        rw [hb]
        refine ⟨⟨k + 1, by omega, ek.symm⟩, rfl, fun j hj => ?_⟩
        show fR pay ws (rv (ws.getD k default).need) < _ ∨ (fR pay ws (rv (ws.getD k default).need) = _ ∧ rv (ws.getD k default).need ≤ _)
        obtain ⟨t3, t4⟩ := t2
        by_cases z : j = k + 1
        · subst z; rw [ek]; exact .inr ⟨rfl, Rat.le_refl⟩
        · rcases hm j (by omega) with h | ⟨h, h'⟩
          · exact .inl (by grind)
          · exact .inr ⟨by grind, by grind⟩
      · have hb : (belB (cosF pay ws (ws.getD k default).need) (lbN pay ws k).2 || (decide (cosF pay ws (ws.getD k default).need = (lbN pay ws k).2) && belB (ws.getD k default).need (lbN pay ws k).1)) = false := by
          rw [b1, Bool.false_or, Bool.and_eq_false_iff]
          by_cases t3 : fR pay ws (rv (ws.getD k default).need) = fR pay ws (rv (lbN pay ws k).1)
          · exact .inr (decide_eq_false fun h => t2 ⟨t3, q2.mpr h⟩)
          · exact .inl (decide_eq_false fun h => t3 (q3.mp h))
        rw [hb]
        refine ⟨⟨j0, by omega, e0⟩, ec, fun j hj => ?_⟩
        show fR pay ws (rv (lbN pay ws k).1) < _ ∨ (fR pay ws (rv (lbN pay ws k).1) = _ ∧ rv (lbN pay ws k).1 ≤ _)
        by_cases z : j = k + 1
        · subst z
          rw [ek]
          by_cases t3 : fR pay ws (rv (ws.getD k default).need) = fR pay ws (rv (lbN pay ws k).1)
          · have : ¬ rv (ws.getD k default).need < rv (lbN pay ws k).1 := fun h => t2 ⟨t3, h⟩
            exact .inr ⟨t3.symm, by grind⟩
          · exact .inl (by grind)
        · exact hm j (by omega)
theorem cR_pos (o : WkOk pay ws m) {i : Nat} (hi : i < ws.length) : 0 ≤ cR ws i := by
  have a := rv_pos (o.ch i hi).nf (o.ch i hi).pos
  have b := rv_pos (o.rate i hi).nf (o.rate i hi).pos
  exact Rat.mul_nonneg (by grind) (by grind)
/-- the least best number -/
theorem best_all (o : WkOk pay ws m) : ∃ b, bstF pay ws = some b ∧ lbF pay ws = (b, cosF pay ws b) ∧ Non0 6 b ∧ ∀ h : Q2, Nf h → 0 ≤ h.1 → rv h < rv b → rv (cosF pay ws b) < rv (cosF pay ws h) := by
  have sp := bst_spec o (ws.length + 1) (Nat.le_refl _)
  obtain ⟨M, hM, _, top⟩ := max_ex (fun j => rv (cd ws j)) (fun _ => True) (ws.length + 1) ⟨0, by omega, trivial⟩
  have gM : good pay ws (cd ws M) := by
    unfold good
    rw [sv_zero ws.length fun i hi => by
      have := top (i + 1) (by omega) trivial
      rw [cd_succ ws hi] at this
      exact this]
    have := rv_pos o.pay.nf o.pay.pos
    grind
  cases hb : bstN pay ws (ws.length + 1) with
  | none =>
    rw [hb] at sp
    exact absurd gM (sp M hM)
  | some b =>
    rw [hb] at sp
    obtain ⟨⟨j0, hj0, eb⟩, gb, lb⟩ := sp
    have nb : Non0 6 b := by rw [eb]; exact cd_ok o hj0
    have cp : ∀ i, i < ws.length → 0 ≤ cR ws i := fun i hi => cR_pos o hi
    have below : ∀ h : Rat, 0 ≤ h → h < rv b → fR pay ws (rv b) < fR pay ws h := fun h h0 hl => by
      obtain ⟨x, hx, px, mx⟩ := max_ex (fun j => rv (cd ws j)) (fun j => rv (cd ws j) < rv b) (ws.length + 1) ⟨0, by omega, by show rv (cd ws 0) < _; rw [cd_zero, rv_zero]; grind⟩
      have px' : rv (cd ws x) < rv b := px
      have ng : ¬ good pay ws (cd ws x) := fun g => by
        have := lb x hx g
        grind
      unfold good at ng
      have l2 := co_line (p := rv pay) (c := cR ws) (n := nR ws) (x := rv (cd ws x)) (y := rv b) (by grind) ws.length fun i hi hxi => by
        refine Classical.byContradiction fun hh => ?_
        have q := mx (i + 1) (by omega) (by show rv (cd ws (i + 1)) < _; rw [cd_succ ws hi]; unfold nR at hh hxi; grind)
        rw [cd_succ ws hi] at q
        unfold nR at hxi
        grind
      have l1 := co_above (p := rv pay) (c := cR ws) (n := nR ws) (rv (cd ws x)) h ws.length cp
      unfold fR
      rw [l2]
      generalize svR (cR ws) (nR ws) (rv (cd ws x)) ws.length = S at *
      have : 0 < (S - rv pay) * (rv b - h) := Rat.mul_pos (by grind) (by grind)
      grind
    have above : ∀ h : Rat, rv b ≤ h → fR pay ws (rv b) ≤ fR pay ws h := fun h hl => by
      have l1 := co_above (p := rv pay) (c := cR ws) (n := nR ws) (rv b) h ws.length cp
      unfold good at gb
      unfold fR
      have : 0 ≤ (rv pay - svR (cR ws) (nR ws) (rv b) ws.length) * (h - rv b) := Rat.mul_nonneg (by grind) (by grind)
      grind
    obtain ⟨⟨j1, hj1, e1⟩, ec, hm⟩ := lb_spec o ws.length (Nat.le_refl _)
    have n1 := cd_ok o hj1
    have eq : (lbN pay ws ws.length).1 = b := by
      have w := hm j0 hj0
      rw [← eb] at w
      have nn : 0 ≤ rv (lbN pay ws ws.length).1 := by rw [e1]; exact rv_nonneg n1.nf n1.pos
      have rr : rv (lbN pay ws ws.length).1 = rv b := by
        by_cases z : rv (lbN pay ws ws.length).1 < rv b
        · have := below _ nn z
          grind
        · have := above (rv (lbN pay ws ws.length).1) (by grind)
          grind
      exact nf_ext (by rw [e1]; exact n1.nf) nb.nf rr
    refine ⟨b, hb, ?_, nb, fun h hn h0 hl => ?_⟩
    · unfold lbF
      rw [← eq, ← ec]
    · have := below (rv h) (rv_nonneg hn h0) hl
      have c1 := (cos_rv o nb.nf ws.length (Nat.le_refl _)).2
      have c2 := (cos_rv o hn ws.length (Nat.le_refl _)).2
      show rv (cosN pay ws b ws.length) < rv (cosN pay ws h ws.length)
      rw [c1, c2]; exact this
end
end DL
section
/-! ### the reading tactics -/
local macro_rules | `(tactic| walk_at "sz") => `(tactic| first
  | assumption
  | (apply DL.Sz.neg
     · walk_at "sz")
  | (apply DL.Sz.mul
     · walk_at "sz"
     · walk_at "sz")
  | (apply DL.Sz.add
     · walk_at "sz"
     · walk_at "sz")
  | (apply DL.Sz.sub
     · walk_at "sz"
     · walk_at "sz")
  | (apply DL.Sz.fmod
     · decide
     · walk_at "sz")
  | exact DL.Sz.self)
local macro_rules | `(tactic| walk_at "side") => `(tactic| first
  | assumption
  | (apply DL.cmulW_of
     · walk_at "sz"
     · walk_at "sz"
     · first | decide +kernel | omega)
  | rfl
  | decide
  | omega
  | (simp only [List.length_cons, List.length_nil]; decide)
  | (simp; done)
  | (simp only [PySem.sizeLine_eq, List.length_cons, List.length_nil]; omega))
local macro_rules | `(tactic| walk_at "rd") => `(tactic| first
  | exact DL.rd_addI
  | exact DL.rd_sub
  | exact DL.rd_mulL (by decide) (by decide)
  | exact DL.rd_mulR (by decide) (by decide)
  | (refine DL.rd_mulI ?_
     · walk_at "side")
  | exact DL.rd_pow ⟨by decide, by decide, by decide⟩
  | exact DL.rd_mod (by show (_ : Int) ≠ _; first | decide | assumption)
  | exact DL.rd_ix_T rfl
  | exact DL.rd_ix_L rfl
  | exact DL.rd_eqI
  | exact DL.rd_inC
  | exact DL.rd_niC
  | exact DL.rd_ix_S (by assumption) (by assumption)
  | exact DL.rd_neI
  | exact DL.rd_eqT
  | exact DL.rd_neT
  | exact DL.rd_eqB
  | exact DL.rd_I0b
  | (refine DL.rd_addS ?_
     · walk_at "side")
  | (refine DL.rd_addT ?_
     · walk_at "side")
  | (refine DL.rd_fdiv ?_ ?_
     · walk_at "side"
     · walk_at "side")
  | (refine DL.rd_mod ?_
     · walk_at "side")
  | assumption)
local macro_rules | `(tactic| walk_at "rc") => `(tactic| first
  | exact DL.rc_gcd
  | exact DL.rc_abs
  | exact DL.rc_max2
  | exact DL.rc_intV
  | exact DL.rc_intB
  | exact DL.rc_len_t
  | exact DL.rc_list_l
  | exact DL.rc_list_t
  | exact DL.rc_tup_l
  | exact DL.rc_len_l
  | (apply DL.rc_len_s
     · walk_at "side")
  | (apply DL.rc_str
     · walk_at "side")
  | assumption)
local macro_rules | `(tactic| walk_at "call") => `(tactic| first
  | exact ⟨_, rfl, by assumption, rfl⟩
  | exact ⟨_, rfl, rfl⟩
  | exact ⟨_, _, rfl, rfl⟩
  | assumption
  | fail "call: no contract")
local macro_rules | `(tactic| walk_at "ep") => `(tactic| first
  | with_reducible exact DL.ep_no
  | (with_reducible apply DL.ep_some
     · walk_at "ev"))
local macro_rules | `(tactic| walk_at "ev") => `(tactic| first
  | assumption
  | (with_reducible apply DL.ev_var
     · rfl)
  | with_reducible exact DL.ev_int
  | with_reducible exact DL.ev_str
  | with_reducible exact DL.ev_bl
  | with_reducible exact DL.ev_non
  | with_reducible exact DL.ea_nil
  | exact DL.ev_glob (by assumption)
  | (with_reducible apply DL.ev_op
     · walk_at "ev"
     · walk_at "ev"
     · walk_at "rd")
  | (with_reducible apply DL.ea_cons
     · walk_at "ev"
     · walk_at "ev")
  | (with_reducible apply DL.ev_sl
     · walk_at "ev"
     · walk_at "ep"
     · walk_at "ep"
     · first | exact DL.rs_s (by assumption) | exact DL.rs_l | exact DL.rs_t)
  | (with_reducible apply DL.ev_un
     · walk_at "ev"
     · with_reducible exact DL.ru_neg)
  | (with_reducible apply DL.ev_isiE
     · walk_at "ev"
     · first | rfl | assumption
     · first | rfl | assumption
     · rfl)
  | (with_reducible apply DL.ev_tupH
     · walk_at "ev"
     · walk_at "side")
  | (with_reducible apply DL.ev_lstH
     · walk_at "ev"
     · walk_at "side")
  | (with_reducible apply DL.ev_cb
     · walk_at "ev"
     · walk_at "rc")
  | (with_reducible apply DL.et_test
     · walk_at "ev")
  | (with_reducible apply DL.et_B
     · walk_at "ev")
  | (with_reducible apply DL.et_not
     · walk_at "ev")
  | (with_reducible apply DL.et_and
     · walk_at "ev"
     · (intro _; walk_at "ev"))
  | (with_reducible apply DL.et_or
     · walk_at "ev"
     · (intro _; walk_at "ev"))
  | (with_reducible apply DL.ev_xf
     · rfl
     · rfl)
  | (with_reducible apply DL.ev_chain
     · walk_at "ev"
     · walk_at "ev"
     · walk_at "rd"
     · (intro _; walk_at "ev")
     · (intro _; walk_at "rd"))
  | (with_reducible apply DL.ev_fld
     · walk_at "ev"
     · assumption
     · assumption
     · rfl)
  | (with_reducible apply DL.ev_isN
     · walk_at "ev")
  | (with_reducible apply DL.ev_notN
     · walk_at "ev")
  | (with_reducible apply DL.ev_andV
     · walk_at "ev"
     · (intro _; walk_at "ev"))
  | (with_reducible apply DL.ev_orV
     · walk_at "ev"
     · (intro _; walk_at "ev"))
  | (with_reducible apply DL.ev_notV
     · walk_at "ev")
  | (with_reducible apply DL.ev_callE
     · walk_at "ev"
     · walk_at "call"
     · rfl)
  | (with_reducible apply DL.ev_callSE
     · walk_at "ev"
     · walk_at "call"
     · rfl))
local macro_rules | `(tactic| walk_at "less") => `(tactic| (
  (try simp only [List.set_cons_zero, List.set_cons_succ])
  repeat (first | exact DL.less_nil | apply DL.less_same | apply DL.less_no)))
local macro_rules | `(tactic| walk_at "nat") => `(tactic| first
  | assumption
  | (with_reducible apply DL.ev_var
     · rfl)
  | exact DL.ev_int
  | (apply DL.en_ix
     · walk_at "nat"
     · walk_at "nat"
     · omega)
  | (apply DL.en_add
     · walk_at "nat"
     · walk_at "nat")
  | (apply DL.en_mod
     · walk_at "nat"
     · walk_at "nat"
     · omega)
  | (apply DL.en_div
     · walk_at "nat"
     · walk_at "nat"
     · omega
     · omega)
  | (apply DL.en_mul
     · walk_at "nat"
     · walk_at "nat"
     · first | decide | omega
     · first | decide | omega))

set_option Elab.async false
set_option linter.all false
set_option maxRecDepth 100000
set_option maxHeartbeats 4000000
set_option exponentiation.threshold 10000
/-! K74N: the task's parts -/
namespace K74
open PySem PySem.Spec PyProof.Rows L2 DL
section
variable {P : Program} {w : World} {K : PySem.W.Frag} {mg : Str → Option Value} {base : Heap} {Z0 Z1 CB CM CK TKC CX1 : Addr}

abbrev s__law_task_parts : Stmt := topS 59
theorem sc__law_task_parts : FnScope ["pay", "nodes", "depths", "found", "parent", "chance", "need", "rate", "rounds", "depth", "costs", "terms", "r"] ["pay", "nodes"] (defScope s__law_task_parts) := ⟨rfl, rfl, rfl, by decide +kernel, rfl, by decide +kernel, by decide +kernel⟩
def R_law_task_parts (ds : List PyData) (r : Res PyData) : Prop := ∃ (pay : Q2) (ws : List Wk) (m : Nat), ds = [rat pay, .list (ws.map wkD)] ∧ WkOk pay ws m ∧ r = .ok (.list [.tuple ((wRs m).map rndD), .tuple ((wNds pay ws).map ndD)])
def paDn (pay : Q2) (ws : List Wk) (dl : List Nat) (l : List Nd) : Dn := [.val (rat pay), .val (.list (ws.map wkD)), .own (dl.map fun n : Nat => PyData.int (n : Int)), .own (l.map ndD), .no, .no, .no, .no, .no, .no, .no, .no, .no]
theorem sn_ok {K : PySem.W.Frag} (k : Nat) (hk : k ≤ 3) : RC K rStrI [.int (k : Int)] (.str (toString (k : Int))) := rc_str (by
  have : ((k : Int)).natAbs < 4 := by omega
  exact Nat.lt_of_lt_of_le this (by show 4 ≤ 10 ^ 4300; exact Nat.le_trans (show 4 ≤ 10 ^ 1 by decide) (Nat.pow_le_pow_right (by decide) (by decide))))
theorem cat_ok {K : PySem.W.Frag} (k : Nat) (hk : k ≤ 3) : RD K (rAddU K) (.str "extra") (.str (toString (k : Int))) (.str (exName k)) := rd_addS (by
  have q : ∀ k : _root_.Fin 4, ("extra" : Str).length + (toString (k.1 : Int) : Str).length ≤ 100 := by decide +kernel
  exact Nat.le_trans (q ⟨k, by omega⟩) (by rw [sizeLine_eq]; decide))
theorem max_dep {K : PySem.W.Frag} {pay : Q2} {ws : List Wk} {m : Nat} (h : WkOk pay ws m) : RC K (rMax K) [.list ((depF (wPar ws)).map fun n : Nat => PyData.int (n : Int))] (.int (m : Int)) := by
  have dl : (depF (wPar ws)).length = ws.length := by unfold depF; rw [depN_len, wPar_len]
  have l1 := h.l1
  have e : (depF (wPar ws)).map (fun n : Nat => PyData.int (n : Int)) = ((depF (wPar ws)).map fun n : Nat => (n : Int)).map .int := by rw [List.map_map]; rfl
  rw [e]
  refine rc_max (by rw [List.length_map, dl]; omega) ?_ ?_
  · obtain ⟨i, hi, e⟩ := h.dx
    refine List.mem_map.mpr ⟨m, ?_, rfl⟩
    rw [← e, DL.getD_at (by omega)]; exact List.getElem_mem _
  · intro y hy
    obtain ⟨x, hx, rfl⟩ := List.mem_map.mp hy
    obtain ⟨i, hi, e⟩ := List.mem_iff_getElem.mp hx
    have := h.dm i (by omega)
    rw [DL.getD_at hi, e] at this
    omega
theorem rnd_iota (m : Nat) : ((iota 0 ((m : Int) + 1).toNat).filter fun _ => true).map (fun d => match d with
    | .int n => PyData.tuple [.str (exName n.toNat)]
    | d => d) = (List.range (m + 1)).map fun k => rndD [exName k] := by
  rw [List.filter_eq_self.mpr fun _ _ => rfl, show ((m : Int) + 1).toNat = m + 1 by omega, iota_map, List.map_map]
  refine List.map_congr_left fun i hi => ?_
  show PyData.tuple [.str (exName ((i : Int)).toNat)] = _
  rw [Int.toNat_natCast]; rfl
theorem rnd_set (m : Nat) : ((List.range (m + 1)).map fun k => rndD [exName k]).set 0 (.tuple [.str "hired", .str "extra0"]) = (wRs m).map rndD := by
  unfold wRs
  rw [List.map_set, List.map_map]; rfl
theorem wNd_zero (pay : Q2) (ws : List Wk) : wNd pay ws 0 = ⟨(ws.getD 0 default).par, (ws.getD 0 default).ch, [pay, (ws.getD 0 default).rate], [wRow ((depF (wPar ws)).getD 0 0) (ws.getD 0 default).need]⟩ := rfl
theorem wNd_pos (pay : Q2) (ws : List Wk) {i : Nat} (h : i ≠ 0) : wNd pay ws i = ⟨(ws.getD i default).par, (ws.getD i default).ch, [(ws.getD i default).rate], [wRow ((depF (wPar ws)).getD i 0) (ws.getD i default).need]⟩ := by
  unfold wNd
  rw [if_neg h]
theorem len__law_task_parts : ∀ ds r, R_law_task_parts ds r → ds.length = (["pay", "nodes"] : List Str).length := by
  rintro _ _ ⟨_, _, _, rfl, _⟩; rfl
theorem ok__law_task_parts (T : Tx K mg Z0 Z1) (D : DefAt K mg "_law_task_parts" s__law_task_parts [])  : CalX P w K mg base CX0 1 "_law_task_parts" [] R_law_task_parts := by
  refine okN D (bind0 (fun _ _ _ _ _ _ us hl => match us, hl with | [_, _], _ => rfl)) sc__law_task_parts len__law_task_parts fun f cdv A outer s H Ex hr => ⟨_, (pss_cons (ps_set (i := 2) sc__law_task_parts.nd rfl (by first | exact Or.inl rfl | exact Or.inr rfl) (pe_lst pa_nil))
    (pss_cons (ps_set (i := 3) sc__law_task_parts.nd rfl (by first | exact Or.inl rfl | exact Or.inr rfl) (pe_lst pa_nil))
    (pss_cons (ps_for PassesOwn.never rfl (pi_list (pv 1)) (pg_tup (n := 4) (by rfl) (pgs_cons (pg_name (i := 4) sc__law_task_parts.nd rfl (by first | exact Or.inl rfl | exact Or.inr rfl)) (pgs_cons (pg_name (i := 5) sc__law_task_parts.nd rfl (by first | exact Or.inl rfl | exact Or.inr rfl)) (pgs_cons (pg_name (i := 6) sc__law_task_parts.nd rfl (by first | exact Or.inl rfl | exact Or.inr rfl)) (pgs_cons (pg_name (i := 7) sc__law_task_parts.nd rfl (by first | exact Or.inl rfl | exact Or.inr rfl)) pgs_nil))))) (pss_cons (ps_set (i := 9) sc__law_task_parts.nd rfl (by first | exact Or.inl rfl | exact Or.inr rfl) pe_int)
    (pss_cons (ps_set (i := 10) sc__law_task_parts.nd rfl (by first | exact Or.inl rfl | exact Or.inr rfl) (pe_tup (pa_cons (pv 0) (pa_cons (pv 7) pa_nil))))
    (pss_cons (ps_if (pt_cmp (pc_notN (pv 4)) rfl) (pss_cons (ps_set (i := 9) sc__law_task_parts.nd rfl (by first | exact Or.inl rfl | exact Or.inr rfl) (pe_op op_addU (pe_ix ix_seq (pv 2) (pv 4) (fun _ _ => rfl)) pe_int))
    (pss_one (ps_set (i := 10) sc__law_task_parts.nd rfl (by first | exact Or.inl rfl | exact Or.inr rfl) (pe_tup (pa_cons (pv 7) pa_nil))))) pss_nil)
    (pss_cons (ps_expr (pe_bm PySem.F.plainAttrs_list PySem.F.slot_list_append PySem.F.type_list_append mt_append (pv 2) (pa_cons (pv 9) pa_nil)))
    (pss_cons (ps_set (i := 11) sc__law_task_parts.nd rfl (by first | exact Or.inl rfl | exact Or.inr rfl) (pe_tup (pa_cons (pe_tup (pa_cons pe_str (pa_cons (pe_tup (pa_cons pe_int (pa_cons pe_int pa_nil))) pa_nil))) (pa_cons (pe_tup (pa_cons (pe_op op_addU pe_str (pe_callTy (call_strB rfl T.nd) (by rfl) T.n_str (by decide +kernel) (pa_cons (pv 9) pa_nil))) (pa_cons (pe_tup (pa_cons pe_int (pa_cons pe_int pa_nil))) pa_nil))) pa_nil))))
    (pss_one (ps_expr (pe_bm PySem.F.plainAttrs_list PySem.F.slot_list_append PySem.F.type_list_append mt_append (pv 3) (pa_cons (pe_tup (pa_cons (pv 4) (pa_cons (pv 5) (pa_cons (pv 10) (pa_cons (pe_tup (pa_cons (pe_tup (pa_cons (pv 11) (pa_cons (pv 6) pa_nil))) pa_nil)) pa_nil))))) pa_nil))))))))))
    (pss_cons (ps_setLc (i := 8) (own := [("r", 12)]) rfl sc__law_task_parts.nd rfl rfl (sw_true rfl rfl rfl (by decide +kernel)) (pi_range1 rfl T.n_range (pa_cons (pe_op op_addU (pe_callB (cr_max rfl) (by rfl) T.n_max (by decide +kernel) (pa_cons (pv 2) pa_nil)) pe_int) pa_nil)) (blkOk_by (by show blkC ["pay", "nodes", "depths", "found", "parent", "chance", "need", "rate", "rounds", "depth", "costs", "terms", "r"] (defScope s__law_task_parts) _ [("r", 12)] = true; decide +kernel)) (fun _ _ _ _ _ => (pg_name (i := 12) sc__law_task_parts.nd rfl (by first | exact Or.inl rfl | exact Or.inr rfl))) (fun _ _ _ _ _ => pts_nil) (fun _ _ _ _ _ => (pe_tup (pa_cons (pe_op (op_addK (K := K) rfl) pe_str (pe_callTy (call_strB rfl T.nd) (by rfl) T.n_str (by decide +kernel) (pa_cons (pv 12) pa_nil))) pa_nil))))
    (pss_cons (ps_asg (pe_tup (pa_cons pe_str (pa_cons pe_str pa_nil))) (pg_sub (pv 8) pe_int set_list))
    (pss_one (ps_ret (pe_lst (pa_cons (pe_callTy call_tuple_of (by rfl) T.n_tuple (by decide +kernel) (pa_cons (pv 8) pa_nil)) (pa_cons (pe_callTy call_tuple_of (by rfl) T.n_tuple (by decide +kernel) (pa_cons (pv 3) pa_nil)) pa_nil)))))))))), ?_⟩

  rintro ds r ⟨pay, ws, m, rfl, h, rfl⟩
  have l1 := h.l1
  have l2 := h.l2
  have m3 := h.m3
  have ats : ∀ {i : Nat} {d : PyData}, (ws.map wkD)[i]? = some d → i < ws.length ∧ d = wkD (ws.getD i default) := fun {i d} hd => by
    rw [List.getElem?_map] at hd
    cases hz : ws[i]? with
    | none => rw [hz] at hd; cases hd
    | some z =>
      rw [hz] at hd
      cases hd
      have hi := (List.getElem?_eq_some_iff.mp hz).1
      refine ⟨hi, ?_⟩
      rw [List.getD_eq_getElem?_getD, hz]; rfl
  refine en_seq (rn_asgO ea_nil (by decide)) ?_
  refine en_seq (rn_asgO ea_nil (by decide)) ?_
  refine en_seq (rn_loop (js := [4, 5, 6, 7]) (δ' := paDn pay ws (depF (wPar ws)) (wNds pay ws)) (fun i => paDn pay ws (depN (wPar ws) i) ((List.range i).map (wNd pay ws))) rfl (src_list (W := fun _ _ _ _ => False) (l := ws.map wkD) (ev_var rfl)) (fun i d _ hd => ?_) (by rw [List.length_map]; unfold depF wNds; rw [wPar_len])) ?_
  · obtain ⟨hi, rfl⟩ := ats hd
    have hd := h.dm i hi
    have dn := dep_now (wPar ws) (i := i) (by rw [wPar_len]; exact hi)
    have dlast := dep_last (wPar ws) (i := i) (by rw [wPar_len]; exact hi)
    have el : (wPar ws).getD i default = ⟨(ws.getD i default).par, (ws.getD i default).ch, [], []⟩ := wPar_get ws hi
    rw [el] at dlast
    have e2 : ((List.range (i + 1)).map (wNd pay ws)).map ndD = ((List.range i).map (wNd pay ws)).map ndD ++ [ndD (wNd pay ws i)] := by
      rw [List.range_succ, List.map_append, List.map_append]; rfl
    have bl : (((List.range i).map (wNd pay ws)).map ndD).length < sizeLine := by rw [List.length_map, List.length_map, List.length_range, sizeLine_eq]; omega
    have dlen := depN_len (wPar ws) i
    have bd : ((depN (wPar ws) i).map fun n : Nat => PyData.int (n : Int)).length < sizeLine := by rw [List.length_map, dlen, sizeLine_eq]; omega
    have s1 := sn_ok (K := K) ((depF (wPar ws)).getD i 0) (by omega)
    have s2 := cat_ok (K := K) ((depF (wPar ws)).getD i 0) (by omega)
    have e1 : (depN (wPar ws) (i + 1)).map (fun n : Nat => PyData.int (n : Int)) = (depN (wPar ws) i).map (fun n : Nat => PyData.int (n : Int)) ++ [.int (((depF (wPar ws)).getD i 0 : Nat) : Int)] := by rw [dn, qnat]
    by_cases z : i = 0
    · subst z
      have pn := h.p0
      have wz := wNd_zero pay ws
      rw [pn] at wz
      have dz : (depF (wPar ws)).getD 0 0 = 0 := by
        rw [dlast]
        show (match (ws.getD 0 default).par with
          | none => 0
          | some p => (depN (wPar ws) 0).getD p 0 + 1) = 0
        rw [pn]
      have w0 : wkD (ws.getD 0 default) = .tuple [.none, rat (ws.getD 0 default).ch, rat (ws.getD 0 default).need, rat (ws.getD 0 default).rate] := by unfold wkD; rw [pn]; rfl
      rw [w0]
      rw [dz] at s1 s2 e1
      refine ⟨_, _, as_tup (as_cons as_name (as_cons as_name (as_cons as_name (as_cons as_name as_nil)))) rfl, rn_seq (rn_asgE (d := .int ((0 : Nat) : Int)) ev_int rfl) (rn_seq (rn_asgE (ev_tupH (ea_cons (ev_var rfl) (ea_cons (ev_var rfl) ea_nil)) (by show 2 ≤ sizeLine; decide)) rfl) (rn_seq (rn_ifF' (et_test (ev_notNb (ev_var rfl) (by rfl))) (by rfl) rn_next) (rn_seq (rn_app (i := 2) rfl (ev_var rfl) bd) (rn_seq (rn_asgE (d := .tuple ((wRow 0 (ws.getD 0 default).need).1.map termD)) (ev_is (ev_tupH (ea_cons (by walk_at "ev") (ea_cons (ev_tupH (ea_cons (ev_op ev_str (ev_cb (ea_cons (ev_var rfl) ea_nil) s1) s2) (ea_cons (by walk_at "ev") ea_nil)) (by show 2 ≤ sizeLine; decide)) ea_nil)) (by show 2 ≤ sizeLine; decide)) (by rfl)) rfl) (rn_app (i := 3) (d := ndD (wNd pay ws 0)) rfl (ev_is (ev_tupH (ea_cons (ev_var rfl) (ea_cons (ev_var rfl) (ea_cons (ev_var rfl) (ea_cons (ev_tupH (ea_cons (ev_tupH (ea_cons (ev_var rfl) (ea_cons (ev_var rfl) ea_nil)) (by show 2 ≤ sizeLine; decide)) ea_nil) (by show 1 ≤ sizeLine; decide)) ea_nil)))) (by show 4 ≤ sizeLine; decide)) (by rw [wz, dz]; rfl)) bl))))), ?_⟩
      unfold paDn
      rw [e1, e2]
      walk_at "less"
    · obtain ⟨p, hp, hlt⟩ := h.pr i (by omega) hi
      have wz := wNd_pos pay ws z
      rw [hp] at wz
      have dz : (depF (wPar ws)).getD i 0 = (depN (wPar ws) i).getD p 0 + 1 := by
        rw [dlast]
        show (match (ws.getD i default).par with
          | none => 0
          | some p => (depN (wPar ws) i).getD p 0 + 1) = _
        rw [hp]
      have w0 : wkD (ws.getD i default) = .tuple [.int (p : Int), rat (ws.getD i default).ch, rat (ws.getD i default).need, rat (ws.getD i default).rate] := by unfold wkD; rw [hp]; rfl
      rw [w0]
      have ixd : atI ((depN (wPar ws) i).map fun n : Nat => PyData.int (n : Int)) (p : Int) = some (.int (((depN (wPar ws) i).getD p 0 : Nat) : Int)) := at_mapD 0 (fun n : Nat => PyData.int (n : Int)) (by omega)
      refine ⟨_, _, as_tup (as_cons as_name (as_cons as_name (as_cons as_name (as_cons as_name as_nil)))) rfl, rn_seq (rn_asgE (d := .int ((0 : Nat) : Int)) ev_int rfl) (rn_seq (rn_asgE (ev_tupH (ea_cons (ev_var rfl) (ea_cons (ev_var rfl) ea_nil)) (by show 2 ≤ sizeLine; decide)) rfl) (rn_seq (rn_ifT' (et_test (ev_notNb (ev_var rfl) (by rfl))) (by rfl) (rn_seq (rn_asgE (d := .int (((depF (wPar ws)).getD i 0 : Nat) : Int)) (ev_is (ev_op (ev_ixO' (i := 2) rfl (ev_var rfl) ixd) ev_int rd_addI) (by rw [dz]; rfl)) rfl) (rn_asgE (ev_tupH (ea_cons (ev_var rfl) ea_nil) (by show 1 ≤ sizeLine; decide)) rfl))) (rn_seq (rn_app (i := 2) rfl (ev_var rfl) bd) (rn_seq (rn_asgE (d := .tuple ((wRow ((depF (wPar ws)).getD i 0) (ws.getD i default).need).1.map termD)) (ev_is (ev_tupH (ea_cons (by walk_at "ev") (ea_cons (ev_tupH (ea_cons (ev_op ev_str (ev_cb (ea_cons (ev_var rfl) ea_nil) s1) s2) (ea_cons (by walk_at "ev") ea_nil)) (by show 2 ≤ sizeLine; decide)) ea_nil)) (by show 2 ≤ sizeLine; decide)) (by rfl)) rfl) (rn_app (i := 3) (d := ndD (wNd pay ws i)) rfl (ev_is (ev_tupH (ea_cons (ev_var rfl) (ea_cons (ev_var rfl) (ea_cons (ev_var rfl) (ea_cons (ev_tupH (ea_cons (ev_tupH (ea_cons (ev_var rfl) (ea_cons (ev_var rfl) ea_nil)) (by show 2 ≤ sizeLine; decide)) ea_nil) (by show 1 ≤ sizeLine; decide)) ea_nil)))) (by show 4 ≤ sizeLine; decide)) (by rw [wz]; rfl)) bl))))), ?_⟩
      unfold paDn
      rw [e1, e2]
      walk_at "less"
  have mx := max_dep (K := K) h
  refine en_seq (rn_asgM (W' := fun _ _ _ _ => False) (js := [12]) (l := iota 0 ((m : Int) + 1).toNat) (fun _ => true) (fun d => match d with
    | .int n => .tuple [.str (exName n.toNat)]
    | d => d) (src_rng1 (W := fun _ _ _ _ => False) (j := (m : Int) + 1) (ea_cons (ev_op (ev_lend (i := 2) rfl reads_L (ev_cb (ea_cons (ev_var (i := 2) rfl) ea_nil) mx) rfl) ev_int rd_addI) ea_nil) (by omega) (by omega)) (by intro j hj; exact hj) (by rw [iota_len, sizeLine_eq]; omega) (fun i d hd => ?_)) ?_
  · obtain ⟨hi, rfl⟩ := iota_at hd
    have hi : i < m + 1 := by omega
    refine ⟨_, as_name, et_yes, fun _ => ev_is (ev_tupH (ea_cons (ev_op ev_str (ev_cb (ea_cons (ev_var rfl) ea_nil) (sn_ok i (by omega))) (cat_ok i (by omega))) ea_nil) (by show 1 ≤ sizeLine; decide)) ?_⟩
    show _ = PyData.tuple [.str (exName ((i : Int)).toNat)]
    rw [Int.toNat_natCast]
  rw [rnd_iota]
  refine en_seq (rn_setO (i := 8) (j := 0) rfl (by walk_at "ev") (by walk_at "ev") (by rw [List.length_map, List.length_range]; exact ixN_nat (n := m + 1) (p := 0) (by omega))) ?_
  rw [rnd_set]
  refine en_frz (i := 8) (o := ownL ((wRs m).map rndD)) rfl reads_L ?_
  refine en_frz (i := 3) (o := ownL ((wNds pay ws).map ndD)) rfl reads_L ?_
  exact en_rt (rn_ret (ev_lstH (ea_cons (ev_cb (ea_cons (ev_var rfl) ea_nil) rc_tup_l) (ea_cons (ev_cb (ea_cons (ev_var rfl) ea_nil) rc_tup_l) ea_nil)) (by show 2 ≤ sizeLine; decide))) rfl
end
end K74
end
set_option Elab.async false
set_option linter.all false
set_option maxRecDepth 100000
set_option maxHeartbeats 4000000
/-! PH: comparing the parts of a workforce, plain. -/
namespace DL
open PySem PySem.Spec PyProof.Rows L2
theorem lay_map {α : Type} (f : α → PyData) (h : ∀ a, PyData.canLay0 (f a) = true) : ∀ l : List α, PyData.canLayAll0 (l.map f) = true
  | [] => rfl
  | a :: r => by
    show (PyData.canLay0 (f a) && PyData.canLayAll0 (r.map f)) = true
    rw [lay_map f h r, h a]; rfl
theorem depth_map {α : Type} (f : α → PyData) (n : Nat) (h : ∀ a, PyData.depth (f a) ≤ n) : ∀ l : List α, PyData.depthAll (l.map f) ≤ n
  | [] => Nat.zero_le _
  | a :: r => by
    show max (PyData.depth (f a)) (PyData.depthAll (r.map f)) ≤ n
    exact Nat.max_le.mpr ⟨h a, depth_map f n h r⟩
theorem wkD_lay (n : Wk) : PyData.canLay0 (wkD n) = true := by
  unfold wkD
  cases n.par <;> rfl
theorem wkD_depth (n : Wk) : PyData.depth (wkD n) ≤ 10 := by
  unfold wkD
  cases n.par <;> exact (by decide : 2 ≤ 10)
theorem wks_shaped (ws : List Wk) : SeqAt.shaped (.list (ws.map wkD)) = true := by
  unfold SeqAt.shaped
  rw [show PyData.canLay0 (.list (ws.map wkD)) = PyData.canLayAll0 (ws.map wkD) from rfl, lay_map wkD wkD_lay]
  have : PyData.depth (.list (ws.map wkD)) = PyData.depthAll (ws.map wkD) + 1 := rfl
  have q := depth_map wkD 10 wkD_depth ws
  rw [this]
  exact decide_eq_true (by omega)
theorem wks_eqv (ws : List Wk) : PyData.eqv (.list (ws.map wkD)) (.list (ws.map wkD)) = true := by
  have e : ∀ n : Wk, PyData.eqv (wkD n) (wkD n) = true := fun n => by
    have r : ∀ p : Q2, PyData.eqv (rat p) (rat p) = true := fun p => by rw [eqv_rat]; exact decide_eq_true rfl
    show (PyData.eqv (parD n.par) (parD n.par) && (PyData.eqv (rat n.ch) (rat n.ch) && (PyData.eqv (rat n.need) (rat n.need) && (PyData.eqv (rat n.rate) (rat n.rate) && true)))) = true
    rw [r, r, r]
    cases n.par with
    | none => rfl
    | some p => show (((p : Int) == (p : Int)) && true) = true; simp
  show PyData.eqvAll (ws.map wkD) (ws.map wkD) = true
  induction ws with
  | nil => rfl
  | cons a r ih =>
    show (PyData.eqv (wkD a) (wkD a) && PyData.eqvAll (r.map wkD) (r.map wkD)) = true
    rw [e a, ih]; rfl
/-! kinds -/
theorem mk_rat (n : Nat) (p : Q2) : mOk (n + 1) (rat p) := ⟨(by show 2 ≤ 1000; decide), fun y hy => by
  rcases List.mem_cons.mp hy with e | hy
  · rw [e]; cases n <;> exact trivial
  · rw [List.mem_singleton.mp hy]; cases n <;> exact trivial⟩
theorem mk_str (n : Nat) (z : Str) : mOk n (.str z) := by cases n <;> exact trivial
theorem mk_par (n : Nat) (p : Option Nat) : mOk n (parD p) := by cases n <;> cases p <;> exact trivial
theorem mk_map {α : Type} {n : Nat} (f : α → PyData) {l : List α} (hl : l.length ≤ 1000) (h : ∀ a ∈ l, mOk n (f a)) : mOk (n + 1) (.tuple (l.map f)) := ⟨by rw [List.length_map]; exact hl, fun y hy => by
  obtain ⟨a, ha, rfl⟩ := List.mem_map.mp hy
  exact h a ha⟩
theorem mk_two {n : Nat} {a b : PyData} (h1 : mOk n a) (h2 : mOk n b) : mOk (n + 1) (.tuple [a, b]) := ⟨(by show 2 ≤ 1000; decide), fun y hy => by
  rcases List.mem_cons.mp hy with e | hy
  · rw [e]; exact h1
  · rw [List.mem_singleton.mp hy]; exact h2⟩
theorem mk_four {n : Nat} {a b c d : PyData} (h1 : mOk n a) (h2 : mOk n b) (h3 : mOk n c) (h4 : mOk n d) : mOk (n + 1) (.tuple [a, b, c, d]) := ⟨(by show 4 ≤ 1000; decide), fun y hy => by
  rcases List.mem_cons.mp hy with e | hy
  · rw [e]; exact h1
  · rcases List.mem_cons.mp hy with e | hy
    · rw [e]; exact h2
    · rcases List.mem_cons.mp hy with e | hy
      · rw [e]; exact h3
      · rw [List.mem_singleton.mp hy]; exact h4⟩
theorem task_kind {rs : List (List Str)} {nds : List Nd} (h : TkOk rs nds) : mOk 9 (.tuple (rs.map rndD)) ∧ mOk 9 (.tuple (nds.map ndD)) := by
  have r1 := h.rnd.l2
  have n2 := h.l2
  refine ⟨mk_map rndD (by omega) fun r hr => mk_map .str (by have := h.rnd.few r hr; omega) fun z _ => mk_str _ z, mk_map ndD (by omega) fun n hn => ?_⟩
  obtain ⟨k, hk, e⟩ := List.mem_iff_getElem.mp hn
  have q := h.nd k hk
  rw [DL.getD_at hk, e] at q
  have c3 : (rs.getD ((depF nds).getD k 0) []).length ≤ 3 := h.rnd.few _ (by rw [DL.getD_at q.dl]; exact List.getElem_mem _)
  refine mk_four (mk_par _ _) (mk_rat _ _) (mk_map rat (by have := q.cl; omega) fun c _ => mk_rat _ c) (mk_map rowD (by have := q.rl; omega) fun r hr => mk_two (mk_map termD (q.ro r hr).few fun t _ => mk_two (mk_str _ _) (mk_rat _ _)) (mk_rat _ _))
end DL
section
/-! ### the reading tactics -/
local macro_rules | `(tactic| walk_at "sz") => `(tactic| first
  | assumption
  | (apply DL.Sz.neg
     · walk_at "sz")
  | (apply DL.Sz.mul
     · walk_at "sz"
     · walk_at "sz")
  | (apply DL.Sz.add
     · walk_at "sz"
     · walk_at "sz")
  | (apply DL.Sz.sub
     · walk_at "sz"
     · walk_at "sz")
  | (apply DL.Sz.fmod
     · decide
     · walk_at "sz")
  | exact DL.Sz.self)
local macro_rules | `(tactic| walk_at "side") => `(tactic| first
  | assumption
  | (apply DL.cmulW_of
     · walk_at "sz"
     · walk_at "sz"
     · first | decide +kernel | omega)
  | rfl
  | decide
  | omega
  | (simp only [List.length_cons, List.length_nil]; decide)
  | (simp; done)
  | (simp only [PySem.sizeLine_eq, List.length_cons, List.length_nil]; omega))
local macro_rules | `(tactic| walk_at "rd") => `(tactic| first
  | exact DL.rd_addI
  | exact DL.rd_sub
  | exact DL.rd_mulL (by decide) (by decide)
  | exact DL.rd_mulR (by decide) (by decide)
  | (refine DL.rd_mulI ?_
     · walk_at "side")
  | exact DL.rd_pow ⟨by decide, by decide, by decide⟩
  | exact DL.rd_mod (by show (_ : Int) ≠ _; first | decide | assumption)
  | exact DL.rd_ix_T rfl
  | exact DL.rd_ix_L rfl
  | exact DL.rd_eqI
  | exact DL.rd_inC
  | exact DL.rd_niC
  | exact DL.rd_ix_S (by assumption) (by assumption)
  | exact DL.rd_neI
  | exact DL.rd_eqT
  | exact DL.rd_neT
  | exact DL.rd_eqB
  | exact DL.rd_I0b
  | (refine DL.rd_addS ?_
     · walk_at "side")
  | (refine DL.rd_addT ?_
     · walk_at "side")
  | (refine DL.rd_fdiv ?_ ?_
     · walk_at "side"
     · walk_at "side")
  | (refine DL.rd_mod ?_
     · walk_at "side")
  | assumption)
local macro_rules | `(tactic| walk_at "rc") => `(tactic| first
  | exact DL.rc_gcd
  | exact DL.rc_abs
  | exact DL.rc_max2
  | exact DL.rc_intV
  | exact DL.rc_intB
  | exact DL.rc_len_t
  | exact DL.rc_list_l
  | exact DL.rc_list_t
  | exact DL.rc_tup_l
  | exact DL.rc_len_l
  | (apply DL.rc_len_s
     · walk_at "side")
  | (apply DL.rc_str
     · walk_at "side")
  | assumption)
local macro_rules | `(tactic| walk_at "call") => `(tactic| first
  | exact ⟨_, rfl, by assumption, rfl⟩
  | exact ⟨_, rfl, rfl⟩
  | exact ⟨_, _, rfl, rfl⟩
  | assumption
  | fail "call: no contract")
local macro_rules | `(tactic| walk_at "ep") => `(tactic| first
  | with_reducible exact DL.ep_no
  | (with_reducible apply DL.ep_some
     · walk_at "ev"))
local macro_rules | `(tactic| walk_at "ev") => `(tactic| first
  | assumption
  | (with_reducible apply DL.ev_var
     · rfl)
  | with_reducible exact DL.ev_int
  | with_reducible exact DL.ev_str
  | with_reducible exact DL.ev_bl
  | with_reducible exact DL.ev_non
  | with_reducible exact DL.ea_nil
  | exact DL.ev_glob (by assumption)
  | (with_reducible apply DL.ev_op
     · walk_at "ev"
     · walk_at "ev"
     · walk_at "rd")
  | (with_reducible apply DL.ea_cons
     · walk_at "ev"
     · walk_at "ev")
  | (with_reducible apply DL.ev_sl
     · walk_at "ev"
     · walk_at "ep"
     · walk_at "ep"
     · first | exact DL.rs_s (by assumption) | exact DL.rs_l | exact DL.rs_t)
  | (with_reducible apply DL.ev_un
     · walk_at "ev"
     · with_reducible exact DL.ru_neg)
  | (with_reducible apply DL.ev_isiE
     · walk_at "ev"
     · first | rfl | assumption
     · first | rfl | assumption
     · rfl)
  | (with_reducible apply DL.ev_tupH
     · walk_at "ev"
     · walk_at "side")
  | (with_reducible apply DL.ev_lstH
     · walk_at "ev"
     · walk_at "side")
  | (with_reducible apply DL.ev_cb
     · walk_at "ev"
     · walk_at "rc")
  | (with_reducible apply DL.et_test
     · walk_at "ev")
  | (with_reducible apply DL.et_B
     · walk_at "ev")
  | (with_reducible apply DL.et_not
     · walk_at "ev")
  | (with_reducible apply DL.et_and
     · walk_at "ev"
     · (intro _; walk_at "ev"))
  | (with_reducible apply DL.et_or
     · walk_at "ev"
     · (intro _; walk_at "ev"))
  | (with_reducible apply DL.ev_xf
     · rfl
     · rfl)
  | (with_reducible apply DL.ev_chain
     · walk_at "ev"
     · walk_at "ev"
     · walk_at "rd"
     · (intro _; walk_at "ev")
     · (intro _; walk_at "rd"))
  | (with_reducible apply DL.ev_fld
     · walk_at "ev"
     · assumption
     · assumption
     · rfl)
  | (with_reducible apply DL.ev_isN
     · walk_at "ev")
  | (with_reducible apply DL.ev_notN
     · walk_at "ev")
  | (with_reducible apply DL.ev_andV
     · walk_at "ev"
     · (intro _; walk_at "ev"))
  | (with_reducible apply DL.ev_orV
     · walk_at "ev"
     · (intro _; walk_at "ev"))
  | (with_reducible apply DL.ev_notV
     · walk_at "ev")
  | (with_reducible apply DL.ev_callE
     · walk_at "ev"
     · walk_at "call"
     · rfl)
  | (with_reducible apply DL.ev_callSE
     · walk_at "ev"
     · walk_at "call"
     · rfl))
local macro_rules | `(tactic| walk_at "less") => `(tactic| (
  (try simp only [List.set_cons_zero, List.set_cons_succ])
  repeat (first | exact DL.less_nil | apply DL.less_same | apply DL.less_no)))
local macro_rules | `(tactic| walk_at "nat") => `(tactic| first
  | assumption
  | (with_reducible apply DL.ev_var
     · rfl)
  | exact DL.ev_int
  | (apply DL.en_ix
     · walk_at "nat"
     · walk_at "nat"
     · omega)
  | (apply DL.en_add
     · walk_at "nat"
     · walk_at "nat")
  | (apply DL.en_mod
     · walk_at "nat"
     · walk_at "nat"
     · omega)
  | (apply DL.en_div
     · walk_at "nat"
     · walk_at "nat"
     · omega
     · omega)
  | (apply DL.en_mul
     · walk_at "nat"
     · walk_at "nat"
     · first | decide | omega
     · first | decide | omega))

set_option Elab.async false
set_option linter.all false
set_option maxRecDepth 100000
set_option maxHeartbeats 4000000
set_option exponentiation.threshold 10000
/-! K74O: a workforce judged -/
namespace K74
open PySem PySem.Spec PyProof.Rows L2 DL
section
variable {P : Program} {w : World} {K : PySem.W.Frag} {mg : Str → Option Value} {base : Heap} {Z0 Z1 CB CM CK TKC CX1 : Addr}

abbrev s__law_right : Stmt := topS 62
theorem sc__law_right : FnScope ["pay", "nodes", "draws", "due", "handed", "one", "other", "numbers", "hired", "task", "parts", "less"] ["pay", "nodes", "draws"] (defScope s__law_right) := ⟨rfl, rfl, rfl, by decide +kernel, rfl, by decide +kernel, by decide +kernel⟩
def R_law_right (ds : List PyData) (r : Res PyData) : Prop := ∃ (pay : Q2) (ws : List Wk) (m : Nat) (d : List Nat), ds = [rat pay, .list (ws.map wkD), .list (d.map fun n : Nat => PyData.int (n : Int))] ∧ WkOk pay ws m ∧ d.length = 5 ∧ (∀ x ∈ d, x < 1000) ∧ r = .ok (.bool true)
theorem half_ok {a b : Q2} (ha : Non0 6 a) (hb : Non0 6 b) : Non0 20 (qmul (1, 2) (qadd a b)) := by
  have s := qadd_nf' ha.nf hb.nf
  have h2 : Nf ((1, 2) : Q2) := ⟨by decide, by decide⟩
  have z : Qz 2 ((1, 2) : Q2) := ⟨by show (1 : Int).natAbs < 2 ^ 2; decide, by show (2 : Int).natAbs < 2 ^ 2; decide, by show (2 : Int) ≠ 0; decide⟩
  have p : 0 ≤ (qadd a b).1 := by
    have q1 : 0 ≤ a.1 * b.2 := Int.mul_nonneg ha.pos (by have := hb.nf.pos; omega)
    have q2 : 0 ≤ b.1 * a.2 := Int.mul_nonneg hb.pos (by have := ha.nf.pos; omega)
    have q3 : 0 < a.2 * b.2 := Int.mul_pos ha.nf.pos hb.nf.pos
    unfold qadd
    rcases Int.lt_or_eq_of_le (show 0 ≤ a.1 * b.2 + b.1 * a.2 by omega) with w | w
    · have := nrm_pos w q3; omega
    · rw [← w, nrm_zero (by omega)]; decide
  refine ⟨qmul_nf h2.ne s.ne, ?_, (qmul_qz z (qadd_qz ha.qz hb.qz)).mono (by decide)⟩
  unfold qmul
  rcases Int.lt_or_eq_of_le p with w | w
  · have := nrm_pos (t := (1 : Int) * (qadd a b).1) (b := (2 : Int) * (qadd a b).2) (by omega) (by have := s.pos; omega)
    show 0 ≤ (nrm ((1 : Int) * (qadd a b).1) ((2 : Int) * (qadd a b).2)).1
    omega
  · show 0 ≤ (nrm ((1 : Int) * (qadd a b).1) ((2 : Int) * (qadd a b).2)).1
    rw [← w, show (1 : Int) * 0 = 0 from rfl, nrm_zero (by have := s.pos; omega)]; decide
theorem less_ok {b : Q2} (hb : Non0 6 b) (h0 : 0 < b.1) : Non0 20 (qmul b (99, 100)) ∧ rv (qmul b (99, 100)) < rv b := by
  have h2 : Nf ((99, 100) : Q2) := ⟨by decide, by decide⟩
  have z : Qz 7 ((99, 100) : Q2) := ⟨by show (99 : Int).natAbs < 2 ^ 7; decide, by show (100 : Int).natAbs < 2 ^ 7; decide, by show (100 : Int) ≠ 0; decide⟩
  have p := qmul_pos hb.nf h2 h0 (by decide)
  refine ⟨⟨qmul_nf hb.nf.ne h2.ne, by omega, (qmul_qz hb.qz z).mono (by decide)⟩, ?_⟩
  rw [rv_mul hb.nf.ne h2.ne]
  have bp := rv_pos hb.nf h0
  have e : rv ((99, 100) : Q2) = 99 / 100 := rfl
  rw [e]
  grind
theorem len__law_right : ∀ ds r, R_law_right ds r → ds.length = (["pay", "nodes", "draws"] : List Str).length := by
  rintro _ _ ⟨_, _, _, _, rfl, _⟩; rfl
theorem ok__law_right (T : Tx K mg Z0 Z1) (D : DefAt K mg "_law_right" s__law_right []) (c__law_best_of : CalX P w K mg base CX0 6 "_law_best_of" [] R_law_best_of) (c_work_task : CalX P w K mg base (L2N.CX P w) 7 "work_task" [] (R_work_task TKC)) (c__law_task_parts : CalX P w K mg base CX0 1 "_law_task_parts" [] R_law_task_parts) (c__law_mul : CalX P w K mg base CX0 3 "_law_mul" [] (RQ 2100 fun a b => rat (qmul a b))) (c__law_ratio : CalX P w K mg base CX0 2 "_law_ratio" [] R_law_ratio) (c_work_cost : CalX P w K mg base (L2N.CX P w) 8 "work_cost" [] R_work_cost) (c__law_match : CalX P w K mg base CX0 12 "_law_match" [] (RM 10)) (c__law_add : CalX P w K mg base CX0 3 "_law_add" [] (RQ 2100 fun a b => rat (qadd a b))) (c_work_hired : CalX P w K mg base (L2N.CX P w) 8 "work_hired" [] R_work_hired) (c__law_cost_of : CalX P w K mg base CX0 5 "_law_cost_of" [] R_law_cost_of) (c__law_is_ratio : CalX P w K mg base CX0 2 "_law_is_ratio" [] R_law_is_ratio) (c__law_below : CalX P w K mg base CX0 1 "_law_below" [] (RQ 2100 fun a b => .bool (decide (a.1 * b.2 < b.1 * a.2)))) (k : TkC K TKC) : CalX P w K mg base CX0 13 "_law_right" [] R_law_right := by
  refine okN D (bind0 (fun _ _ _ _ _ _ us hl => match us, hl with | [_, _, _], _ => rfl)) sc__law_right len__law_right fun f cdv A outer s H Ex hr => ⟨_, (pss_cons (ps_set (i := 3) sc__law_right.nd rfl (by first | exact Or.inl rfl | exact Or.inr rfl) (pe_cal c__law_best_of hr (by decide) (fun σ => p0At σ) (pa_cons (pv 0) (pa_cons (pv 1) pa_nil))))
    (pss_cons (ps_set (i := 4) sc__law_right.nd rfl (by first | exact Or.inl rfl | exact Or.inr rfl) (pe_callTy call_list_of (by rfl) T.n_list (by decide +kernel) (pa_cons (pv 1) pa_nil)))
    (pss_cons (ps_if (PW.pt (pw_or (pt_not (pt_val (pe_cal c__law_match hr (by decide) (fun σ => p0At σ) (pa_cons (pe_cal c_work_hired hr (by decide) (fun σ => pLN σ) (pa_cons (pv 0) (pa_cons (pv 4) pa_nil))) (pa_cons (pv 3) pa_nil))))) (pw_or1 (pt_not (pt_val (pe_cal c__law_match hr (by decide) (fun σ => p0At σ) (pa_cons (pe_cal c_work_hired hr (by decide) (fun σ => pLN σ) (pa_cons (pv 0) (pa_cons (pe_callTy call_tuple_of (by rfl) T.n_tuple (by decide +kernel) (pa_cons (pv 1) pa_nil)) pa_nil))) (pa_cons (pv 3) pa_nil)))))))) (pss_one (ps_ret pe_bl)) pss_nil)
    (pss_cons (ps_set (i := 5) sc__law_right.nd rfl (by first | exact Or.inl rfl | exact Or.inr rfl) (pe_ix ix_seq (pe_ix ix_seq (pv 1) (pe_op op_modN (pe_ix ix_seq (pv 2) pe_int (fun _ _ => rfl)) (pe_callB call_len (by rfl) T.n_len (by decide +kernel) (pa_cons (pv 1) pa_nil))) (fun _ _ => rfl)) pe_int (fun _ _ => rfl)))
    (pss_cons (ps_set (i := 6) sc__law_right.nd rfl (by first | exact Or.inl rfl | exact Or.inr rfl) (pe_ix ix_seq (pe_ix ix_seq (pv 1) (pe_op op_modN (pe_ix ix_seq (pv 2) pe_int (fun _ _ => rfl)) (pe_callB call_len (by rfl) T.n_len (by decide +kernel) (pa_cons (pv 1) pa_nil))) (fun _ _ => rfl)) pe_int (fun _ _ => rfl)))
    (pss_cons (ps_set (i := 7) sc__law_right.nd rfl (by first | exact Or.inl rfl | exact Or.inr rfl) (pe_lst (pa_cons (pe_tup (pa_cons pe_int (pa_cons pe_int pa_nil))) (pa_cons (pv 5) (pa_cons (pe_cal c__law_mul hr (by decide) (fun σ => p0At σ) (pa_cons (pe_tup (pa_cons pe_int (pa_cons pe_int pa_nil))) (pa_cons (pe_cal c__law_add hr (by decide) (fun σ => p0At σ) (pa_cons (pv 5) (pa_cons (pv 6) pa_nil))) pa_nil))) (pa_cons (pe_tup (pa_cons pe_int (pa_cons pe_int pa_nil))) (pa_cons (pe_cal c__law_ratio hr (by decide) (fun σ => p0At σ) (pa_cons (pe_op op_modN (pe_ix ix_seq (pv 2) pe_int (fun _ _ => rfl)) pe_int) (pa_cons (pe_op op_addU pe_int (pe_op op_modN (pe_ix ix_seq (pv 2) pe_int (fun _ _ => rfl)) pe_int)) pa_nil))) pa_nil)))))))
    (pss_cons (ps_for PassesOwn.never rfl (pi_list (pe_op op_addU (pv 7) (pe_lst (pa_cons (pe_ix ix_seq (pv 3) pe_int (fun _ _ => rfl)) pa_nil)))) (pg_name (i := 8) sc__law_right.nd rfl (by first | exact Or.inl rfl | exact Or.inr rfl)) (pss_one (ps_if (pt_not (pt_val (pe_cal c__law_match hr (by decide) (fun σ => p0At σ) (pa_cons (pe_cal c_work_cost hr (by decide) (fun σ => pLN σ) (pa_cons (pv 0) (pa_cons (pv 4) (pa_cons (pv 8) pa_nil)))) (pa_cons (pe_cal c__law_cost_of hr (by decide) (fun σ => p0At σ) (pa_cons (pv 0) (pa_cons (pv 1) (pa_cons (pv 8) pa_nil)))) pa_nil))))) (pss_one (ps_ret pe_bl)) pss_nil)))
    (pss_cons (ps_if (pt_cmpR op_gt (pe_ix ix_seq (pe_ix ix_seq (pv 3) pe_int (fun _ _ => rfl)) pe_int (fun _ _ => rfl)) pe_int (nomark _)) (pss_cons (ps_set (i := 11) sc__law_right.nd rfl (by first | exact Or.inl rfl | exact Or.inr rfl) (pe_cal c_work_cost hr (by decide) (fun σ => pLN σ) (pa_cons (pv 0) (pa_cons (pv 4) (pa_cons (pe_cal c__law_mul hr (by decide) (fun σ => p0At σ) (pa_cons (pe_ix ix_seq (pv 3) pe_int (fun _ _ => rfl)) (pa_cons (pe_tup (pa_cons pe_int (pa_cons pe_int pa_nil))) pa_nil))) pa_nil)))))
    (pss_one (ps_if (PW.pt (pw_or (pt_not (pt_val (pe_cal c__law_is_ratio hr (by decide) (fun σ => p0At σ) (pa_cons (pv 11) pa_nil)))) (pw_or1 (pt_not (pt_val (pe_cal c__law_below hr (by decide) (fun σ => p0At σ) (pa_cons (pe_ix ix_seq (pv 3) pe_int (fun _ _ => rfl)) (pa_cons (pv 11) pa_nil)))))))) (pss_one (ps_ret pe_bl)) pss_nil))) pss_nil)
    (pss_cons (ps_set (i := 9) sc__law_right.nd rfl (by first | exact Or.inl rfl | exact Or.inr rfl) (pe_cal c_work_task hr (by decide) (fun σ => pLN σ) (pa_cons (pv 0) (pa_cons (pv 4) pa_nil))))
    (pss_cons (ps_set (i := 10) sc__law_right.nd rfl (by first | exact Or.inl rfl | exact Or.inr rfl) (pe_cal c__law_task_parts hr (by decide) (fun σ => p0At σ) (pa_cons (pv 0) (pa_cons (pv 1) pa_nil))))
    (pss_cons (ps_if (PW.pt (pw_or (pt_not (pt_val (pe_cal c__law_match hr (by decide) (fun σ => p0At σ) (pa_cons (pe_fldK (K := K) rfl (pv 9)) (pa_cons (pe_ix ix_seq (pv 10) pe_int (fun _ _ => rfl)) pa_nil))))) (pw_or1 (pt_not (pt_val (pe_cal c__law_match hr (by decide) (fun σ => p0At σ) (pa_cons (pe_fldK (K := K) rfl (pv 9)) (pa_cons (pe_ix ix_seq (pv 10) pe_int (fun _ _ => rfl)) pa_nil)))))))) (pss_one (ps_ret pe_bl)) pss_nil)
    (pss_one (ps_ret (pe_cmpR (op_eqU (hu64 hr)) (pv 4) (pv 1) (nomark _))))))))))))))), ?_⟩

  rintro ds r ⟨pay, ws, m, d, rfl, o, dl, dlt, rfl⟩
  have l1 := o.l1
  have l2 := o.l2
  obtain ⟨b, hb, hlb, nb, hless⟩ := best_all o
  have tk := task_kind o.task
  have k1 := k.cl
  have k2 := k.rounds
  have k3 := k.nodes
  have b20 : Qz 20 b := nb.qz.mono (by decide)
  have bq : R_law_best_of [rat pay, .list (ws.map wkD)] (.ok (.tuple [rat b, rat (cosF pay ws b)])) := ⟨pay, ws, m, rfl, o, by rw [hlb]⟩
  have h1 : R_work_hired [rat pay, .list (ws.map wkD)] (.ok (.tuple [rat b, rat (cosF pay ws b)])) := ⟨.list, pay, b, ws, m, ⟨.inl rfl⟩, rfl, o, hb, rfl⟩
  have h2 : R_work_hired [rat pay, .tuple (ws.map wkD)] (.ok (.tuple [rat b, rat (cosF pay ws b)])) := ⟨.tuple, pay, b, ws, m, ⟨.inr rfl⟩, rfl, o, hb, rfl⟩
  have m1 : RM 10 [.tuple [rat b, rat (cosF pay ws b)], .tuple [rat b, rat (cosF pay ws b)]] (.ok (.bool true)) := ⟨_, rfl, mk_two (mk_rat _ _) (mk_rat _ _), rfl⟩
  refine en_seq (rn_asgE (ev_callWE (by walk_at "ev") bq rfl) rfl) ?_
  refine en_seq (rn_asgE (d := .list (ws.map wkD)) (ev_cb (ea_cons (ev_var rfl) ea_nil) rc_list_l) rfl) ?_
  refine en_seq (rn_ifF' (et_or (et_not (et_B (ev_callWE (ea_cons (ev_callWE (ea_cons (ev_var rfl) (ea_cons (ev_var rfl) ea_nil)) h1 rfl) (ea_cons (ev_var rfl) ea_nil)) m1 rfl))) fun _ => et_not (et_B (ev_callWE (ea_cons (ev_callWE (ea_cons (ev_var rfl) (ea_cons (ev_cb (ea_cons (ev_var rfl) ea_nil) rc_tup_l) ea_nil)) h2 rfl) (ea_cons (ev_var rfl) ea_nil)) m1 rfl))) (by rfl) rn_next) ?_
  have i0 : d.getD 0 0 % ws.length < ws.length := Nat.mod_lt _ (by omega)
  have i1 : d.getD 1 0 % ws.length < ws.length := Nat.mod_lt _ (by omega)
  have ix0 : atI (ws.map wkD) ((d.getD 0 0 % ws.length : Nat) : Int) = some (wkD (ws.getD (d.getD 0 0 % ws.length) default)) := at_map wkD i0
  have ix1 : atI (ws.map wkD) ((d.getD 1 0 % ws.length : Nat) : Int) = some (wkD (ws.getD (d.getD 1 0 % ws.length) default)) := at_map wkD i1
  have n0 := o.need _ i0
  have n1 := o.need _ i1
  refine en_seq (rn_asgE (d := rat (ws.getD (d.getD 0 0 % ws.length) default).need) (ev_op (ev_op (ev_var rfl) (en_mod (a := d.getD 0 0) (b := ws.length) (by walk_at "nat") (ev_cb (ea_cons (ev_var rfl) ea_nil) (len_map_l wkD ws)) (by omega)) (rd_ix_L ix0)) ev_int (rd_ix_T rfl)) rfl) ?_
  refine en_seq (rn_asgE (d := rat (ws.getD (d.getD 1 0 % ws.length) default).need) (ev_op (ev_op (ev_var rfl) (en_mod (a := d.getD 1 0) (b := ws.length) (by walk_at "nat") (ev_cb (ea_cons (ev_var rfl) ea_nil) (len_map_l wkD ws)) (by omega)) (rd_ix_L ix1)) ev_int (rd_ix_T rfl)) rfl) ?_
  generalize (ws.getD (d.getD 0 0 % ws.length) default).need = one at *
  generalize (ws.getD (d.getD 1 0 % ws.length) default).need = oth at *
  have q1 : RQ 2100 (fun a b => rat (qadd a b)) [rat one, rat oth] (.ok (rat (qadd one oth))) := rq_mk (n0.qz.mono (by decide)) (n1.qz.mono (by decide))
  have z12 : Qz 2 ((1, 2) : Q2) := ⟨by show (1 : Int).natAbs < 2 ^ 2; decide, by show (2 : Int).natAbs < 2 ^ 2; decide, by show (2 : Int) ≠ 0; decide⟩
  have q2 : RQ 2100 (fun a b => rat (qmul a b)) [rat (1, 2), rat (qadd one oth)] (.ok (rat (qmul (1, 2) (qadd one oth)))) := rq_mk (z12.mono (by decide)) ((qadd_qz n0.qz n1.qz).mono (by decide))
  have q3 : R_law_ratio [natI (d.getD 2 0 % 50), natI (1 + d.getD 3 0 % 9)] (.ok (rat (nrm ((d.getD 2 0 % 50 : Nat) : Int) ((1 + d.getD 3 0 % 9 : Nat) : Int)))) := rr_nat (by omega) (by omega) (by omega)
  have c5 : Non0 6 (nrm ((d.getD 2 0 % 50 : Nat) : Int) ((1 + d.getD 3 0 % 9 : Nat) : Int)) := nrm_non0 (by omega) (by omega) (by omega)
  have c3 := half_ok n0 n1
  refine en_seq (rn_asgO (i := 7) (ds := [rat (0, 1), rat one, rat (qmul (1, 2) (qadd one oth)), rat (20, 1), rat (nrm ((d.getD 2 0 % 50 : Nat) : Int) ((1 + d.getD 3 0 % 9 : Nat) : Int))]) (ea_cons (by walk_at "ev") (ea_cons (ev_var rfl) (ea_cons (ev_callWE (ea_cons (by walk_at "ev") (ea_cons (ev_callWE (ea_cons (ev_var rfl) (ea_cons (ev_var rfl) ea_nil)) q1 rfl) ea_nil)) q2 rfl) (ea_cons (by walk_at "ev") (ea_cons (ev_callWE (ea_cons (by walk_at "nat") (ea_cons (by walk_at "nat") ea_nil)) q3 rfl) ea_nil))))) (by show 5 ≤ sizeLine; decide)) ?_
  generalize nrm ((d.getD 2 0 % 50 : Nat) : Int) ((1 + d.getD 3 0 % 9 : Nat) : Int) = fif at *
  generalize qmul (1, 2) (qadd one oth) = hal at *
  have non20 : Non0 20 ((20, 1) : Q2) := ⟨⟨by decide, by decide⟩, by decide, ⟨by show (20 : Int).natAbs < 2 ^ 20; decide, by show (1 : Int).natAbs < 2 ^ 20; decide, by show (1 : Int) ≠ 0; decide⟩⟩
  have non0 : Non0 20 ((0, 1) : Q2) := ⟨⟨by decide, by decide⟩, by decide, z_qz.mono (by decide)⟩
  have up : ∀ {q : Q2}, Non0 6 q → Non0 20 q := fun h => ⟨h.nf, h.pos, h.qz.mono (by decide)⟩
  have all : ∀ q ∈ [(0, 1), one, hal, (20, 1), fif, b], Non0 20 q := fun q hq => by
    rcases List.mem_cons.mp hq with e | hq
    · rw [e]; exact non0
    rcases List.mem_cons.mp hq with e | hq
    · rw [e]; exact up n0
    rcases List.mem_cons.mp hq with e | hq
    · rw [e]; exact c3
    rcases List.mem_cons.mp hq with e | hq
    · rw [e]; exact non20
    rcases List.mem_cons.mp hq with e | hq
    · rw [e]; exact up c5
    · rw [List.mem_singleton.mp hq]; exact up nb
  have wc : ∀ {h : Q2}, Non0 20 h → R_work_cost [rat pay, .list (ws.map wkD), rat h] (.ok (rat (cosF pay ws h))) := fun {h} hh => ⟨.list, pay, h, ws, m, ⟨.inl rfl⟩, rfl, o, hh, rfl⟩
  have lc : ∀ {h : Q2}, Non0 20 h → R_law_cost_of [rat pay, .list (ws.map wkD), rat h] (.ok (rat (cosF pay ws h))) := fun {h} hh => ⟨pay, h, ws, m, rfl, o, hh.qz, rfl⟩
  refine en_seq (rn_none (js := [8]) (l := [(0, 1), one, hal, (20, 1), fif, b].map rat) (src_list (W := fun _ _ _ _ => False) (ev_cat (l := [rat (0, 1), rat one, rat hal, rat (20, 1), rat fif]) (m := [rat b]) (ef_own (i := 7) rfl) (ef_lst (ea_cons (ev_op (ev_var rfl) ev_int (rd_ix_T rfl)) ea_nil) (by show 1 ≤ sizeLine; decide)) (by show 6 ≤ sizeLine; decide))) (fun i x hx => ?_)) ?_
  · obtain ⟨q, hq, rfl⟩ := List.mem_map.mp (List.mem_of_getElem? hx)
    have nq := all q hq
    have mq : RM 10 [rat (cosF pay ws q), rat (cosF pay ws q)] (.ok (.bool true)) := ⟨_, rfl, mk_rat _ _, rfl⟩
    exact ⟨_, _, as_name, rn_ifF' (et_not (et_B (ev_callWE (ea_cons (ev_callWE (ea_cons (ev_var rfl) (ea_cons (ev_var rfl) (ea_cons (ev_var rfl) ea_nil))) (wc nq) rfl) (ea_cons (ev_callWE (ea_cons (ev_var rfl) (ea_cons (ev_var rfl) (ea_cons (ev_var rfl) ea_nil))) (lc nq) rfl) ea_nil)) mq rfl))) (by rfl) rn_next, by walk_at "less"⟩
  have tq : R_work_task TKC [rat pay, .list (ws.map wkD)] (.ok (taskD TKC (wRs m) (wNds pay ws))) := ⟨.list, pay, ws, m, ⟨.inl rfl⟩, rfl, o, rfl⟩
  have pq : R_law_task_parts [rat pay, .list (ws.map wkD)] (.ok (.list [.tuple ((wRs m).map rndD), .tuple ((wNds pay ws).map ndD)])) := ⟨pay, ws, m, rfl, o, rfl⟩
  have mr : RM 10 [.tuple ((wRs m).map rndD), .tuple ((wRs m).map rndD)] (.ok (.bool true)) := ⟨_, rfl, tk.1, rfl⟩
  have mn : RM 10 [.tuple ((wNds pay ws).map ndD), .tuple ((wNds pay ws).map ndD)] (.ok (.bool true)) := ⟨_, rfl, tk.2, rfl⟩
  by_cases hp : 0 < b.1
  · obtain ⟨nl, ll⟩ := less_ok nb hp
    have z99 : Qz 7 ((99, 100) : Q2) := ⟨by show (99 : Int).natAbs < 2 ^ 7; decide, by show (100 : Int).natAbs < 2 ^ 7; decide, by show (100 : Int) ≠ 0; decide⟩
    have qm : RQ 2100 (fun a b => rat (qmul a b)) [rat b, rat (99, 100)] (.ok (rat (qmul b (99, 100)))) := rq_mk (nb.qz.mono (by decide)) (z99.mono (by decide))
    have big := hless _ nl.nf nl.pos ll
    have wl := wc nl
    have cz := cosF_qz o nl.qz
    have cb := cosF_qz o b20
    have cn := (cos_rv o nl.nf ws.length (Nat.le_refl _)).1
    have cn2 := (cos_rv o nb.nf ws.length (Nat.le_refl _)).1
    change Nf (cosF pay ws (qmul b (99, 100))) at cn
    change Nf (cosF pay ws b) at cn2
    generalize qmul b (99, 100) = lb at *
    generalize cosF pay ws lb = cl at *
    have ir : R_law_is_ratio [rat cl] (.ok (.bool true)) := ⟨rat cl, rfl, rfl, fun x y e => by
      have e1 : cl.2 = y := by
        have := PyData.tuple.inj e
        have := List.cons.inj (List.cons.inj this).2
        exact PyData.int.inj this.1
      rw [← e1]; exact cz.b.mono (by decide), by rw [isRt_nf cn]⟩
    have bl : RQ 2100 (fun a b => .bool (decide (a.1 * b.2 < b.1 * a.2))) [rat (cosF pay ws b), rat cl] (.ok (.bool true)) := by
      have := rq_mk (n := 2100) (f := fun a b => .bool (decide (a.1 * b.2 < b.1 * a.2))) (cb.mono (by decide)) (cz.mono (by decide))
      rwa [decide_eq_true ((rv_lt cn2.pos cn.pos).mp big)] at this
    refine en_seq (rn_ifT' (et_test (ev_op (ev_op (ev_op (ev_var rfl) ev_int (rd_ix_T rfl)) ev_int (rd_ix_T rfl)) ev_int rd_I0b)) (by exact decide_eq_true hp) (rn_seq (rn_asgE (ev_callWE (ea_cons (ev_var rfl) (ea_cons (ev_var rfl) (ea_cons (ev_callWE (ea_cons (ev_op (ev_var rfl) ev_int (rd_ix_T rfl)) (ea_cons (by walk_at "ev") ea_nil)) qm rfl) ea_nil))) wl rfl) rfl) (rn_ifF' (et_or (et_not (et_B (ev_callWE (ea_cons (ev_var rfl) ea_nil) ir rfl))) fun _ => et_not (et_B (ev_callWE (ea_cons (ev_op (ev_var rfl) ev_int (rd_ix_T rfl)) (ea_cons (ev_var rfl) ea_nil)) bl rfl))) (by rfl) rn_next))) ?_
    refine en_seq (rn_asgE (ev_callWE (ea_cons (ev_var rfl) (ea_cons (ev_var rfl) ea_nil)) tq rfl) rfl) ?_
    refine en_seq (rn_asgE (ev_callWE (ea_cons (ev_var rfl) (ea_cons (ev_var rfl) ea_nil)) pq rfl) rfl) ?_
    refine en_seq (rn_ifF' (et_or (et_not (et_B (ev_callWE (ea_cons (ev_fld (ev_var rfl) k1 k2 rfl) (ea_cons (ev_op (ev_var rfl) ev_int (rd_ix_L rfl)) ea_nil)) mr rfl))) fun _ => et_not (et_B (ev_callWE (ea_cons (ev_fld (ev_var rfl) k1 k3 rfl) (ea_cons (ev_op (ev_var rfl) ev_int (rd_ix_L rfl)) ea_nil)) mn rfl))) (by rfl) rn_next) ?_
    exact en_rt (rn_ret (ev_op (ev_var rfl) (ev_var rfl) (rd_eqX (wks_shaped ws) (wks_shaped ws)))) (by rw [wks_eqv])
  · refine en_seq (rn_ifF' (et_test (ev_op (ev_op (ev_op (ev_var rfl) ev_int (rd_ix_T rfl)) ev_int (rd_ix_T rfl)) ev_int rd_I0b)) (by exact decide_eq_false hp) rn_next) ?_
    refine en_seq (rn_asgE (ev_callWE (ea_cons (ev_var rfl) (ea_cons (ev_var rfl) ea_nil)) tq rfl) rfl) ?_
    refine en_seq (rn_asgE (ev_callWE (ea_cons (ev_var rfl) (ea_cons (ev_var rfl) ea_nil)) pq rfl) rfl) ?_
    refine en_seq (rn_ifF' (et_or (et_not (et_B (ev_callWE (ea_cons (ev_fld (ev_var rfl) k1 k2 rfl) (ea_cons (ev_op (ev_var rfl) ev_int (rd_ix_L rfl)) ea_nil)) mr rfl))) fun _ => et_not (et_B (ev_callWE (ea_cons (ev_fld (ev_var rfl) k1 k3 rfl) (ea_cons (ev_op (ev_var rfl) ev_int (rd_ix_L rfl)) ea_nil)) mn rfl))) (by rfl) rn_next) ?_
    exact en_rt (rn_ret (ev_op (ev_var rfl) (ev_var rfl) (rd_eqX (wks_shaped ws) (wks_shaped ws)))) (by rw [wks_eqv])
end
end K74
end
section
/-! ### the reading tactics -/
local macro_rules | `(tactic| walk_at "sz") => `(tactic| first
  | assumption
  | (apply DL.Sz.neg
     · walk_at "sz")
  | (apply DL.Sz.mul
     · walk_at "sz"
     · walk_at "sz")
  | (apply DL.Sz.add
     · walk_at "sz"
     · walk_at "sz")
  | (apply DL.Sz.sub
     · walk_at "sz"
     · walk_at "sz")
  | (apply DL.Sz.fmod
     · decide
     · walk_at "sz")
  | exact DL.Sz.self)
local macro_rules | `(tactic| walk_at "side") => `(tactic| first
  | assumption
  | (apply DL.cmulW_of
     · walk_at "sz"
     · walk_at "sz"
     · first | decide +kernel | omega)
  | rfl
  | decide
  | omega
  | (simp only [List.length_cons, List.length_nil]; decide)
  | (simp; done)
  | (simp only [PySem.sizeLine_eq, List.length_cons, List.length_nil]; omega))
local macro_rules | `(tactic| walk_at "rd") => `(tactic| first
  | exact DL.rd_addI
  | exact DL.rd_sub
  | exact DL.rd_mulL (by decide) (by decide)
  | exact DL.rd_mulR (by decide) (by decide)
  | (refine DL.rd_mulI ?_
     · walk_at "side")
  | exact DL.rd_pow ⟨by decide, by decide, by decide⟩
  | exact DL.rd_mod (by show (_ : Int) ≠ _; first | decide | assumption)
  | exact DL.rd_ix_T rfl
  | exact DL.rd_ix_L rfl
  | exact DL.rd_eqI
  | exact DL.rd_inC
  | exact DL.rd_niC
  | exact DL.rd_ix_S (by assumption) (by assumption)
  | exact DL.rd_neI
  | exact DL.rd_eqT
  | exact DL.rd_neT
  | exact DL.rd_eqB
  | exact DL.rd_I0b
  | (refine DL.rd_addS ?_
     · walk_at "side")
  | (refine DL.rd_addT ?_
     · walk_at "side")
  | (refine DL.rd_fdiv ?_ ?_
     · walk_at "side"
     · walk_at "side")
  | (refine DL.rd_mod ?_
     · walk_at "side")
  | assumption)
local macro_rules | `(tactic| walk_at "rc") => `(tactic| first
  | exact DL.rc_gcd
  | exact DL.rc_abs
  | exact DL.rc_max2
  | exact DL.rc_intV
  | exact DL.rc_intB
  | exact DL.rc_len_t
  | exact DL.rc_list_l
  | exact DL.rc_list_t
  | exact DL.rc_tup_l
  | exact DL.rc_len_l
  | (apply DL.rc_len_s
     · walk_at "side")
  | (apply DL.rc_str
     · walk_at "side")
  | assumption)
local macro_rules | `(tactic| walk_at "call") => `(tactic| first
  | exact ⟨_, rfl, by assumption, rfl⟩
  | exact ⟨_, rfl, rfl⟩
  | exact ⟨_, _, rfl, rfl⟩
  | assumption
  | fail "call: no contract")
local macro_rules | `(tactic| walk_at "ep") => `(tactic| first
  | with_reducible exact DL.ep_no
  | (with_reducible apply DL.ep_some
     · walk_at "ev"))
local macro_rules | `(tactic| walk_at "ev") => `(tactic| first
  | assumption
  | (with_reducible apply DL.ev_var
     · rfl)
  | with_reducible exact DL.ev_int
  | with_reducible exact DL.ev_str
  | with_reducible exact DL.ev_bl
  | with_reducible exact DL.ev_non
  | with_reducible exact DL.ea_nil
  | exact DL.ev_glob (by assumption)
  | (with_reducible apply DL.ev_op
     · walk_at "ev"
     · walk_at "ev"
     · walk_at "rd")
  | (with_reducible apply DL.ea_cons
     · walk_at "ev"
     · walk_at "ev")
  | (with_reducible apply DL.ev_sl
     · walk_at "ev"
     · walk_at "ep"
     · walk_at "ep"
     · first | exact DL.rs_s (by assumption) | exact DL.rs_l | exact DL.rs_t)
  | (with_reducible apply DL.ev_un
     · walk_at "ev"
     · with_reducible exact DL.ru_neg)
  | (with_reducible apply DL.ev_isiE
     · walk_at "ev"
     · first | rfl | assumption
     · first | rfl | assumption
     · rfl)
  | (with_reducible apply DL.ev_tupH
     · walk_at "ev"
     · walk_at "side")
  | (with_reducible apply DL.ev_lstH
     · walk_at "ev"
     · walk_at "side")
  | (with_reducible apply DL.ev_cb
     · walk_at "ev"
     · walk_at "rc")
  | (with_reducible apply DL.et_test
     · walk_at "ev")
  | (with_reducible apply DL.et_B
     · walk_at "ev")
  | (with_reducible apply DL.et_not
     · walk_at "ev")
  | (with_reducible apply DL.et_and
     · walk_at "ev"
     · (intro _; walk_at "ev"))
  | (with_reducible apply DL.et_or
     · walk_at "ev"
     · (intro _; walk_at "ev"))
  | (with_reducible apply DL.ev_xf
     · rfl
     · rfl)
  | (with_reducible apply DL.ev_chain
     · walk_at "ev"
     · walk_at "ev"
     · walk_at "rd"
     · (intro _; walk_at "ev")
     · (intro _; walk_at "rd"))
  | (with_reducible apply DL.ev_fld
     · walk_at "ev"
     · assumption
     · assumption
     · rfl)
  | (with_reducible apply DL.ev_isN
     · walk_at "ev")
  | (with_reducible apply DL.ev_notN
     · walk_at "ev")
  | (with_reducible apply DL.ev_andV
     · walk_at "ev"
     · (intro _; walk_at "ev"))
  | (with_reducible apply DL.ev_orV
     · walk_at "ev"
     · (intro _; walk_at "ev"))
  | (with_reducible apply DL.ev_notV
     · walk_at "ev")
  | (with_reducible apply DL.ev_callE
     · walk_at "ev"
     · walk_at "call"
     · rfl)
  | (with_reducible apply DL.ev_callSE
     · walk_at "ev"
     · walk_at "call"
     · rfl))
local macro_rules | `(tactic| walk_at "less") => `(tactic| (
  (try simp only [List.set_cons_zero, List.set_cons_succ])
  repeat (first | exact DL.less_nil | apply DL.less_same | apply DL.less_no)))
local macro_rules | `(tactic| walk_at "nat") => `(tactic| first
  | assumption
  | (with_reducible apply DL.ev_var
     · rfl)
  | exact DL.ev_int
  | (apply DL.en_ix
     · walk_at "nat"
     · walk_at "nat"
     · omega)
  | (apply DL.en_add
     · walk_at "nat"
     · walk_at "nat")
  | (apply DL.en_mod
     · walk_at "nat"
     · walk_at "nat"
     · omega)
  | (apply DL.en_div
     · walk_at "nat"
     · walk_at "nat"
     · omega
     · omega)
  | (apply DL.en_mul
     · walk_at "nat"
     · walk_at "nat"
     · first | decide | omega
     · first | decide | omega))

set_option Elab.async false
set_option linter.all false
set_option maxRecDepth 100000
set_option maxHeartbeats 4000000
set_option exponentiation.threshold 10000
/-! K74P: the law -/
namespace K74
open PySem PySem.Spec PyProof.Rows L2 DL
section
variable {P : Program} {w : World} {K : PySem.W.Frag} {mg : Str → Option Value} {base : Heap} {Z0 Z1 CB CM CK TKC CX1 : Addr}

abbrev s_law : Stmt := topS 63
theorem sc_law : FnScope ["script", "shape", "k", "pay", "nodes"] ["script"] (defScope s_law) := ⟨rfl, rfl, rfl, by decide +kernel, rfl, by decide +kernel, by decide +kernel⟩
def R_law (ds : List PyData) (r : Res PyData) : Prop := ∃ ns : List Int, ds = [.list (ns.map .int)] ∧ r = .ok (.bool true)
theorem cut_mid (l : List PyData) (i j : Nat) (h : i ≤ j) : DL.cutD l (some (i : Int)) (some (j : Int)) = (l.take j).drop i := by
  unfold DL.cutD
  rw [HT.sIx_nat, HT.sIx_nat]
  refine List.ext_getElem? fun n => ?_
  rw [List.getElem?_take, List.getElem?_drop, List.getElem?_drop, List.getElem?_take]
  by_cases h1 : i ≤ l.length
  · by_cases h2 : j ≤ l.length
    · rw [Nat.min_eq_left h1, Nat.min_eq_left h2]
      by_cases c : n < j - i
      · rw [if_pos c, if_pos (by omega)]
      · rw [if_neg c, if_neg (by omega)]
    · rw [Nat.min_eq_left h1, Nat.min_eq_right (by omega)]
      by_cases c : n < l.length - i
      · rw [if_pos c, if_pos (by omega)]
      · rw [if_neg c]
        by_cases c2 : i + n < j
        · rw [if_pos c2, List.getElem?_eq_none (by omega)]
        · rw [if_neg c2]
  · rw [Nat.min_eq_right (by omega)]
    by_cases h2 : j ≤ l.length
    · omega
    · rw [Nat.min_eq_right (by omega), Nat.sub_self, if_neg (by omega)]
      by_cases c2 : i + n < j
      · rw [if_pos c2, List.getElem?_eq_none (by omega)]
      · rw [if_neg c2]
theorem len_law : ∀ ds r, R_law ds r → ds.length = (["script"] : List Str).length := by
  rintro _ _ ⟨_, rfl, _⟩; rfl
theorem ok_law (T : Tx K mg Z0 Z1) (D : DefAt K mg "law" s_law []) (c__law_draws : CalX P w K mg base CX0 1 "_law_draws" [] R_law_draws) (c__law_cell : CalX P w K mg base CX0 1 "_law_cell" [] R_law_cell) (c__law_work : CalX P w K mg base CX0 5 "_law_work" [] R_law_work) (c__law_fan : CalX P w K mg base CX0 3 "_law_fan" [] R_law_fan) (c__law_right : CalX P w K mg base CX0 13 "_law_right" [] R_law_right) : LawX P w K mg base 14 s_law R_law := by
  refine okL D sc_law len_law fun f cdv A outer s H Ex hr => ⟨_, (pss_cons (ps_set (i := 1) sc_law.nd rfl (by first | exact Or.inl rfl | exact Or.inr rfl) (pe_cal c__law_draws hr (by decide) (fun σ => p0At σ) (pa_cons (pe_cal c__law_cell hr (by decide) (fun σ => p0At σ) (pa_cons (pv 0) (pa_cons pe_int pa_nil))) (pa_cons pe_int pa_nil))))
    (pss_cons (ps_for PassesOwn.never rfl (pi_range1 rfl T.n_range (pa_cons pe_int pa_nil)) (pg_name (i := 2) sc_law.nd rfl (by first | exact Or.inl rfl | exact Or.inr rfl)) (pss_cons (ps_asg (pe_cal c__law_work hr (by decide) (fun σ => p0At σ) (pa_cons (pv 0) (pa_cons (pe_op op_addU pe_int (pe_op op_mulU pe_int (pv 2))) pa_nil))) (pg_lst (n := 2) (by rfl) (pgs_cons (pg_name (i := 3) sc_law.nd rfl (by first | exact Or.inl rfl | exact Or.inr rfl)) (pgs_cons (pg_name (i := 4) sc_law.nd rfl (by first | exact Or.inl rfl | exact Or.inr rfl)) pgs_nil))))
    (pss_cons (ps_if (PW.pt (pw_and (pt_cmpR (op_eqU (hu64 hr)) (pv 2) pe_int (nomark _)) (pw_and1 (pt_cmpR (op_eqU (hu64 hr)) (pe_op op_modN (pe_ix ix_seq (pv 1) pe_int (fun _ _ => rfl)) pe_int) pe_int (nomark _))))) (pss_one (ps_asg (pe_cal c__law_fan hr (by decide) (fun σ => p0At σ) (pa_cons (pe_cal c__law_draws hr (by decide) (fun σ => p0At σ) (pa_cons (pe_cal c__law_cell hr (by decide) (fun σ => p0At σ) (pa_cons (pv 0) (pa_cons pe_int pa_nil))) (pa_cons pe_int pa_nil))) pa_nil)) (pg_lst (n := 2) (by rfl) (pgs_cons (pg_name (i := 3) sc_law.nd rfl (by first | exact Or.inl rfl | exact Or.inr rfl)) (pgs_cons (pg_name (i := 4) sc_law.nd rfl (by first | exact Or.inl rfl | exact Or.inr rfl)) pgs_nil))))) pss_nil)
    (pss_one (ps_if (pt_not (pt_val (pe_cal c__law_right hr (by decide) (fun σ => p0At σ) (pa_cons (pv 3) (pa_cons (pv 4) (pa_cons (pe_slice sl_U (pv 1) (po_some (pe_op op_addU pe_int (pe_op op_mulU pe_int (pv 2)))) (po_some (pe_op op_addU pe_int (pe_op op_mulU pe_int (pv 2))))) pa_nil)))))) (pss_one (ps_ret pe_bl)) pss_nil)))))
    (pss_one (ps_ret pe_bl)))), ?_⟩

  rintro ds r ⟨ns, rfl, rfl⟩
  have cl : ∀ k : Nat, R_law_cell [.list (ns.map .int), .int (k : Int)] (.ok (.int (cellF ns k))) := fun k => ⟨ns, k, rfl, rfl⟩
  have sl : (drawsN (cellF ns 0) 12).length = 12 := drawsN_len _ _
  have slt := drawsN_lt (cellF ns 0) 12
  refine en_seq (rn_asgE (d := .list ((drawsN (cellF ns 0) 12).map fun n : Nat => PyData.int (n : Int))) (ev_callWE (ea_cons (ev_callWE (ea_cons (ev_var rfl) (ea_cons ev_int ea_nil)) (cl 0) rfl) (ea_cons ev_int ea_nil)) (dr_ok (n := 12) (by decide)) rfl) rfl) ?_
  generalize drawsN (cellF ns 0) 12 = S at *
  have cut : ∀ k : Nat, k < 2 → DL.cutD (S.map fun n : Nat => PyData.int (n : Int)) (some ((1 + 5 * k : Nat) : Int)) (some ((6 + 5 * k : Nat) : Int)) = ((S.take (6 + 5 * k)).drop (1 + 5 * k)).map fun n : Nat => PyData.int (n : Int) := fun k _ => by
    rw [cut_mid _ _ _ (by omega), List.map_drop, List.map_take]
  have plen : ∀ k : Nat, k < 2 → ((S.take (6 + 5 * k)).drop (1 + 5 * k)).length = 5 := fun k hk => by
    rw [List.length_drop, List.length_take, sl]; omega
  have plt : ∀ k : Nat, ∀ x ∈ (S.take (6 + 5 * k)).drop (1 + 5 * k), x < 1000 := fun k x hx => slt x (List.mem_of_mem_take (List.mem_of_mem_drop hx))
  refine en_seq (rn_none (js := [2]) (src_rng1 (W := fun _ _ _ _ => False) (j := (2 : Int)) (ea_cons ev_int ea_nil) (by omega) (by omega)) (fun i x hx => ?_)) (en_rt (rn_ret ev_bl) rfl)
  obtain ⟨hi, rfl⟩ := iota_at hx
  have hi : i < 2 := hi
  have wq : R_law_work [.list (ns.map .int), natI (1 + 3 * i)] (.ok (pwD (wPay ns (1 + 3 * i)) (wWs ns (1 + 3 * i)))) := ⟨ns, 1 + 3 * i, rfl, rfl⟩
  have fl : (drawsN (cellF ns 4) 50).length = 50 := drawsN_len _ _
  have fq : R_law_fan [.list ((drawsN (cellF ns 4) 50).map fun n : Nat => PyData.int (n : Int))] (.ok (pwD (fpay (drawsN (cellF ns 4) 50)) (fanF (drawsN (cellF ns 4) 50)))) := ⟨_, rfl, fl, rfl⟩
  have rq : ∀ (pay : Q2) (ws : List Wk) (m : Nat), WkOk pay ws m → R_law_right [rat pay, .list (ws.map wkD), .list (((S.take (6 + 5 * i)).drop (1 + 5 * i)).map fun n : Nat => PyData.int (n : Int))] (.ok (.bool true)) := fun pay ws m o => ⟨pay, ws, m, _, rfl, o, plen i hi, plt i, rfl⟩
  have o1 := wOk ns (1 + 3 * i)
  have o2 := fan_ok (drawsN (cellF ns 4) 50)
  have dr4 : R_law_draws [.int (cellF ns 4), natI 50] (.ok (.list ((drawsN (cellF ns 4) 50).map fun n : Nat => PyData.int (n : Int)))) := dr_ok (by decide)
  have c4 := cl 4
  generalize drawsN (cellF ns 4) 50 = D4 at *
  generalize wPay ns (1 + 3 * i) = p1 at *
  generalize wWs ns (1 + 3 * i) = w1 at *
  generalize toLs ns (1 + 3 * i) = m1 at *
  by_cases e : i = 1 ∧ S.getD 0 0 % 8 = 5
  · refine ⟨_, _, as_name, rn_seq (rn_asgG (js := [3, 4]) (d := pwD p1 w1) (ev_callWE (ea_cons (ev_var rfl) (ea_cons (en_add (a := 1) ev_int (en_mul (a := 3) ev_int (ev_var rfl) (by decide) (by omega))) ea_nil)) wq rfl) (as_lst (as_cons as_name (as_cons as_name as_nil)) rfl)) (rn_seq (rn_ifT' (et_and (et_test (ev_op (ev_var rfl) ev_int rd_eqI)) fun _ => et_test (ev_op (x := natI (S.getD 0 0 % 8)) (by walk_at "nat") ev_int rd_eqI)) (by rw [Bool.and_eq_true]; exact ⟨decide_eq_true (by omega), decide_eq_true (by omega)⟩) (rn_asgG (js := [3, 4]) (d := pwD (fpay D4) (fanF D4)) (ev_callWE (ea_cons (ev_callWE (ea_cons (ev_callWE (ea_cons (ev_var rfl) (ea_cons ev_int ea_nil)) c4 rfl) (ea_cons ev_int ea_nil)) dr4 rfl) ea_nil) fq rfl) (as_lst (as_cons as_name (as_cons as_name as_nil)) rfl))) (rn_ifF' (et_not (et_B (ev_callWE (ea_cons (ev_var rfl) (ea_cons (ev_var rfl) (ea_cons (ev_is (ev_sl (x := .list (S.map fun n : Nat => PyData.int (n : Int))) (ev_var rfl) (ep_some (i := ((1 + 5 * i : Nat) : Int)) (en_add (a := 1) (b := 5 * i) ev_int (en_mul (a := 5) (b := i) ev_int (ev_var rfl) (by decide) (by omega)))) (ep_some (i := ((6 + 5 * i : Nat) : Int)) (en_add (a := 6) (b := 5 * i) ev_int (en_mul (a := 5) (b := i) ev_int (ev_var rfl) (by decide) (by omega)))) rs_l) (congrArg PyData.list (cut i hi))) ea_nil))) (rq _ _ _ o2) rfl))) (by rfl) rn_next)), by walk_at "less"⟩
  · refine ⟨_, _, as_name, rn_seq (rn_asgG (js := [3, 4]) (d := pwD p1 w1) (ev_callWE (ea_cons (ev_var rfl) (ea_cons (en_add (a := 1) ev_int (en_mul (a := 3) ev_int (ev_var rfl) (by decide) (by omega))) ea_nil)) wq rfl) (as_lst (as_cons as_name (as_cons as_name as_nil)) rfl)) (rn_seq (rn_ifF' (et_and (et_test (ev_op (ev_var rfl) ev_int rd_eqI)) fun _ => et_test (ev_op (x := natI (S.getD 0 0 % 8)) (by walk_at "nat") ev_int rd_eqI)) (by
      rw [Bool.and_eq_false_iff]
      by_cases z : i = 1
      · exact .inr (decide_eq_false (by have : ¬ S.getD 0 0 % 8 = 5 := fun h => e ⟨z, h⟩
                                        omega))
      · exact .inl (decide_eq_false (by omega))) rn_next) (rn_ifF' (et_not (et_B (ev_callWE (ea_cons (ev_var rfl) (ea_cons (ev_var rfl) (ea_cons (ev_is (ev_sl (x := .list (S.map fun n : Nat => PyData.int (n : Int))) (ev_var rfl) (ep_some (i := ((1 + 5 * i : Nat) : Int)) (en_add (a := 1) (b := 5 * i) ev_int (en_mul (a := 5) (b := i) ev_int (ev_var rfl) (by decide) (by omega)))) (ep_some (i := ((6 + 5 * i : Nat) : Int)) (en_add (a := 6) (b := 5 * i) ev_int (en_mul (a := 5) (b := i) ev_int (ev_var rfl) (by decide) (by omega)))) rs_l) (congrArg PyData.list (cut i hi))) ea_nil))) (rq _ _ _ o1) rfl))) (by rfl) rn_next)), by walk_at "less"⟩
end
end K74
end
set_option Elab.async false
set_option linter.all false
set_option maxRecDepth 1000000
set_option maxHeartbeats 0
set_option exponentiation.threshold 10000
/-! K74Z: the head and the end. -/
namespace K74
open PySem PySem.Spec PyProof.Rows L2 DL He
abbrev P0 : Program := PySem.Challenge.pw_plansasnewscome_k74_hands_hired
def fn0 : List DefD := ([dD "ratio" s_ratio [.int 1], dD "plus" s_plus [], dD "minus" s_minus [], dD "times" s_times [], dD "compare" s_compare [], dD "is_whole" s_is_whole [], dD "is_ratio" s_is_ratio [], dD "is_name" s_is_name [], dD "checked_rounds" s_checked_rounds [], dD "checked_depth" s_checked_depth [], dD "checked_row" s_checked_row [], dD "checked_node" s_checked_node [], dD "children_of" s_children_of [], dD "check_tree" s_check_tree [], dD "tree_depths" s_tree_depths [], dD "check_work" s_check_work [], dD "work_task" s_work_task [], dD "saved_rates" s_saved_rates [], dD "cost_with" s_cost_with [], dD "work_cost" s_work_cost [], dD "work_hired" s_work_hired [], dD "_law_cell" s__law_cell [], dD "_law_draws" s__law_draws [], dD "_law_gcd" s__law_gcd [], dD "_law_ratio" s__law_ratio [], dD "_law_add" s__law_add [], dD "_law_mul" s__law_mul [], dD "_law_below" s__law_below [], dD "_law_is_whole" s__law_is_whole [], dD "_law_is_ratio" s__law_is_ratio []] : List DefD) ++ ([dD "_law_tree" s__law_tree [], dD "_law_chances" s__law_chances [], dD "_law_match" s__law_match [], dD "_law_minus" s__law_minus [], dD "_law_tree_of" s__law_tree_of [], dD "_law_work" s__law_work [], dD "_law_fan" s__law_fan [], dD "_law_task_parts" s__law_task_parts [], dD "_law_cost_of" s__law_cost_of [], dD "_law_best_of" s__law_best_of [], dD "_law_right" s__law_right [], dD "law" s_law [], (⟨(("Task" : Str), some ("__init__" : Str)), "__init__", "Task.__init__", defArgs s_Task___init__, defBody s_Task___init__, defScope s_Task___init__, [], []⟩ : DefD)] : List DefD)
def fa0 : List Fa := ([.glo "ratio", .glo "plus", .glo "minus", .glo "times", .glo "compare", .glo "is_whole", .glo "is_ratio", .glo "is_name", .glo "checked_rounds", .glo "checked_depth", .glo "checked_row", .glo "checked_node", .glo "children_of", .glo "check_tree", .glo "tree_depths", .glo "check_work", .glo "work_task", .glo "saved_rates", .glo "cost_with", .glo "work_cost", .glo "work_hired", .glo "_law_cell", .glo "_law_draws", .glo "_law_gcd", .glo "_law_ratio", .glo "_law_add", .glo "_law_mul", .glo "_law_below", .glo "_law_is_whole", .glo "_law_is_ratio"] : List Fa) ++ ([.glo "_law_tree", .glo "_law_chances", .glo "_law_match", .glo "_law_minus", .glo "_law_tree_of", .glo "_law_work", .glo "_law_fan", .glo "_law_task_parts", .glo "_law_cost_of", .glo "_law_best_of", .glo "_law_right", .glo "law", .glo "BadNumber", .glo "BadTask", .glo "TooMany", .glo "BadKind", .glo "ZERO", .glo "ONE", .free "abs", .free "bool", .free "int", .free "isinstance", .free "len", .free "list", .free "max", .free "range", .free "str", .free "sum", .free "tuple", .free "super"] : List Fa) ++ ([.int "MOST_SIGNS" 12, .int "MOST_ROUNDS" 4, .int "MOST_VARIABLES" 3, .int "MOST_NODES" 16, .int "MOST_ROWS" 8, .str "LETTERS" "abcdefghijklmnopqrstuvwxyz", .str "SIGNS" "abcdefghijklmnopqrstuvwxyz0123456789_", .noat "BadNumber" "value", .noat "BadTask" "word", .noat "BadTask" "place", .noat "TooMany" "word", .noat "TooMany" "limit", .noat "BadKind" "word", .noat "BadKind" "place", .cls "Task", .mkr "Task", .glo "Task", .noat "Task" "rounds", .noat "Task" "nodes", .noat "Task" "depths", .noat "Task" "children", .noat "Task" "courses"] : List Fa)
def sd0 : List SupD := [⟨"BadNumber", "BadNumber.__init__", initOf (topS 4)⟩, ⟨"BadTask", "BadTask.__init__", initOf (topS 5)⟩, ⟨"TooMany", "TooMany.__init__", initOf (topS 6)⟩, ⟨"BadKind", "BadKind.__init__", initOf (topS 7)⟩]
def ex0 (K : PySem.W.Frag) : Bool := noDigB K && (supCB K (ga K "BadNumber") && (supFB K (ga K "BadNumber") P0.main.file "BadNumber.__init__" && (xfB K (ga K "BadNumber") && (supCB K (ga K "BadTask") && (supFB K (ga K "BadTask") P0.main.file "BadTask.__init__" && (xfB K (ga K "BadTask") && (supCB K (ga K "TooMany") && (supFB K (ga K "TooMany") P0.main.file "TooMany.__init__" && (xfB K (ga K "TooMany") && (supCB K (ga K "BadKind") && (supFB K (ga K "BadKind") P0.main.file "BadKind.__init__" && (xfB K (ga K "BadKind") && (tupB K "ZERO" [.int 0, .int 1] && (tupB K "ONE" [.int 1, .int 1] && (bltB K "gcd" "math.gcd")))))))))))))))
abbrev R0 : PySem.W.OpenRow := PySem.W.OpenLaw.row PySem.Challenge.rw_plansasnewscome_k74_hands_hired
abbrev hk0 : PySem.W.Hook := hookY 5 fa0 fn0 sd0 ex0
def ob0 (s : PySem.W.SharedT) : AlY := obsYG 5 fa0 fn0 sd0 ex0 (HandSHeadRun.getT s)
theorem ob_eq (s : PySem.W.SharedT) : ob0 s = hk0.obs s.abs := obsYG_eq (HandSHeadRun.getT_eq s)
def loose0 : List Str := (["_wall", "__name__", "PlanError", "BadNumber", "BadTask", "TooMany", "BadKind", "ZERO", "ONE", "ratio", "plus", "minus", "times", "compare", "is_whole", "is_ratio", "LETTERS", "SIGNS", "MOST_SIGNS", "MOST_ROUNDS", "MOST_VARIABLES", "MOST_NODES", "MOST_ROWS", "is_name", "checked_rounds", "checked_depth", "checked_row", "checked_node", "children_of", "check_tree"] : List Str) ++ (["Task", "tree_depths", "check_work", "work_task", "saved_rates", "cost_with", "work_cost", "work_hired", "_law_cell", "_law_draws", "_law_gcd", "_law_ratio", "_law_add", "_law_mul", "_law_below", "_law_is_whole", "_law_is_ratio", "_law_tree", "_law_chances", "_law_match", "_law_minus", "_law_tree_of", "_law_work", "_law_fan", "_law_task_parts", "_law_cost_of", "_law_best_of", "_law_right"] : List Str)
theorem run0 (w : World) : HandSHeadRun.RunEqI R0 (PySem.W.view R0.prog [0, 63]) hk0 ob0 5000 loose0 w := by
  unfold HandSHeadRun.RunEqI
  kernel_rfl
abbrev pl0 : Sem Bool := do return (← (pure (some false) : Sem (Option Bool))).getD true
theorem all0 {w : World} {K : PySem.W.Frag} {h : Heap} {mg : Str → Option Value} (X : K.In h) (G : h.Ns mainGlobals mg) (c : SaysY fa0 fn0 sd0 ex0 K) (base : Heap) : DefAt K mg "law" s_law [] ∧ LawX P0 w K mg base 14 s_law R_law := by
  have d := c.d
  have m : ex0 K = true := c.more
  unfold ex0 at m
  have D_ratio : DefAt K mg "ratio" s_ratio [.int 1] := defat d X G 0 0
  have D_plus : DefAt K mg "plus" s_plus [] := defat d X G 1 1
  have D_minus : DefAt K mg "minus" s_minus [] := defat d X G 2 2
  have D_times : DefAt K mg "times" s_times [] := defat d X G 3 3
  have D_compare : DefAt K mg "compare" s_compare [] := defat d X G 4 4
  have D_is_whole : DefAt K mg "is_whole" s_is_whole [] := defat d X G 5 5
  have D_is_ratio : DefAt K mg "is_ratio" s_is_ratio [] := defat d X G 6 6
  have D_is_name : DefAt K mg "is_name" s_is_name [] := defat d X G 7 7
  have D_checked_rounds : DefAt K mg "checked_rounds" s_checked_rounds [] := defat d X G 8 8
  have D_checked_depth : DefAt K mg "checked_depth" s_checked_depth [] := defat d X G 9 9
  have D_checked_row : DefAt K mg "checked_row" s_checked_row [] := defat d X G 10 10
  have D_checked_node : DefAt K mg "checked_node" s_checked_node [] := defat d X G 11 11
  have D_children_of : DefAt K mg "children_of" s_children_of [] := defat d X G 12 12
  have D_check_tree : DefAt K mg "check_tree" s_check_tree [] := defat d X G 13 13
  have D_tree_depths : DefAt K mg "tree_depths" s_tree_depths [] := defat d X G 14 14
  have D_check_work : DefAt K mg "check_work" s_check_work [] := defat d X G 15 15
  have D_work_task : DefAt K mg "work_task" s_work_task [] := defat d X G 16 16
  have D_saved_rates : DefAt K mg "saved_rates" s_saved_rates [] := defat d X G 17 17
  have D_cost_with : DefAt K mg "cost_with" s_cost_with [] := defat d X G 18 18
  have D_work_cost : DefAt K mg "work_cost" s_work_cost [] := defat d X G 19 19
  have D_work_hired : DefAt K mg "work_hired" s_work_hired [] := defat d X G 20 20
  have D__law_cell : DefAt K mg "_law_cell" s__law_cell [] := defat d X G 21 21
  have D__law_draws : DefAt K mg "_law_draws" s__law_draws [] := defat d X G 22 22
  have D__law_gcd : DefAt K mg "_law_gcd" s__law_gcd [] := defat d X G 23 23
  have D__law_ratio : DefAt K mg "_law_ratio" s__law_ratio [] := defat d X G 24 24
  have D__law_add : DefAt K mg "_law_add" s__law_add [] := defat d X G 25 25
  have D__law_mul : DefAt K mg "_law_mul" s__law_mul [] := defat d X G 26 26
  have D__law_below : DefAt K mg "_law_below" s__law_below [] := defat d X G 27 27
  have D__law_is_whole : DefAt K mg "_law_is_whole" s__law_is_whole [] := defat d X G 28 28
  have D__law_is_ratio : DefAt K mg "_law_is_ratio" s__law_is_ratio [] := defat d X G 29 29
  have D__law_tree : DefAt K mg "_law_tree" s__law_tree [] := defat d X G 30 30
  have D__law_chances : DefAt K mg "_law_chances" s__law_chances [] := defat d X G 31 31
  have D__law_match : DefAt K mg "_law_match" s__law_match [] := defat d X G 32 32
  have D__law_minus : DefAt K mg "_law_minus" s__law_minus [] := defat d X G 33 33
  have D__law_tree_of : DefAt K mg "_law_tree_of" s__law_tree_of [] := defat d X G 34 34
  have D__law_work : DefAt K mg "_law_work" s__law_work [] := defat d X G 35 35
  have D__law_fan : DefAt K mg "_law_fan" s__law_fan [] := defat d X G 36 36
  have D__law_task_parts : DefAt K mg "_law_task_parts" s__law_task_parts [] := defat d X G 37 37
  have D__law_cost_of : DefAt K mg "_law_cost_of" s__law_cost_of [] := defat d X G 38 38
  have D__law_best_of : DefAt K mg "_law_best_of" s__law_best_of [] := defat d X G 39 39
  have D__law_right : DefAt K mg "_law_right" s__law_right [] := defat d X G 40 40
  have D_law : DefAt K mg "law" s_law [] := defat d X G 41 41
  have D_Task___init__ : InitAt K mg "Task" (ga K "Task") "Task.__init__" s_Task___init__ := initat d X G 42 74 75 76
  have k : TkC K (ga K "Task") := ⟨cls_ok (d.fact 74 (f := .cls "Task") rfl), noat_ok (d.fact 77 (f := .noat "Task" "rounds") rfl), noat_ok (d.fact 78 (f := .noat "Task" "nodes") rfl), noat_ok (d.fact 79 (f := .noat "Task" "depths") rfl), noat_ok (d.fact 80 (f := .noat "Task" "children") rfl), noat_ok (d.fact 81 (f := .noat "Task" "courses") rfl)⟩
  have SC_BadNumber := supC_of (P := P0) (mg := mg) (ba (ba m).2).1 (by decide +kernel) (free_ok X G (d.fact 59 (f := .free "super") rfl))
  obtain ⟨fd_BadNumber, SF_BadNumber⟩ := supF_of (P := P0) (c.sup 0 (d := ⟨"BadNumber", "BadNumber.__init__", initOf (topS 4)⟩) rfl) (ba (ba (ba m).2).2).1
  have e_BadNumber : Err1 P0 w K mg base "BadNumber" (ga K "BadNumber") "value" := err1_of (msg := "not a valid number") (pl := pl0) SC_BadNumber SF_BadNumber (xfB_ok (ba (ba (ba (ba m).2).2).2).1) (noat_ok (d.fact 67 (f := .noat "BadNumber" "value") rfl)) (glo_ok X G (d.fact 42 (f := .glo "BadNumber") rfl)) ⟨rfl, rfl, rfl, rfl, by decide +kernel, by decide +kernel, by decide, rfl, rfl, ⟨_, rfl, rfl⟩, fun _ _ _ => rfl, fun _ _ _ => rfl, fun _ _ _ => rfl, fun _ _ _ => rfl⟩ ⟨rfl, rfl, fun _ _ _ => rfl⟩ (by decide) (fun _ _ _ _ _ _ _ us hl => match us, hl with | [_, _], _ => rfl)
  have SC_BadTask := supC_of (P := P0) (mg := mg) (ba (ba (ba (ba (ba m).2).2).2).2).1 (by decide +kernel) (free_ok X G (d.fact 59 (f := .free "super") rfl))
  obtain ⟨fd_BadTask, SF_BadTask⟩ := supF_of (P := P0) (c.sup 1 (d := ⟨"BadTask", "BadTask.__init__", initOf (topS 5)⟩) rfl) (ba (ba (ba (ba (ba (ba m).2).2).2).2).2).1
  have e_BadTask : Err2 P0 w K mg base "BadTask" (ga K "BadTask") "word" "place" := err2_of (msg := "not a valid task") (pl := pl0) SC_BadTask SF_BadTask (xfB_ok (ba (ba (ba (ba (ba (ba (ba m).2).2).2).2).2).2).1) (noat_ok (d.fact 68 (f := .noat "BadTask" "word") rfl)) (noat_ok (d.fact 69 (f := .noat "BadTask" "place") rfl)) (glo_ok X G (d.fact 43 (f := .glo "BadTask") rfl)) ⟨rfl, rfl, rfl, rfl, by decide +kernel, by decide +kernel, by decide, rfl, rfl, ⟨_, rfl, rfl⟩, fun _ _ _ => rfl, fun _ _ _ => rfl, fun _ _ _ => rfl, fun _ _ _ => rfl⟩ ⟨rfl, rfl, fun _ _ _ => rfl⟩ ⟨rfl, rfl, fun _ _ _ => rfl⟩ (by decide) (by decide) (by decide) (fun _ _ _ _ _ _ _ us hl => match us, hl with | [_, _, _], _ => rfl)
  have SC_TooMany := supC_of (P := P0) (mg := mg) (ba (ba (ba (ba (ba (ba (ba (ba m).2).2).2).2).2).2).2).1 (by decide +kernel) (free_ok X G (d.fact 59 (f := .free "super") rfl))
  obtain ⟨fd_TooMany, SF_TooMany⟩ := supF_of (P := P0) (c.sup 2 (d := ⟨"TooMany", "TooMany.__init__", initOf (topS 6)⟩) rfl) (ba (ba (ba (ba (ba (ba (ba (ba (ba m).2).2).2).2).2).2).2).2).1
  have e_TooMany : Err2 P0 w K mg base "TooMany" (ga K "TooMany") "word" "limit" := err2_of (msg := "too many") (pl := pl0) SC_TooMany SF_TooMany (xfB_ok (ba (ba (ba (ba (ba (ba (ba (ba (ba (ba m).2).2).2).2).2).2).2).2).2).1) (noat_ok (d.fact 70 (f := .noat "TooMany" "word") rfl)) (noat_ok (d.fact 71 (f := .noat "TooMany" "limit") rfl)) (glo_ok X G (d.fact 44 (f := .glo "TooMany") rfl)) ⟨rfl, rfl, rfl, rfl, by decide +kernel, by decide +kernel, by decide, rfl, rfl, ⟨_, rfl, rfl⟩, fun _ _ _ => rfl, fun _ _ _ => rfl, fun _ _ _ => rfl, fun _ _ _ => rfl⟩ ⟨rfl, rfl, fun _ _ _ => rfl⟩ ⟨rfl, rfl, fun _ _ _ => rfl⟩ (by decide) (by decide) (by decide) (fun _ _ _ _ _ _ _ us hl => match us, hl with | [_, _, _], _ => rfl)
  have SC_BadKind := supC_of (P := P0) (mg := mg) (ba (ba (ba (ba (ba (ba (ba (ba (ba (ba (ba m).2).2).2).2).2).2).2).2).2).2).1 (by decide +kernel) (free_ok X G (d.fact 59 (f := .free "super") rfl))
  obtain ⟨fd_BadKind, SF_BadKind⟩ := supF_of (P := P0) (c.sup 3 (d := ⟨"BadKind", "BadKind.__init__", initOf (topS 7)⟩) rfl) (ba (ba (ba (ba (ba (ba (ba (ba (ba (ba (ba (ba m).2).2).2).2).2).2).2).2).2).2).2).1
  have e_BadKind : Err2 P0 w K mg base "BadKind" (ga K "BadKind") "word" "place" := err2_of (msg := "not a valid problem") (pl := pl0) SC_BadKind SF_BadKind (xfB_ok (ba (ba (ba (ba (ba (ba (ba (ba (ba (ba (ba (ba (ba m).2).2).2).2).2).2).2).2).2).2).2).2).1) (noat_ok (d.fact 72 (f := .noat "BadKind" "word") rfl)) (noat_ok (d.fact 73 (f := .noat "BadKind" "place") rfl)) (glo_ok X G (d.fact 45 (f := .glo "BadKind") rfl)) ⟨rfl, rfl, rfl, rfl, by decide +kernel, by decide +kernel, by decide, rfl, rfl, ⟨_, rfl, rfl⟩, fun _ _ _ => rfl, fun _ _ _ => rfl, fun _ _ _ => rfl, fun _ _ _ => rfl⟩ ⟨rfl, rfl, fun _ _ _ => rfl⟩ ⟨rfl, rfl, fun _ _ _ => rfl⟩ (by decide) (by decide) (by decide) (fun _ _ _ _ _ _ _ us hl => match us, hl with | [_, _, _], _ => rfl)
  have k_ZERO : CT K mg "ZERO" (ga K "ZERO") (.tuple [.int 0, .int 1]) := ct_of X G (d.fact 46 (f := .glo "ZERO") rfl) (ba (ba (ba (ba (ba (ba (ba (ba (ba (ba (ba (ba (ba (ba m).2).2).2).2).2).2).2).2).2).2).2).2).2).1 fun F => .cons (.int _) (.cons (.int _) .nil)
  have k_ONE : CT K mg "ONE" (ga K "ONE") (.tuple [.int 1, .int 1]) := ct_of X G (d.fact 47 (f := .glo "ONE") rfl) (ba (ba (ba (ba (ba (ba (ba (ba (ba (ba (ba (ba (ba (ba (ba m).2).2).2).2).2).2).2).2).2).2).2).2).2).2).1 fun F => .cons (.int _) (.cons (.int _) .nil)
  have T : Tx K mg (ga K "ZERO") (ga K "ONE") := ⟨noDigB_ok (ba m).1, free_ok X G (d.fact 48 (f := .free "abs") rfl), free_ok X G (d.fact 49 (f := .free "bool") rfl), free_ok X G (d.fact 50 (f := .free "int") rfl), free_ok X G (d.fact 51 (f := .free "isinstance") rfl), free_ok X G (d.fact 52 (f := .free "len") rfl), free_ok X G (d.fact 53 (f := .free "list") rfl), free_ok X G (d.fact 54 (f := .free "max") rfl), free_ok X G (d.fact 55 (f := .free "range") rfl), free_ok X G (d.fact 56 (f := .free "str") rfl), free_ok X G (d.fact 57 (f := .free "sum") rfl), free_ok X G (d.fact 58 (f := .free "tuple") rfl), bltB_ok X G (ba (ba (ba (ba (ba (ba (ba (ba (ba (ba (ba (ba (ba (ba (ba m).2).2).2).2).2).2).2).2).2).2).2).2).2).2).2, k_ZERO, k_ONE, str_ok X G (d.fact 65 (f := .str "LETTERS" "abcdefghijklmnopqrstuvwxyz") rfl), str_ok X G (d.fact 66 (f := .str "SIGNS" "abcdefghijklmnopqrstuvwxyz0123456789_") rfl), int_ok X G (d.fact 60 (f := .int "MOST_SIGNS" 12) rfl), int_ok X G (d.fact 61 (f := .int "MOST_ROUNDS" 4) rfl), int_ok X G (d.fact 62 (f := .int "MOST_VARIABLES" 3) rfl), int_ok X G (d.fact 63 (f := .int "MOST_NODES" 16) rfl), int_ok X G (d.fact 64 (f := .int "MOST_ROWS" 8) rfl)⟩
  have c_ratio := ok_ratio (P := P0) (w := w) (base := base) T D_ratio (fun f fd F => F.binds1 2 1 (by simp) rfl fun T kV doc pm an cdv ct us its l1 l2 => match us, its, l1, l2 with | [_, _], [_], _, _ => ⟨_, rfl, rfl⟩) e_BadNumber
  have c_plus := ok_plus (P := P0) (w := w) (base := base) T D_plus c_ratio
  have c_minus := ok_minus (P := P0) (w := w) (base := base) T D_minus c_ratio
  have c_times := ok_times (P := P0) (w := w) (base := base) T D_times c_ratio
  have c_compare := ok_compare (P := P0) (w := w) (base := base) T D_compare
  have c_is_whole := ok_is_whole (P := P0) (w := w) (base := base) T D_is_whole
  have c_is_ratio := ok_is_ratio (P := P0) (w := w) (base := base) T D_is_ratio c_is_whole
  have c__law_gcd := ok__law_gcd (P := P0) (w := w) (base := base) T D__law_gcd
  have c__law_ratio := ok__law_ratio (P := P0) (w := w) (base := base) T D__law_ratio c__law_gcd
  have c__law_add := ok__law_add (P := P0) (w := w) (base := base) T D__law_add c__law_ratio
  have c__law_mul := ok__law_mul (P := P0) (w := w) (base := base) T D__law_mul c__law_ratio
  have c__law_below := ok__law_below (P := P0) (w := w) (base := base) T D__law_below
  have c__law_is_whole := ok__law_is_whole (P := P0) (w := w) (base := base) T D__law_is_whole
  have c__law_is_ratio := ok__law_is_ratio (P := P0) (w := w) (base := base) T D__law_is_ratio c__law_is_whole c__law_gcd
  have c__law_cell := ok__law_cell (P := P0) (w := w) (base := base) T D__law_cell
  have c__law_draws := ok__law_draws (P := P0) (w := w) (base := base) T D__law_draws
  have c__law_match_0 := cal_none (P := P0) (w := w) (base := base) (CX := CX0) (R := RM 0) D__law_match (bind0 (ps := ["actual", "due"]) (fun _ _ _ _ _ _ us hl => match us, hl with | [_, _], _ => rfl)) (fun _ _ h => h) 2
  have c__law_match_1 := step__law_match (P := P0) (w := w) (base := base) (nn := 0) (kk := 2) (by decide) T D__law_match c__law_is_whole c__law_match_0
  have c__law_match_2 := step__law_match (P := P0) (w := w) (base := base) (nn := 1) (kk := 3) (by decide) T D__law_match c__law_is_whole c__law_match_1
  have c__law_match_3 := step__law_match (P := P0) (w := w) (base := base) (nn := 2) (kk := 4) (by decide) T D__law_match c__law_is_whole c__law_match_2
  have c__law_match_4 := step__law_match (P := P0) (w := w) (base := base) (nn := 3) (kk := 5) (by decide) T D__law_match c__law_is_whole c__law_match_3
  have c__law_match_5 := step__law_match (P := P0) (w := w) (base := base) (nn := 4) (kk := 6) (by decide) T D__law_match c__law_is_whole c__law_match_4
  have c__law_match_6 := step__law_match (P := P0) (w := w) (base := base) (nn := 5) (kk := 7) (by decide) T D__law_match c__law_is_whole c__law_match_5
  have c__law_match_7 := step__law_match (P := P0) (w := w) (base := base) (nn := 6) (kk := 8) (by decide) T D__law_match c__law_is_whole c__law_match_6
  have c__law_match_8 := step__law_match (P := P0) (w := w) (base := base) (nn := 7) (kk := 9) (by decide) T D__law_match c__law_is_whole c__law_match_7
  have c__law_match_9 := step__law_match (P := P0) (w := w) (base := base) (nn := 8) (kk := 10) (by decide) T D__law_match c__law_is_whole c__law_match_8
  have c__law_match_10 := step__law_match (P := P0) (w := w) (base := base) (nn := 9) (kk := 11) (by decide) T D__law_match c__law_is_whole c__law_match_9
  have c__law_match := c__law_match_10
  have c_is_name := ok_is_name (P := P0) (w := w) (base := base) T D_is_name
  have c_checked_rounds := ok_checked_rounds (P := P0) (w := w) (base := base) T D_checked_rounds c_is_name e_BadTask e_TooMany
  have c_checked_depth := ok_checked_depth (P := P0) (w := w) (base := base) T D_checked_depth c_is_whole e_BadTask
  have c_checked_row := ok_checked_row (P := P0) (w := w) (base := base) T D_checked_row c_is_ratio
  have c_checked_node := ok_checked_node (P := P0) (w := w) (base := base) T D_checked_node c_checked_row c_is_ratio e_BadTask e_TooMany
  have c_children_of := ok_children_of (P := P0) (w := w) (base := base) T D_children_of
  have c_check_tree := ok_check_tree (P := P0) (w := w) (base := base) T D_check_tree c_plus e_BadTask
  have c_Task___init__ := ok_Task___init__ (P := P0) (w := w) (base := base) T D_Task___init__ c_checked_rounds c_children_of c_check_tree c_checked_depth c_checked_node k e_BadTask e_TooMany
  have c_tree_depths := ok_tree_depths (P := P0) (w := w) (base := base) T D_tree_depths c_checked_depth e_BadTask e_TooMany
  have c_check_work := ok_check_work (P := P0) (w := w) (base := base) T D_check_work c_tree_depths c_is_ratio e_BadKind
  have c_work_task := ok_work_task (P := P0) (w := w) (base := base) T D_work_task c_check_work c_Task___init__ k
  have c_saved_rates := ok_saved_rates (P := P0) (w := w) (base := base) T D_saved_rates c_compare c_plus c_times
  have c_cost_with := ok_cost_with (P := P0) (w := w) (base := base) T D_cost_with c_times c_compare c_plus c_minus
  have c_work_cost := ok_work_cost (P := P0) (w := w) (base := base) T D_work_cost c_work_task c_cost_with c_is_ratio e_BadKind
  have c_work_hired := ok_work_hired (P := P0) (w := w) (base := base) T D_work_hired c_work_task c_cost_with c_compare c_saved_rates
  have c__law_tree := ok__law_tree (P := P0) (w := w) (base := base) T D__law_tree
  have c__law_chances := ok__law_chances (P := P0) (w := w) (base := base) T D__law_chances c__law_ratio
  have c__law_minus := ok__law_minus (P := P0) (w := w) (base := base) T D__law_minus c__law_add
  have c__law_tree_of := ok__law_tree_of (P := P0) (w := w) (base := base) T D__law_tree_of c__law_draws c__law_tree c__law_cell c__law_chances
  have c__law_work := ok__law_work (P := P0) (w := w) (base := base) T D__law_work c__law_tree_of c__law_draws c__law_cell c__law_ratio c__law_below c__law_add c__law_mul
  have c__law_fan := ok__law_fan (P := P0) (w := w) (base := base) T D__law_fan c__law_ratio
  have c__law_cost_of := ok__law_cost_of (P := P0) (w := w) (base := base) T D__law_cost_of c__law_mul c__law_below c__law_minus c__law_add
  have c__law_best_of := ok__law_best_of (P := P0) (w := w) (base := base) T D__law_best_of c__law_cost_of c__law_below
  have c__law_task_parts := ok__law_task_parts (P := P0) (w := w) (base := base) T D__law_task_parts
  have c__law_right := ok__law_right (P := P0) (w := w) (base := base) T D__law_right c__law_best_of c_work_task c__law_task_parts c__law_mul c__law_ratio c_work_cost c__law_match c__law_add c_work_hired c__law_cost_of c__law_is_ratio c__law_below k
  exact ⟨D_law, ok_law (P := P0) (w := w) (base := base) T D_law c__law_draws c__law_cell c__law_work c__law_fan c__law_right⟩
end K74
open PySem PySem.W PySem.Calls PyProof.Rows
set_option maxRecDepth 1000000 in
set_option maxHeartbeats 0 in
theorem PySem.Challenge.cw_plansasnewscome_k74_hands_hired_holds : PySem.Challenge.rw_plansasnewscome_k74_hands_hired.Holds := by
  w_on; o_law
  refine HandSHeadRun.head_imp (r := OpenLaw.row PySem.Challenge.rw_plansasnewscome_k74_hands_hired) (q := view (OpenLaw.row PySem.Challenge.rw_plansasnewscome_k74_hands_hired).prog [0, 63]) (H := K74.hk0) (ob := K74.ob0) (M := 5000) (loose := K74.loose0) (d := HandSHeadRun.topDef (OpenLaw.row PySem.Challenge.rw_plansasnewscome_k74_hands_hired).prog 63) (kwd := []) K74.ob_eq K74.run0
    (by kernel_rfl) (by kernel_rfl) (by kernel_rfl) (by rfl) (by first | assumption | decide +kernel) (by decide +kernel) ⟨rfl, rfl, rfl, rfl, rfl, by decide +kernel⟩ ?hw ?hc
  case hw => w_witness2
  case hc =>
    refine DL.law_of (l := PySem.Challenge.rw_plansasnewscome_k74_hands_hired) (k := 14) (st := K74.s_law) (R := K74.R_law) rfl (by kernel_rfl) ⟨rfl, by decide, by decide⟩ (by kernel_rfl) (fun ns _ => ⟨ns, rfl, rfl⟩) (fun _ _ _ _ _ _ us hl => match us, hl with | [_], _ => rfl) ?_
    intro w mg h Y G
    obtain ⟨K, KX, c⟩ := Y
    exact ⟨K, KX, (K74.all0 (w := w) KX G c h).1, fun base _ _ => (K74.all0 (w := w) KX G c base).2⟩
