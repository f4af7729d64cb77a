import PyProof.Rows.All
import Wide.All
import OpenK.AllK
import Wide.FinOn
import PySem.Challenge.RW_gatheryard_k40_whole_leads_and_woven_lot
import HandS.ForMost
import HandS.Walk
import HandS.Conv
import HandS.Flow
import HandS.Style
import HandS.NoneIn
import HandS.IsInst
import HandS.TupAny
import HandS.TupMul
import HandS.Deep
import HandS.Zip
import HandS.TupSets
import HandS.Strs
import HandS.SetKeys
import HandS.SortInts
import HandS.ForExc
import KE.DataMinMax
import KE.SortData
import KE.KDictPairs
import PyProof.TupleOfSeq
import HandS.SetFor
import HandS.Small
set_option Elab.async false
set_option linter.all false
set_option maxRecDepth 100000
/-! VL1: a layer of plain values over HandS: data, what stands in the heap, slots and owned objects as values, readings without addresses. -/
namespace VL
open PySem PySem.Spec PyProof.Rows L2

abbrev St := L2.St
/-- data -/
inductive Dt where
  | non | bl (b : Bool) | int (i : Int) | str (s : Str)
  | tup (xs : List Dt) | lst (xs : List Dt)
  | di (kvs : List (Int × Dt)) | dt (kvs : List (List Int × Dt))
  | tpl (xs : List Dt)
/-- a plain tuple that begins with a tuple -/
def Tpl (ob : Obj) (ds : List Dt) : Prop := ob.dict = none ∧ ∃ e r, ds = .tup e :: r
/-- what an expression gives: data, or an owned object by its number -/
inductive Rs where
  | v (d : Dt) | o (n : Nat)
/-- what an owned object holds -/
inductive Ct where
  | lst (ds : List Dt) | di (kvs : List (Int × Dt))

mutual
inductive Den (av : Addr → Prop) (H : Hp) : V → Dt → Prop
  | non : Den av H .non .non
  | bl (b : Bool) : Den av H (.bl b) (.bl b)
  | int (i : Int) : Den av H (.int i) (.int i)
  | str (s : Str) : Den av H (.str s) (.str s)
  | tup {a : Addr} {xs : List V} {ds : List Dt} : H a = some (.tup xs) → DenL av H xs ds → Den av H (.ref a) (.tup ds)
  | tpf {a : Addr} {ob : Obj} {xs : List V} {ds : List Dt} : ¬ av a → Tpl ob ds → H a = some (.frz ob (.tup xs)) → DenL av H xs ds → Den av H (.ref a) (.tup ds)
  | tpl {a : Addr} {ob : Obj} {xs : List V} {ds : List Dt} : ¬ av a → Tpl ob ds → H a = some (.frz ob (.tup xs)) → DenL av H xs ds → Den av H (.ref a) (.tpl ds)
  | lst {a : Addr} {xs : List V} {ds : List Dt} : ¬ av a → H a = some (.lst xs) → DenL av H xs ds → Den av H (.ref a) (.lst ds)
  | di {a : Addr} {xs : List (Key × V)} {ds : List (Int × Dt)} : ¬ av a → H a = some (.dK xs) → DenK av H xs ds → Den av H (.ref a) (.di ds)
  | dt {a : Addr} {xs : List (List Key × V)} {ds : List (List Int × Dt)} : ¬ av a → H a = some (.dT xs) → DenT av H xs ds → Den av H (.ref a) (.dt ds)
inductive DenL (av : Addr → Prop) (H : Hp) : List V → List Dt → Prop
  | nil : DenL av H [] []
  | cons {v : V} {d : Dt} {vs : List V} {ds : List Dt} : Den av H v d → DenL av H vs ds → DenL av H (v :: vs) (d :: ds)
inductive DenK (av : Addr → Prop) (H : Hp) : List (Key × V) → List (Int × Dt) → Prop
  | nil : DenK av H [] []
  | cons {n : Int} {v : V} {d : Dt} {vs : List (Key × V)} {ds : List (Int × Dt)} : Den av H v d → DenK av H vs ds → DenK av H ((.inl n, v) :: vs) ((n, d) :: ds)
inductive DenT (av : Addr → Prop) (H : Hp) : List (List Key × V) → List (List Int × Dt) → Prop
  | nil : DenT av H [] []
  | cons {n : List Int} {v : V} {d : Dt} {vs : List (List Key × V)} {ds : List (List Int × Dt)} : Den av H v d → DenT av H vs ds → DenT av H ((n.map .inl, v) :: vs) ((n, d) :: ds)
end

/-- all that is data stands in H' too: outside of av all is kept, and av' has no more of what was tracked -/
structure Ext (av av' : Addr → Prop) (H H' : Hp) : Prop where
  keep : ∀ b o, H b = some o → ¬ av b → H' b = some o
  less : ∀ b, av' b → H b = none ∨ av b
  tup : ∀ b xs, H b = some (.tup xs) → H' b = some (.tup xs)

theorem Den.mono {av av' : Addr → Prop} {H H' : Hp} {v : V} {d : Dt} (x : Ext av av' H H') (h : Den av H v d) : Den av' H' v d := by
  refine Den.rec (motive_1 := fun v d _ => Den av' H' v d) (motive_2 := fun vs ds _ => DenL av' H' vs ds) (motive_3 := fun vs ds _ => DenK av' H' vs ds) (motive_4 := fun vs ds _ => DenT av' H' vs ds)
    .non (fun b => .bl b) (fun i => .int i) (fun s => .str s) (fun e _ ih => .tup (x.tup _ _ e) ih) (fun n p e _ ih => ?_) (fun n p e _ ih => ?_) (fun n e _ ih => ?_) (fun n e _ ih => ?_) (fun n e _ ih => ?_)
    .nil (fun _ _ a b => .cons a b) .nil (fun _ _ a b => .cons a b) .nil (fun _ _ a b => .cons a b) h
  · exact .tpf (fun z => (x.less _ z).elim (fun q => by rw [e] at q; cases q) n) p (x.keep _ _ e n) ih
  · exact .tpl (fun z => (x.less _ z).elim (fun q => by rw [e] at q; cases q) n) p (x.keep _ _ e n) ih
  · exact .lst (fun z => (x.less _ z).elim (fun q => by rw [e] at q; cases q) n) (x.keep _ _ e n) ih
  · exact .di (fun z => (x.less _ z).elim (fun q => by rw [e] at q; cases q) n) (x.keep _ _ e n) ih
  · exact .dt (fun z => (x.less _ z).elim (fun q => by rw [e] at q; cases q) n) (x.keep _ _ e n) ih
theorem DenL.mono {av av' : Addr → Prop} {H H' : Hp} (x : Ext av av' H H') : ∀ {vs : List V} {ds : List Dt}, DenL av H vs ds → DenL av' H' vs ds
  | _, _, .nil => .nil
  | _, _, .cons a b => .cons (a.mono x) (DenL.mono x b)
theorem DenK.mono {av av' : Addr → Prop} {H H' : Hp} (x : Ext av av' H H') : ∀ {vs : List (Key × V)} {ds : List (Int × Dt)}, DenK av H vs ds → DenK av' H' vs ds
  | _, _, .nil => .nil
  | _, _, .cons a b => .cons (a.mono x) (DenK.mono x b)
theorem DenT.mono {av av' : Addr → Prop} {H H' : Hp} (x : Ext av av' H H') : ∀ {vs : List (List Key × V)} {ds : List (List Int × Dt)}, DenT av H vs ds → DenT av' H' vs ds
  | _, _, .nil => .nil
  | _, _, .cons a b => .cons (a.mono x) (DenT.mono x b)
theorem Ext.refl {av : Addr → Prop} {H : Hp} : Ext av av H H := ⟨fun _ _ e _ => e, fun _ z => .inr z, fun _ _ e => e⟩
theorem Ext.same {av : Addr → Prop} {H H' : Hp} (s : Same H H') : Ext av av H H' := ⟨fun _ _ e _ => s _ _ e, fun _ z => .inr z, fun _ _ e => s _ _ e⟩
theorem Ext.less1 {av av' : Addr → Prop} {H : Hp} (s : ∀ b, av' b → av b) : Ext av av' H H := ⟨fun _ _ e _ => e, fun _ z => .inr (s _ z), fun _ _ e => e⟩

theorem DenL.length {av : Addr → Prop} {H : Hp} : ∀ {vs : List V} {ds : List Dt}, DenL av H vs ds → vs.length = ds.length
  | _, _, .nil => rfl
  | _, _, .cons _ b => by rw [List.length_cons, List.length_cons, DenL.length b]
theorem DenL.get {av : Addr → Prop} {H : Hp} : ∀ {vs : List V} {ds : List Dt} {i : Nat} {v : V}, DenL av H vs ds → vs[i]? = some v → ∃ d, ds[i]? = some d ∧ Den av H v d
  | _, _, _, _, .nil, e => by simp at e
  | _, _, 0, _, .cons a b, e => by simp at e; subst e; exact ⟨_, rfl, a⟩
  | _, _, i + 1, v, .cons a b, e => by
    obtain ⟨d, h1, h2⟩ := DenL.get (i := i) (v := v) b (by simpa using e)
    exact ⟨d, by simpa using h1, h2⟩
theorem DenL.get' {av : Addr → Prop} {H : Hp} : ∀ {vs : List V} {ds : List Dt} {i : Nat} {d : Dt}, DenL av H vs ds → ds[i]? = some d → ∃ v, vs[i]? = some v ∧ Den av H v d
  | _, _, _, _, .nil, e => by simp at e
  | _, _, 0, _, .cons a b, e => by simp at e; subst e; exact ⟨_, rfl, a⟩
  | _, _, i + 1, v, .cons a b, e => by
    obtain ⟨d, h1, h2⟩ := DenL.get' (i := i) (d := v) b (by simpa using e)
    exact ⟨d, by simpa using h1, h2⟩
theorem DenL.append {av : Addr → Prop} {H : Hp} : ∀ {vs ws : List V} {ds es : List Dt}, DenL av H vs ds → DenL av H ws es → DenL av H (vs ++ ws) (ds ++ es)
  | _, _, _, _, .nil, q => q
  | _, _, _, _, .cons a b, q => .cons a (DenL.append b q)
theorem DenL.snoc {av : Addr → Prop} {H : Hp} {vs : List V} {ds : List Dt} {v : V} {d : Dt} (h : DenL av H vs ds) (q : Den av H v d) : DenL av H (vs ++ [v]) (ds ++ [d]) := h.append (.cons q .nil)
theorem DenL.ints {av : Addr → Prop} {H : Hp} : ∀ {vs : List V} {ns : List Int}, DenL av H vs (ns.map .int) → vs = ns.map V.int
  | _, [], .nil => rfl
  | _, n :: ns, .cons a b => by cases a; rw [DenL.ints b]; rfl
theorem DenL.of_ints {av : Addr → Prop} {H : Hp} : ∀ (ns : List Int), DenL av H (ns.map V.int) (ns.map .int)
  | [] => .nil
  | n :: ns => .cons (.int n) (DenL.of_ints ns)
theorem DenL.bls {av : Addr → Prop} {H : Hp} : ∀ {vs : List V} {ns : List Bool}, DenL av H vs (ns.map .bl) → vs = ns.map V.bl
  | _, [], .nil => rfl
  | _, n :: ns, .cons a b => by cases a; rw [DenL.bls b]; rfl

/-! ### the state -/
abbrev Sl := List (Option Rs)
abbrev Me := List Ct
/-- a context: the heap at its entry, what it borrowed (addresses of owned objects of others that it may change), what is hidden (not to be changed) -/
structure Fr where
  H0 : Hp
  us : List Addr
  hid : Addr → Prop
def avo (ad : Nat → Addr) (m : Nat) (hid : Addr → Prop) : Addr → Prop := fun a => (∃ n, n < m ∧ a = ad n) ∨ hid a
def DenR (ad : Nat → Addr) (m : Nat) (hid : Addr → Prop) (H : Hp) (v : V) : Rs → Prop
  | .v d => Den (avo ad m hid) H v d
  | .o n => n < m ∧ v = .ref (ad n)
def Hold (av : Addr → Prop) (H : Hp) (a : Addr) : Ct → Prop
  | .lst ds => ∃ xs, H a = some (.lst xs) ∧ DenL av H xs ds
  | .di ds => ∃ xs, H a = some (.dK xs) ∧ DenK av H xs ds
structure RelA (C : Fr) (ad : Nat → Addr) (δ : Sl) (M : Me) (τ : List (V × Rs)) (σ : St) (H : Hp) : Prop where
  len : σ.length = δ.length
  slot : ∀ (i : Nat) r, δ[i]? = some (some r) → ∃ v, σ[i]? = some (some v) ∧ DenR ad M.length C.hid H v r
  mem : ∀ (n : Nat) c, M[n]? = some c → Hold (avo ad M.length C.hid) H (ad n) c
  inj : ∀ n k, n < M.length → k < M.length → ad n = ad k → n = k
  trk : ∀ a, C.hid a → H a ≠ none
  frame : ∀ b o, C.H0 b = some o → b ∉ C.us → H b = some o
  own : ∀ n, n < M.length → C.H0 (ad n) = none ∨ ad n ∈ C.us
  bor : ∀ (n : Nat) a, C.us[n]? = some a → n < M.length ∧ ad n = a
  disj : ∀ n, n < M.length → ¬ C.hid (ad n)
  tmp : ∀ p ∈ τ, DenR ad M.length C.hid H p.1 p.2
def Rel (C : Fr) (δ : Sl) (M : Me) (τ : List (V × Rs)) (σ : St) (H : Hp) : Prop := ∃ ad, RelA C ad δ M τ σ H

theorem RelA.trkA {C : Fr} {ad : Nat → Addr} {δ : Sl} {M : Me} {τ : List (V × Rs)} {σ : St} {H : Hp} (r : RelA C ad δ M τ σ H) : ∀ a, avo ad M.length C.hid a → H a ≠ none := fun a h => by
  rcases h with ⟨n, hn, rfl⟩ | h
  · have := r.mem n _ (List.getElem?_eq_getElem hn)
    cases hc : M[n] with
    | lst ds => rw [hc] at this; obtain ⟨xs, e, _⟩ := this; rw [e]; intro z; cases z
    | di ds => rw [hc] at this; obtain ⟨xs, e, _⟩ := this; rw [e]; intro z; cases z
  · exact r.trk a h

theorem DenR.mono {ad ad' : Nat → Addr} {m m' : Nat} {hid hid' : Addr → Prop} {H H' : Hp} {v : V} {r : Rs} (hm : m ≤ m') (ha : ∀ n, n < m → ad' n = ad n) (x : Ext (avo ad m hid) (avo ad' m' hid') H H') (h : DenR ad m hid H v r) : DenR ad' m' hid' H' v r := by
  cases r with
  | v d => exact Den.mono x h
  | o n =>
    obtain ⟨h1, h2⟩ := h
    exact ⟨Nat.lt_of_lt_of_le h1 hm, by rw [ha n h1]; exact h2⟩
theorem Hold.mono {av av' : Addr → Prop} {H H' : Hp} {a : Addr} {c : Ct} (x : Ext av av' H H') (e : H' a = H a) (h : Hold av H a c) : Hold av' H' a c := by
  cases c with
  | lst ds => obtain ⟨xs, h1, h2⟩ := h; exact ⟨xs, by rw [e]; exact h1, h2.mono x⟩
  | di ds => obtain ⟨xs, h1, h2⟩ := h; exact ⟨xs, by rw [e]; exact h1, h2.mono x⟩

/-- all tracked is kept -/
theorem RelA.same {C : Fr} {ad : Nat → Addr} {δ : Sl} {M : Me} {τ : List (V × Rs)} {σ : St} {H H' : Hp} (r : RelA C ad δ M τ σ H) (s : Same H H') : RelA C ad δ M τ σ H' where
  len := r.len
  slot := fun i x e => let ⟨v, h1, h2⟩ := r.slot i x e; ⟨v, h1, h2.mono (Nat.le_refl _) (fun _ _ => rfl) (Ext.same s)⟩
  mem := fun n c e => by
    have h := r.mem n c e
    have hn : n < M.length := (List.getElem?_eq_some_iff.mp e).1
    refine h.mono (Ext.same s) ?_
    cases q : H (ad n) with
    | none => exact absurd q (r.trkA _ (.inl ⟨n, hn, rfl⟩))
    | some o => exact s _ _ q
  inj := r.inj
  trk := fun a h => by
    cases q : H a with
    | none => exact absurd q (r.trk a h)
    | some o => rw [s _ _ q]; intro z; cases z
  frame := fun b o e n => s _ _ (r.frame b o e n)
  own := r.own
  bor := r.bor
  disj := r.disj
  tmp := fun p hp => (r.tmp p hp).mono (Nat.le_refl _) (fun _ _ => rfl) (Ext.same s)
theorem Rel.same {C : Fr} {δ : Sl} {M : Me} {τ : List (V × Rs)} {σ : St} {H H' : Hp} (r : Rel C δ M τ σ H) (s : Same H H') : Rel C δ M τ σ H' := let ⟨ad, r⟩ := r; ⟨ad, r.same s⟩
theorem RelA.sub {C : Fr} {ad : Nat → Addr} {δ : Sl} {M : Me} {τ τ' : List (V × Rs)} {σ : St} {H : Hp} (r : RelA C ad δ M τ σ H) (s : ∀ p ∈ τ', DenR ad M.length C.hid H p.1 p.2) : RelA C ad δ M τ' σ H :=
  ⟨r.len, r.slot, r.mem, r.inj, r.trk, r.frame, r.own, r.bor, r.disj, s⟩
theorem Rel.sub {C : Fr} {δ : Sl} {M : Me} {τ τ' : List (V × Rs)} {σ : St} {H : Hp} (r : Rel C δ M τ σ H) (s : ∀ p ∈ τ', p ∈ τ) : Rel C δ M τ' σ H := let ⟨ad, r⟩ := r; ⟨ad, r.sub fun p hp => r.tmp p (s p hp)⟩
theorem Rel.tail {C : Fr} {δ : Sl} {M : Me} {τ : List (V × Rs)} {σ : St} {H : Hp} {p : V × Rs} (r : Rel C δ M (p :: τ) σ H) : Rel C δ M τ σ H := r.sub fun _ h => List.mem_cons_of_mem _ h
/-- a slot is stored -/
theorem RelA.store {C : Fr} {ad : Nat → Addr} {δ : Sl} {M : Me} {τ : List (V × Rs)} {σ : St} {H : Hp} {v : V} {x : Rs} (r : RelA C ad δ M τ σ H) (i : Nat) (h : DenR ad M.length C.hid H v x) : RelA C ad (δ.set i (some x)) M τ (σ.set i (some v)) H :=
  ⟨by rw [List.length_set, List.length_set]; exact r.len, fun j y e => by
    by_cases hj : i = j
    · subst hj
      by_cases hl : i < δ.length
      · rw [List.getElem?_set_self hl] at e
        cases e
        exact ⟨v, by rw [List.getElem?_set_self (by rw [r.len]; exact hl)], h⟩
      · rw [List.getElem?_eq_none (by rw [List.length_set]; omega)] at e; cases e
    · rw [List.getElem?_set_ne hj] at e
      obtain ⟨w, h1, h2⟩ := r.slot j y e
      exact ⟨w, by rw [List.getElem?_set_ne hj]; exact h1, h2⟩, r.mem, r.inj, r.trk, r.frame, r.own, r.bor, r.disj, r.tmp⟩
theorem Rel.store {C : Fr} {δ : Sl} {M : Me} {τ : List (V × Rs)} {σ : St} {H : Hp} {v : V} {x : Rs} (r : Rel C δ M ((v, x) :: τ) σ H) (i : Nat) : Rel C (δ.set i (some x)) M τ (σ.set i (some v)) H := by
  obtain ⟨ad, r⟩ := r
  exact ⟨ad, (r.store i (r.tmp _ List.mem_cons_self)).sub fun p hp => r.tmp p (List.mem_cons_of_mem _ hp)⟩
/-- new data is laid -/
theorem Rel.new {C : Fr} {δ : Sl} {M : Me} {τ : List (V × Rs)} {σ : St} {H : Hp} {p : Addr} {o : HO} {d : Dt} (r : Rel C δ M τ σ H) (hp : H p = none)
    (h : ∀ ad, RelA C ad δ M τ σ (upd H p o) → Den (avo ad M.length C.hid) (upd H p o) (.ref p) d) : Rel C δ M ((.ref p, .v d) :: τ) σ (upd H p o) := by
  obtain ⟨ad, r⟩ := r
  have s : Same H (upd H p o) := fun b x e => by rw [upd_ne (ne_of_none e hp)]; exact e
  have r' := r.same s
  refine ⟨ad, r'.sub fun q hq => ?_⟩
  rcases List.mem_cons.mp hq with rfl | hq
  · exact h ad r'
  · exact r'.tmp q hq
theorem not_avo {C : Fr} {ad : Nat → Addr} {δ : Sl} {M : Me} {τ : List (V × Rs)} {σ : St} {H : Hp} {p : Addr} (r : RelA C ad δ M τ σ H) (hp : H p = none) : ¬ avo ad M.length C.hid p := fun z => r.trkA p z hp
/-- a new list is laid as data -/
theorem Rel.newL {C : Fr} {δ : Sl} {M : Me} {τ : List (V × Rs)} {σ : St} {H : Hp} {p : Addr} {xs : List V} {ds : List Dt} (r : Rel C δ M τ σ H) (hp : H p = none)
    (h : ∀ ad, RelA C ad δ M τ σ H → DenL (avo ad M.length C.hid) H xs ds) : Rel C δ M ((.ref p, .v (.lst ds)) :: τ) σ (upd H p (.lst xs)) := by
  obtain ⟨ad, r⟩ := r
  have s : Same H (upd H p (.lst xs)) := fun b x e => by rw [upd_ne (ne_of_none e hp)]; exact e
  refine ⟨ad, (r.same s).sub fun q hq => ?_⟩
  rcases List.mem_cons.mp hq with rfl | hq
  · exact .lst (not_avo r hp) upd_same ((h ad r).mono (Ext.same s))
  · exact (r.same s).tmp q hq
theorem Rel.newT {C : Fr} {δ : Sl} {M : Me} {τ : List (V × Rs)} {σ : St} {H : Hp} {p : Addr} {xs : List V} {ds : List Dt} (r : Rel C δ M τ σ H) (hp : H p = none)
    (h : ∀ ad, RelA C ad δ M τ σ H → DenL (avo ad M.length C.hid) H xs ds) : Rel C δ M ((.ref p, .v (.tup ds)) :: τ) σ (upd H p (.tup xs)) := by
  obtain ⟨ad, r⟩ := r
  have s : Same H (upd H p (.tup xs)) := fun b x e => by rw [upd_ne (ne_of_none e hp)]; exact e
  refine ⟨ad, (r.same s).sub fun q hq => ?_⟩
  rcases List.mem_cons.mp hq with rfl | hq
  · exact .tup upd_same ((h ad r).mono (Ext.same s))
  · exact (r.same s).tmp q hq
def adx (ad : Nat → Addr) (m : Nat) (p : Addr) : Nat → Addr := fun n => if n = m then p else ad n
theorem adx_eq {ad : Nat → Addr} {m n : Nat} {p : Addr} (h : n = m) : adx ad m p n = p := if_pos h
theorem adx_ne {ad : Nat → Addr} {m n : Nat} {p : Addr} (h : n ≠ m) : adx ad m p n = ad n := if_neg h
/-- a new object is laid and owned -/
theorem RelA.newO {C : Fr} {ad : Nat → Addr} {δ : Sl} {M : Me} {τ : List (V × Rs)} {σ : St} {H : Hp} {p : Addr} {o : HO} {c : Ct} (r : RelA C ad δ M τ σ H) (hp : H p = none)
    (h : ∀ av, (∀ a, av a → H a ≠ none ∨ a = p) → (∀ a, avo ad M.length C.hid a → av a) → Ext (avo ad M.length C.hid) av H (upd H p o) → Hold av (upd H p o) p c) :
    RelA C (adx ad M.length p) δ (M ++ [c]) ((.ref p, .o M.length) :: τ) σ (upd H p o) := by
  have s : Same H (upd H p o) := fun b x e => by rw [upd_ne (ne_of_none e hp)]; exact e
  have hl : (M ++ [c]).length = M.length + 1 := by simp
  have hlt : ∀ n, n < M.length → adx ad M.length p n = ad n := fun n hn => adx_ne (Nat.ne_of_lt hn)
  have ext : Ext (avo ad M.length C.hid) (avo (adx ad M.length p) (M ++ [c]).length C.hid) H (upd H p o) := by
    refine ⟨fun b x e _ => s _ _ e, fun b hb => ?_, fun b xs e => s _ _ e⟩
    rcases hb with ⟨n, hn, rfl⟩ | hb
    · rw [hl] at hn
      by_cases e : n = M.length
      · exact .inl (by rw [adx_eq e]; exact hp)
      · rw [adx_ne e]
        exact .inr (.inl ⟨n, by omega, rfl⟩)
    · exact .inr (.inr hb)
  have dm : ∀ {v : V} {x : Rs}, DenR ad M.length C.hid H v x → DenR (adx ad M.length p) (M ++ [c]).length C.hid (upd H p o) v x := fun {v x} h => h.mono (by omega) hlt ext
  have pne : ∀ n, n < M.length → ad n ≠ p := fun n hn z => r.trkA (ad n) (.inl ⟨n, hn, rfl⟩) (by rw [z]; exact hp)
  refine ⟨r.len, fun i x e => let ⟨v, h1, h2⟩ := r.slot i x e; ⟨v, h1, dm h2⟩, fun n c' e => ?_, fun n k hn hk e => ?_, fun a ha => ?_, fun b x e n => s _ _ (r.frame b x e n), fun n hn => ?_, fun n a e => ?_, fun n hn => ?_, fun q hq => ?_⟩
  · by_cases hn : n = M.length
    · subst hn
      have : c = c' := by simpa using e
      subst this
      rw [adx_eq rfl]
      refine h _ (fun a ha => ?_) (fun a ha => ?_) ext
      · rcases ha with ⟨n, hn, rfl⟩ | ha
        · rw [hl] at hn
          by_cases e : n = M.length
          · exact .inr (adx_eq e)
          · rw [adx_ne e]
            exact .inl (r.trkA _ (.inl ⟨n, by omega, rfl⟩))
        · exact .inl (r.trk a ha)
      · rcases ha with ⟨n, hn, rfl⟩ | ha
        · exact .inl ⟨n, by omega, (hlt n hn).symm⟩
        · exact .inr ha
    · have hn' : n < M.length := by
        have := (List.getElem?_eq_some_iff.mp e).1
        omega
      rw [List.getElem?_append_left hn'] at e
      rw [adx_ne hn]
      exact (r.mem n c' e).mono ext (upd_ne (pne n hn'))
  · rw [hl] at hn hk
    by_cases e1 : n = M.length
    · by_cases e2 : k = M.length
      · omega
      · rw [adx_eq e1, adx_ne e2] at e
        exact absurd e.symm (pne k (by omega))
    · by_cases e2 : k = M.length
      · rw [adx_ne e1, adx_eq e2] at e
        exact absurd e (pne n (by omega))
      · rw [adx_ne e1, adx_ne e2] at e
        exact r.inj n k (by omega) (by omega) e
  · cases q : H a with
    | none => exact absurd q (r.trk a ha)
    | some x => rw [s _ _ q]; intro z; cases z
  · rw [hl] at hn
    by_cases e1 : n = M.length
    · rw [adx_eq e1]
      cases q : C.H0 p with
      | none => exact .inl rfl
      | some x =>
        by_cases hu : p ∈ C.us
        · exact .inr hu
        · have := r.frame p x q hu
          rw [hp] at this; cases this
    · rw [adx_ne e1]
      exact r.own n (by omega)
  · obtain ⟨h1, h2⟩ := r.bor n a e
    exact ⟨by omega, by rw [hlt n h1]; exact h2⟩
  · rw [hl] at hn
    by_cases e1 : n = M.length
    · rw [adx_eq e1]
      exact fun z => r.trk p z hp
    · rw [adx_ne e1]
      exact r.disj n (by omega)
  · rcases List.mem_cons.mp hq with rfl | hq
    · exact ⟨by omega, by rw [adx_eq rfl]⟩
    · exact dm (r.tmp q hq)
theorem Rel.newO {C : Fr} {δ : Sl} {M : Me} {τ : List (V × Rs)} {σ : St} {H : Hp} {p : Addr} {xs : List V} {ds : List Dt} (r : Rel C δ M τ σ H) (hp : H p = none)
    (h : ∀ ad, RelA C ad δ M τ σ H → DenL (avo ad M.length C.hid) H xs ds) : Rel C δ (M ++ [.lst ds]) ((.ref p, .o M.length) :: τ) σ (upd H p (.lst xs)) := by
  obtain ⟨ad, r⟩ := r
  exact ⟨_, r.newO hp fun av h1 h2 e => ⟨xs, upd_same, (h ad r).mono e⟩⟩
theorem Rel.newOK {C : Fr} {δ : Sl} {M : Me} {τ : List (V × Rs)} {σ : St} {H : Hp} {p : Addr} {xs : List (Key × V)} {ds : List (Int × Dt)} (r : Rel C δ M τ σ H) (hp : H p = none)
    (h : ∀ ad, RelA C ad δ M τ σ H → DenK (avo ad M.length C.hid) H xs ds) : Rel C δ (M ++ [.di ds]) ((.ref p, .o M.length) :: τ) σ (upd H p (.dK xs)) := by
  obtain ⟨ad, r⟩ := r
  exact ⟨_, r.newO hp fun av h1 h2 e => ⟨xs, upd_same, (h ad r).mono e⟩⟩
/-- an owned object is changed -/
theorem RelA.write {C : Fr} {ad : Nat → Addr} {δ : Sl} {M : Me} {τ : List (V × Rs)} {σ : St} {H : Hp} {n : Nat} {o : HO} {c : Ct} (r : RelA C ad δ M τ σ H) (hn : n < M.length)
    (h : Ext (avo ad M.length C.hid) (avo ad M.length C.hid) H (upd H (ad n) o) → Hold (avo ad M.length C.hid) (upd H (ad n) o) (ad n) c) (nt : ∀ xs, H (ad n) ≠ some (.tup xs)) : RelA C ad δ (M.set n c) τ σ (upd H (ad n) o) := by
  have hl : (M.set n c).length = M.length := List.length_set
  have ext : Ext (avo ad M.length C.hid) (avo ad M.length C.hid) H (upd H (ad n) o) :=
    ⟨fun b x e hb => by rw [upd_ne (fun z => hb (.inl ⟨n, hn, z⟩))]; exact e, fun _ z => .inr z, fun b xs e => by rw [upd_ne (fun z => by rw [z] at e; exact nt xs e)]; exact e⟩
  have dm : ∀ {v : V} {x : Rs}, DenR ad M.length C.hid H v x → DenR ad (M.set n c).length C.hid (upd H (ad n) o) v x := fun {v x} h => by rw [hl]; exact h.mono (Nat.le_refl _) (fun _ _ => rfl) ext
  refine ⟨r.len, fun i x e => let ⟨v, h1, h2⟩ := r.slot i x e; ⟨v, h1, dm h2⟩, fun k c' e => ?_, fun n k hn hk e => r.inj n k (by omega) (by omega) e, fun a ha => ?_, fun b x e hb => ?_, fun n hn => r.own n (by omega), fun n a e => by rw [hl]; exact r.bor n a e, fun n hn => r.disj n (by omega), fun q hq => dm (r.tmp q hq)⟩
  · rw [hl]
    by_cases hk : n = k
    · subst hk
      rw [List.getElem?_set_self hn] at e
      cases e
      exact h ext
    · rw [List.getElem?_set_ne hk] at e
      have hk' : k < M.length := (List.getElem?_eq_some_iff.mp e).1
      exact (r.mem k c' e).mono ext (upd_ne fun z => hk (r.inj n k hn hk' z.symm))
  · by_cases e : a = ad n
    · rw [e, upd_same]; intro z; cases z
    · rw [upd_ne e]; exact r.trk a ha
  · rw [upd_ne]
    · exact r.frame b x e hb
    · intro z
      rcases r.own n hn with q | q
      · rw [z] at e; rw [e] at q; cases q
      · exact hb (by rw [z]; exact q)
end VL
set_option Elab.async false
set_option linter.all false
set_option maxRecDepth 100000
set_option maxHeartbeats 1000000
/-! VL2: the judgements over values; names, constants, statements, loops, comprehensions. -/
namespace VL
open PySem PySem.Spec PyProof.Rows L2

abbrev WE := Sl → Me → (Rs → Me → Prop) → Prop
abbrev WT := Sl → Me → (Bool → Me → Prop) → Prop
abbrev WA := Sl → Me → (List Rs → Me → Prop) → Prop
abbrev WG := Rs → Sl → (Sl → Prop) → Prop
abbrev WGs := List Rs → Sl → (Sl → Prop) → Prop
abbrev WI := Sl → Me → (List Dt → Me → Prop) → Prop
structure EndsV where
  nx : Sl → Me → Prop
  rt : Rs → Me → Prop
  bk : Sl → Me → Prop
  ct : Sl → Me → Prop
  ex : Prop
abbrev WS := EndsV → Sl → Me → Prop
structure EndsV.Le (E E' : EndsV) : Prop where
  nx : ∀ δ M, E.nx δ M → E'.nx δ M
  rt : ∀ r M, E.rt r M → E'.rt r M
  bk : ∀ δ M, E.bk δ M → E'.bk δ M
  ct : ∀ δ M, E.ct δ M → E'.ct δ M
  ex : E.ex → E'.ex

def rd (w : WE) : TE := fun σ H Q => ∃ C δ M τ, Rel C δ M τ σ H ∧ w δ M fun r M' => ∀ v H', Rel C δ M' ((v, r) :: τ) σ H' → Q v H'
def rdT (w : WT) : TT := fun σ H Q => ∃ C δ M τ, Rel C δ M τ σ H ∧ w δ M fun b M' => ∀ H', Rel C δ M' τ σ H' → Q b H'
def rdA (w : WA) : TA := fun σ H Q => ∃ C δ M τ, Rel C δ M τ σ H ∧ w δ M fun rs M' => ∀ vs H', vs.length = rs.length → Rel C δ M' (vs.zip rs ++ τ) σ H' → Q vs H'
/-- σ' is σ but at the places vs -/
structure Agree (vs : List Nat) (σ σ' : St) : Prop where
  len : σ'.length = σ.length
  out : ∀ i : Nat, i ∉ vs → σ'[i]? = σ[i]?
def rdG (vs : List Nat) (w : WG) : TG := fun v σ H Q => ∃ C δ M τ r, Rel C δ M ((v, r) :: τ) σ H ∧ w r δ fun δ' => ∀ σ', Agree vs σ σ' → Rel C δ' M τ σ' H → Q σ' H
def rdGs (vs : List Nat) (w : WGs) : TGs := fun xs σ H Q => ∃ C δ M τ rs, xs.length = rs.length ∧ Rel C δ M (xs.zip rs ++ τ) σ H ∧ w rs δ fun δ' => ∀ σ', Agree vs σ σ' → Rel C δ' M τ σ' H → Q σ' H
structure WalkD (J : It) (items : List Dt) (srcs : List (V × Rs)) : Prop where
  goes : ∀ ad m hid i H, i < items.length → (∀ p ∈ srcs, DenR ad m hid H p.1 p.2) → J.go i H
  stops : ∀ ad m hid H, (∀ p ∈ srcs, DenR ad m hid H p.1 p.2) → J.stop items.length H
  yields : ∀ ad m hid i H x H', (∀ p ∈ srcs, DenR ad m hid H p.1 p.2) → (∀ a, avo ad m hid a → H a ≠ none) → i < items.length → J.yld i H x H' → ∃ d, items[i]? = some d ∧ Same H H' ∧ Den (avo ad m hid) H' x d
def rdI (w : WI) : TI := fun σ H R => ∃ C δ M τ, Rel C δ M τ σ H ∧ w δ M fun items M' => ∀ J H' srcs, Rel C δ M' (srcs ++ τ) σ H' → WalkD J items srcs → R J H'
def toEnds (EX : Hp → Prop) (C : Fr) (τ : List (V × Rs)) (D : Ends) : EndsV :=
  ⟨fun δ' M' => ∀ σ' H', Rel C δ' M' τ σ' H' → D.nx σ' H', fun r M' => ∀ v δ' σ' H', Rel C δ' M' ((v, r) :: τ) σ' H' → D.rt v H',
   fun δ' M' => ∀ σ' H', Rel C δ' M' τ σ' H' → D.bk σ' H', fun δ' M' => ∀ σ' H', Rel C δ' M' τ σ' H' → D.ct σ' H', ∀ δ' M' τ' σ' H', Rel C δ' M' τ' σ' H' → EX H'⟩
def rdS (EX : Hp → Prop) (w : WS) : TS := fun D σ H => ∃ C δ M τ, Rel C δ M τ σ H ∧ w (toEnds EX C τ D) δ M

structure VE (X : Cx) (e : Expr) (w : WE) : Prop where
  pe : PE X e (rd w)
  mono : ∀ δ M Q Q', (∀ r M', Q r M' → Q' r M') → w δ M Q → w δ M Q'
structure VT (X : Cx) (e : Expr) (w : WT) : Prop where
  pt : PT X e (rdT w)
  mono : ∀ δ M Q Q', (∀ r M', Q r M' → Q' r M') → w δ M Q → w δ M Q'
structure VW (X : Cx) (e : Expr) (w : WT) : Prop where
  pw : PW X e (rdT w)
  mono : ∀ δ M Q Q', (∀ r M', Q r M' → Q' r M') → w δ M Q → w δ M Q'
structure VTs (X : Cx) (e : List Expr) (w : WT) : Prop where
  pts : PTs X e (rdT w)
  mono : ∀ δ M Q Q', (∀ r M', Q r M' → Q' r M') → w δ M Q → w δ M Q'
structure VA (X : Cx) (es : List Expr) (w : WA) : Prop where
  pa : PA X es (rdA w)
  mono : ∀ δ M Q Q', (∀ r M', Q r M' → Q' r M') → w δ M Q → w δ M Q'
structure VG (X : Cx) (tg : Expr) (vs : List Nat) (w : WG) : Prop where
  pg : PG X tg (rdG vs w)
  mono : ∀ r δ Q Q', (∀ δ', Q δ' → Q' δ') → w r δ Q → w r δ Q'
structure VGs (X : Cx) (tg : List Expr) (vs : List Nat) (w : WGs) : Prop where
  pgs : PGs X tg (rdGs vs w)
  mono : ∀ r δ Q Q', (∀ δ', Q δ' → Q' δ') → w r δ Q → w r δ Q'
structure VI (X : Cx) (tg iter : Expr) (w : WI) : Prop where
  pi : PI X tg iter (rdI w)
  mono : ∀ δ M Q Q', (∀ r M', Q r M' → Q' r M') → w δ M Q → w δ M Q'
structure VS (X : Cx) (EX : Hp → Prop) (st : Stmt) (w : WS) : Prop where
  ps : PS X st (rdS EX w)
  mono : ∀ E E' δ M, EndsV.Le E E' → w E δ M → w E' δ M
structure VSs (X : Cx) (EX : Hp → Prop) (st : List Stmt) (w : WS) : Prop where
  pss : PSs X st (rdS EX w)
  mono : ∀ E E' δ M, EndsV.Le E E' → w E δ M → w E' δ M

theorem PE.imp {X : Cx} {e : Expr} {t t' : TE} (h : PE X e t) (l : ∀ σ H Q, t' σ H Q → t σ H Q) : PE X e t' := ⟨fun pins s σ H Q I q => h.run pins s σ H Q I (l _ _ _ q)⟩
theorem PT.imp {X : Cx} {e : Expr} {t t' : TT} (h : PT X e t) (l : ∀ σ H Q, t' σ H Q → t σ H Q) : PT X e t' := ⟨fun pins s σ H Q I q => h.run pins s σ H Q I (l _ _ _ q)⟩
theorem PW.imp {X : Cx} {e : Expr} {t t' : TT} (h : PW X e t) (l : ∀ σ H Q, t' σ H Q → t σ H Q) : PW X e t' := ⟨fun wh pins s σ H Q I q => h.run wh pins s σ H Q I (l _ _ _ q)⟩
theorem PTs.imp {X : Cx} {e : List Expr} {t t' : TT} (h : PTs X e t) (l : ∀ σ H Q, t' σ H Q → t σ H Q) : PTs X e t' := ⟨fun pins s σ H Q I q => h.run pins s σ H Q I (l _ _ _ q)⟩
theorem PA.imp {X : Cx} {e : List Expr} {t t' : TA} (h : PA X e t) (l : ∀ σ H Q, t' σ H Q → t σ H Q) : PA X e t' := ⟨fun pos pins s σ H Q I q => h.run pos pins s σ H Q I (l _ _ _ q)⟩
theorem PG.imp {X : Cx} {e : Expr} {t t' : TG} (h : PG X e t) (l : ∀ v σ H Q, t' v σ H Q → t v σ H Q) : PG X e t' := ⟨fun pins s σ H v u Q I r q => h.run pins s σ H v u Q I r (l _ _ _ _ q)⟩
theorem PGs.imp {X : Cx} {e : List Expr} {t t' : TGs} (h : PGs X e t) (l : ∀ v σ H Q, t' v σ H Q → t v σ H Q) : PGs X e t' := ⟨fun pins s σ H v u Q I r q => h.run pins s σ H v u Q I r (l _ _ _ _ q)⟩
theorem PI.imp {X : Cx} {tg e : Expr} {t t' : TI} (h : PI X tg e t) (l : ∀ σ H R, t' σ H R → t σ H R) : PI X tg e t' := ⟨fun pins s σ H R I q => h.run pins s σ H R I (l _ _ _ q)⟩
theorem PS.imp {X : Cx} {e : Stmt} {t t' : TS} (h : PS X e t) (l : ∀ D σ H, t' D σ H → t D σ H) : PS X e t' := ⟨fun pins s σ H D I q => h.run pins s σ H D I (l _ _ _ q)⟩
theorem PSs.imp {X : Cx} {e : List Stmt} {t t' : TS} (h : PSs X e t) (l : ∀ D σ H, t' D σ H → t D σ H) : PSs X e t' := ⟨fun pins s σ H D I q => h.run pins s σ H D I (l _ _ _ q)⟩

section
variable {X : Cx} {a b c e : Expr} {wa wb we : WE} {wt : WT} {pos : Pos} {EX : Hp → Prop}
/-! ### names, constants -/
def wVar (i : Nat) : WE := fun δ M Q => match δ[i]? with | some (some r) => Q r M | _ => False
theorem v_var' {i : Nat} {x : Str} (h : PE X (.Name x pos) (tVar i)) : VE X (.Name x pos) (wVar i) := by
  refine ⟨PE.imp h ?_, ?_⟩
  · rintro σ H Q ⟨C, δ, M, τ, ⟨ad, r⟩, q⟩
    unfold wVar at q
    split at q
    · rename_i x hx
      obtain ⟨v, h1, h2⟩ := r.slot i x hx
      exact ⟨v, h1, q v H ⟨ad, r.sub fun p hp => (List.mem_cons.mp hp).elim (fun e => by rw [e]; exact h2) (r.tmp p)⟩⟩
    · exact q.elim
  · intro δ M Q Q' h q
    unfold wVar at q ⊢
    split at q
    · exact h _ _ q
    · exact q
theorem vv (i : Nat) {x : Str} {pos : Pos} (hN : X.N[i]? = some x := by rfl) (hv : Vis X.env.scope x := by first | exact Or.inl rfl | exact Or.inr (Or.inl rfl) | exact Or.inr (Or.inr rfl)) (hd : (x == ("__debug__" : Str)) = false := by decide)
    (hcd : (x == ("__classdict__" : Str)) = false := by decide) : VE X (.Name x pos) (wVar i) := v_var' (pe_var hN hv hd hcd)
def wC (d : Dt) : WE := fun _ M Q => Q (.v d) M
theorem v_const {v : V} {d : Dt} (h : PE X e (tC v)) (hd : ∀ av H, Den av H v d) : VE X e (wC d) := by
  refine ⟨PE.imp h ?_, fun δ M Q Q' h q => h _ _ q⟩
  rintro σ H Q ⟨C, δ, M, τ, ⟨ad, r⟩, q⟩
  exact q v H ⟨ad, r.sub fun p hp => (List.mem_cons.mp hp).elim (fun e => by rw [e]; exact hd _ _) (r.tmp p)⟩
theorem v_int {i : Int} {j} : VE X (.Constant (.int i) j pos) (wC (.int i)) := v_const pe_int fun _ _ => .int i
theorem v_bl {i : Bool} {j} : VE X (.Constant (.bool i) j pos) (wC (.bl i)) := v_const pe_bl fun _ _ => .bl i
theorem v_non {j} : VE X (.Constant .none j pos) (wC .non) := v_const pe_non fun _ _ => .non
theorem v_str {i : Str} {j} : VE X (.Constant (.str i) j pos) (wC (.str i)) := v_const pe_str fun _ _ => .str i

/-! ### arguments -/
def wNil : WA := fun _ M Q => Q [] M
def wCons (w : WE) (ws : WA) : WA := fun δ M Q => w δ M fun r M1 => ws δ M1 fun rs M2 => Q (r :: rs) M2
theorem va_nil : VA X [] wNil := by
  refine ⟨PA.imp pa_nil ?_, fun δ M Q Q' h q => h _ _ q⟩
  rintro σ H Q ⟨C, δ, M, τ, r, q⟩
  exact q [] H rfl r
theorem va_cons {es : List Expr} {ws : WA} (ha : VE X e we) (hr : VA X es ws) (hs : starEach (e :: es) X.env = (false, eval e X.env) :: starEach es X.env := by rfl) : VA X (e :: es) (wCons we ws) := by
  refine ⟨PA.imp (pa_cons ha.pe hr.pa hs) ?_, fun δ M Q Q' h q => ha.mono _ _ _ _ (fun r M1 q1 => hr.mono _ _ _ _ (fun rs M2 q2 => h _ _ q2) q1) q⟩
  rintro σ H Q ⟨C, δ, M, τ, r, q⟩
  refine ⟨C, δ, M, τ, r, ha.mono _ _ _ _ (fun r1 M1 q1 v1 H1 rel1 => ?_) q⟩
  refine ⟨C, δ, M1, _, rel1, hr.mono _ _ _ _ (fun rs M2 q2 vs H2 hl rel2 => ?_) q1⟩
  refine q2 (v1 :: vs) H2 (by rw [List.length_cons, List.length_cons, hl]) (rel2.sub fun p hp => ?_)
  rw [List.zip_cons_cons, List.cons_append] at hp
  rcases List.mem_cons.mp hp with rfl | hp
  · exact List.mem_append_right _ List.mem_cons_self
  · rcases List.mem_append.mp hp with hp | hp
    · exact List.mem_append_left _ hp
    · exact List.mem_append_right _ (List.mem_cons_of_mem _ hp)

/-! ### operators by values -/
abbrev W2 := Rs → Rs → Me → (Rs → Me → Prop) → Prop
structure VOp (X : Cx) (f : Value → Value → Sem Value) (o : W2) : Prop where
  ex : ∃ r : R2, OpR X f r ∧ ∀ C δ M τ σ H x y r1 r2 Q, Rel C δ M ((y, r2) :: (x, r1) :: τ) σ H → o r1 r2 M (fun rr M' => ∀ v H', Rel C δ M' ((v, rr) :: τ) σ H' → Q v H') → r x y H Q
  mono : ∀ r1 r2 M Q Q', (∀ r M', Q r M' → Q' r M') → o r1 r2 M Q → o r1 r2 M Q'
def wOp (o : W2) (wa wb : WE) : WE := fun δ M Q => wa δ M fun r1 M1 => wb δ M1 fun r2 M2 => o r1 r2 M2 Q
theorem wOp_mono {o : W2} {f : Value → Value → Sem Value} (ho : VOp X f o) (ha : VE X a wa) (hb : VE X b wb) : ∀ δ M Q Q', (∀ r M', Q r M' → Q' r M') → wOp o wa wb δ M Q → wOp o wa wb δ M Q' :=
  fun δ M Q Q' h q => ha.mono _ _ _ _ (fun r1 M1 q1 => hb.mono _ _ _ _ (fun r2 M2 q2 => ho.mono _ _ _ _ _ h q2) q1) q
theorem wOp_link {o : W2} {f : Value → Value → Sem Value} {r : R2} (hm : ∀ r1 r2 M Q Q', (∀ r M', Q r M' → Q' r M') → o r1 r2 M Q → o r1 r2 M Q') (hl : ∀ C δ M τ σ H x y r1 r2 Q, Rel C δ M ((y, r2) :: (x, r1) :: τ) σ H → o r1 r2 M (fun rr M' => ∀ v H', Rel C δ M' ((v, rr) :: τ) σ H' → Q v H') → r x y H Q)
    (ha : VE X a wa) (hb : VE X b wb) : ∀ σ H Q, rd (wOp o wa wb) σ H Q → tOp r (rd wa) (rd wb) σ H Q := by
  rintro σ H Q ⟨C, δ, M, τ, rel, q⟩
  refine ⟨C, δ, M, τ, rel, ha.mono _ _ _ _ (fun r1 M1 q1 v1 H1 rel1 => ?_) q⟩
  refine ⟨C, δ, M1, _, rel1, hb.mono _ _ _ _ (fun r2 M2 q2 v2 H2 rel2 => ?_) q1⟩
  exact hl C δ M2 τ σ H2 v1 v2 r1 r2 Q rel2 q2
theorem v_op {op : Operator} {o : W2} (ho : VOp X (binaryOp op) o) (ha : VE X a wa) (hb : VE X b wb) : VE X (.BinOp a op b pos) (wOp o wa wb) := by
  obtain ⟨r, h1, h2⟩ := ho.ex
  exact ⟨PE.imp (pe_op h1 ha.pe hb.pe) (wOp_link (f := binaryOp op) ho.mono h2 ha hb), wOp_mono ho ha hb⟩
theorem v_cmp {op : CmpOp} {o : W2} (ho : VOp X (compareOp op) o) (ha : VE X a wa) (hb : VE X b wb) (hm : behindInMarks op b = false) : VE X (.Compare a [op] [b] pos) (wOp o wa wb) := by
  obtain ⟨r, h1, h2⟩ := ho.ex
  exact ⟨PE.imp (pe_cmpR h1 ha.pe hb.pe hm) (wOp_link (f := compareOp op) ho.mono h2 ha hb), wOp_mono ho ha hb⟩
@[reducible] def asBl (r : Rs) (k : Bool → Prop) : Prop := match r with | .v (.bl b) => k b | _ => False
theorem asBl_mono {r : Rs} {k k' : Bool → Prop} (h : ∀ b, k b → k' b) (q : asBl r k) : asBl r k' := by
  unfold asBl at q ⊢
  split at q
  · exact h _ q
  · exact q
theorem asBl_ok {r : Rs} {k : Bool → Prop} (q : asBl r k) : ∃ b, r = .v (.bl b) ∧ k b := by
  unfold asBl at q
  split at q
  · exact ⟨_, rfl, q⟩
  · exact q.elim
def wTest (w : WE) : WT := fun δ M Q => w δ M fun r M1 => asBl r fun b => Q b M1
theorem wTest_mono (he : VE X e we) : ∀ δ M Q Q', (∀ r M', Q r M' → Q' r M') → wTest we δ M Q → wTest we δ M Q' := fun δ M Q Q' h q => he.mono _ _ _ _ (fun r M1 q1 => asBl_mono (fun b => h b M1) q1) q
/-- the value of a bool at a Rel -/
theorem rel_bl {C : Fr} {δ : Sl} {M : Me} {τ : List (V × Rs)} {σ : St} {H : Hp} {v : V} {b : Bool} (r : Rel C δ M ((v, .v (.bl b)) :: τ) σ H) : v = .bl b := by
  obtain ⟨ad, r⟩ := r
  have h := r.tmp _ List.mem_cons_self
  have h' : Den (avo ad M.length C.hid) H v (.bl b) := h
  cases h'
  rfl
theorem rel_int {C : Fr} {δ : Sl} {M : Me} {τ : List (V × Rs)} {σ : St} {H : Hp} {v : V} {i : Int} (r : Rel C δ M τ σ H) (hm : (v, Rs.v (.int i)) ∈ τ) : v = .int i := by
  obtain ⟨ad, r⟩ := r
  have h' : Den (avo ad M.length C.hid) H v (.int i) := r.tmp _ hm
  cases h'
  rfl
theorem rel_str {C : Fr} {δ : Sl} {M : Me} {τ : List (V × Rs)} {σ : St} {H : Hp} {v : V} {i : Str} (r : Rel C δ M τ σ H) (hm : (v, Rs.v (.str i)) ∈ τ) : v = .str i := by
  obtain ⟨ad, r⟩ := r
  have h' : Den (avo ad M.length C.hid) H v (.str i) := r.tmp _ hm
  cases h'
  rfl
theorem rel_bl' {C : Fr} {δ : Sl} {M : Me} {τ : List (V × Rs)} {σ : St} {H : Hp} {v : V} {i : Bool} (r : Rel C δ M τ σ H) (hm : (v, Rs.v (.bl i)) ∈ τ) : v = .bl i := by
  obtain ⟨ad, r⟩ := r
  have h' : Den (avo ad M.length C.hid) H v (.bl i) := r.tmp _ hm
  cases h'
  rfl
theorem vt_cmp {op : CmpOp} {o : W2} (ho : VOp X (compareOp op) o) (ha : VE X a wa) (hb : VE X b wb) (hm : behindInMarks op b = false) : VT X (.Compare a [op] [b] pos) (wTest (wOp o wa wb)) := by
  obtain ⟨r, h1, h2⟩ := ho.ex
  refine ⟨PT.imp (pt_cmpR h1 ha.pe hb.pe hm) ?_, fun δ M Q Q' h q => wOp_mono ho ha hb _ _ _ _ (fun r M1 q1 => asBl_mono (fun b => h b M1) q1) q⟩
  rintro σ H Q ⟨C, δ, M, τ, rel, q⟩
  refine wOp_link (f := compareOp op) ho.mono h2 ha hb σ H _ ⟨C, δ, M, τ, rel, wOp_mono ho ha hb _ _ _ _ (fun rr M1 q1 v H' rel' => ?_) q⟩
  obtain ⟨b, rfl, q2⟩ := asBl_ok q1
  exact ⟨b, rel_bl rel', q2 H' rel'.tail⟩
theorem vt_val (he : VE X e we) (hw : ∀ whole, isTrue e X.env whole = (do let v ← whole; standAt e.pos; holding [v] (truthy v)) := by intro _; rfl) : VT X e (wTest we) := by
  refine ⟨PT.imp (pt_val he.pe hw) ?_, wTest_mono he⟩
  rintro σ H Q ⟨C, δ, M, τ, rel, q⟩
  refine ⟨C, δ, M, τ, rel, he.mono _ _ _ _ (fun rr M1 q1 v H' rel' => ?_) q⟩
  obtain ⟨b, rfl, q2⟩ := asBl_ok q1
  exact ⟨b, rel_bl rel', q2 H' rel'.tail⟩

/-! ### and, or, not, if -/
def wAnd (t u : WT) : WT := fun δ M Q => t δ M fun b M1 => if b = true then u δ M1 Q else Q false M1
def wOr (t u : WT) : WT := fun δ M Q => t δ M fun b M1 => if b = true then Q true M1 else u δ M1 Q
def wNot (t : WT) : WT := fun δ M Q => t δ M fun b M1 => Q (!b) M1
theorem ite_mono {b : Bool} {A B A' B' : Prop} (h : A → A') (h' : B → B') (q : if b = true then A else B) : if b = true then A' else B' := by
  cases b with
  | true => exact h q
  | false => exact h' q
variable {t u : WT} {rest : List Expr}
theorem VW.vt (h : VW X e t) : VT X e t := ⟨h.pw.pt, h.mono⟩
theorem vw_and1 (h : VT X a t) : VW X (.BoolOp .And [a] pos) t := ⟨pw_and1 h.pt, h.mono⟩
theorem vw_or1 (h : VT X a t) : VW X (.BoolOp .Or [a] pos) t := ⟨pw_or1 h.pt, h.mono⟩
theorem vw_and (h : VT X a t) (h2 : VW X (.BoolOp .And (b :: rest) pos) u) : VW X (.BoolOp .And (a :: b :: rest) pos) (wAnd t u) := by
  refine ⟨PW.imp (pw_and h.pt h2.pw) ?_, fun δ M Q Q' hq q => h.mono _ _ _ _ (fun b M1 q1 => ite_mono (h2.mono _ _ _ _ hq) (hq _ _) q1) q⟩
  rintro σ H Q ⟨C, δ, M, τ, rel, q⟩
  refine ⟨C, δ, M, τ, rel, h.mono _ _ _ _ (fun b M1 q1 H' rel' => ?_) q⟩
  exact ite_mono (fun q2 => ⟨C, δ, M1, τ, rel', q2⟩) (fun q2 => q2 H' rel') q1
theorem vw_or (h : VT X a t) (h2 : VW X (.BoolOp .Or (b :: rest) pos) u) : VW X (.BoolOp .Or (a :: b :: rest) pos) (wOr t u) := by
  refine ⟨PW.imp (pw_or h.pt h2.pw) ?_, fun δ M Q Q' hq q => h.mono _ _ _ _ (fun b M1 q1 => ite_mono (hq _ _) (h2.mono _ _ _ _ hq) q1) q⟩
  rintro σ H Q ⟨C, δ, M, τ, rel, q⟩
  refine ⟨C, δ, M, τ, rel, h.mono _ _ _ _ (fun b M1 q1 H' rel' => ?_) q⟩
  exact ite_mono (fun q2 => q2 H' rel') (fun q2 => ⟨C, δ, M1, τ, rel', q2⟩) q1
theorem vt_not (h : VT X a t) : VT X (.UnaryOp .Not a pos) (wNot t) := by
  refine ⟨PT.imp (pt_not h.pt) ?_, fun δ M Q Q' hq q => h.mono _ _ _ _ (fun b M1 q1 => hq _ _ q1) q⟩
  rintro σ H Q ⟨C, δ, M, τ, rel, q⟩
  exact ⟨C, δ, M, τ, rel, q⟩
/-- as values -/
def wAndV (wa wb : WE) : WE := fun δ M Q => wa δ M fun r M1 => asBl r fun b => if b = true then wb δ M1 Q else Q (.v (.bl false)) M1
def wOrV (wa wb : WE) : WE := fun δ M Q => wa δ M fun r M1 => asBl r fun b => if b = true then Q (.v (.bl true)) M1 else wb δ M1 Q
def wNotV (wa : WE) : WE := fun δ M Q => wa δ M fun r M1 => asBl r fun b => Q (.v (.bl (!b))) M1
theorem v_one {op} (h : VE X a wa) : VE X (.BoolOp op [a] pos) wa := ⟨pe_one h.pe, h.mono⟩
theorem Rel.bl {C : Fr} {δ : Sl} {M : Me} {τ : List (V × Rs)} {σ : St} {H : Hp} {b : Bool} (r : Rel C δ M τ σ H) : Rel C δ M ((.bl b, .v (.bl b)) :: τ) σ H := by
  obtain ⟨ad, r⟩ := r
  exact ⟨ad, r.sub fun p hp => (List.mem_cons.mp hp).elim (fun e => by rw [e]; exact Den.bl b) (r.tmp p)⟩
theorem Rel.int {C : Fr} {δ : Sl} {M : Me} {τ : List (V × Rs)} {σ : St} {H : Hp} {b : Int} (r : Rel C δ M τ σ H) : Rel C δ M ((.int b, .v (.int b)) :: τ) σ H := by
  obtain ⟨ad, r⟩ := r
  exact ⟨ad, r.sub fun p hp => (List.mem_cons.mp hp).elim (fun e => by rw [e]; exact Den.int b) (r.tmp p)⟩
theorem Rel.non {C : Fr} {δ : Sl} {M : Me} {τ : List (V × Rs)} {σ : St} {H : Hp} (r : Rel C δ M τ σ H) : Rel C δ M ((.non, .v .non) :: τ) σ H := by
  obtain ⟨ad, r⟩ := r
  exact ⟨ad, r.sub fun p hp => (List.mem_cons.mp hp).elim (fun e => by rw [e]; exact Den.non) (r.tmp p)⟩
theorem v_and (ha : VE X a wa) (hb : VE X (.BoolOp .And (b :: rest) pos) wb) : VE X (.BoolOp .And (a :: b :: rest) pos) (wAndV wa wb) := by
  refine ⟨PE.imp (pe_and ha.pe hb.pe) ?_, fun δ M Q Q' hq q => ha.mono _ _ _ _ (fun r M1 q1 => asBl_mono (fun b => ite_mono (hb.mono _ _ _ _ hq) (hq _ _)) q1) q⟩
  rintro σ H Q ⟨C, δ, M, τ, rel, q⟩
  refine ⟨C, δ, M, τ, rel, ha.mono _ _ _ _ (fun r M1 q1 v H' rel' => ?_) q⟩
  obtain ⟨b, rfl, q2⟩ := asBl_ok q1
  exact ⟨b, rel_bl rel', ite_mono (fun q3 => ⟨C, δ, M1, τ, rel'.tail, q3⟩) (fun q3 => q3 _ H' rel'.tail.bl) q2⟩
theorem v_or (ha : VE X a wa) (hb : VE X (.BoolOp .Or (b :: rest) pos) wb) : VE X (.BoolOp .Or (a :: b :: rest) pos) (wOrV wa wb) := by
  refine ⟨PE.imp (pe_or ha.pe hb.pe) ?_, fun δ M Q Q' hq q => ha.mono _ _ _ _ (fun r M1 q1 => asBl_mono (fun b => ite_mono (hq _ _) (hb.mono _ _ _ _ hq)) q1) q⟩
  rintro σ H Q ⟨C, δ, M, τ, rel, q⟩
  refine ⟨C, δ, M, τ, rel, ha.mono _ _ _ _ (fun r M1 q1 v H' rel' => ?_) q⟩
  obtain ⟨b, rfl, q2⟩ := asBl_ok q1
  exact ⟨b, rel_bl rel', ite_mono (fun q3 => q3 _ H' rel'.tail.bl) (fun q3 => ⟨C, δ, M1, τ, rel'.tail, q3⟩) q2⟩
theorem v_not (ha : VE X a wa) : VE X (.UnaryOp .Not a pos) (wNotV wa) := by
  refine ⟨PE.imp (pe_not ha.pe) ?_, fun δ M Q Q' hq q => ha.mono _ _ _ _ (fun r M1 q1 => asBl_mono (fun b => hq _ _) q1) q⟩
  rintro σ H Q ⟨C, δ, M, τ, rel, q⟩
  refine ⟨C, δ, M, τ, rel, ha.mono _ _ _ _ (fun r M1 q1 v H' rel' => ?_) q⟩
  obtain ⟨b, rfl, q2⟩ := asBl_ok q1
  exact ⟨b, rel_bl rel', q2 _ H' rel'.tail.bl⟩
def wIf (t : WT) (wa wb : WE) : WE := fun δ M Q => t δ M fun b M1 => if b = true then wa δ M1 Q else wb δ M1 Q
theorem v_if (hc : VT X c t) (ha : VE X a wa) (hb : VE X b wb) : VE X (.IfExp c a b pos) (wIf t wa wb) := by
  refine ⟨PE.imp (pe_ifExp hc.pt ha.pe hb.pe) ?_, fun δ M Q Q' hq q => hc.mono _ _ _ _ (fun r M1 q1 => ite_mono (ha.mono _ _ _ _ hq) (hb.mono _ _ _ _ hq) q1) q⟩
  rintro σ H Q ⟨C, δ, M, τ, rel, q⟩
  refine ⟨C, δ, M, τ, rel, hc.mono _ _ _ _ (fun r M1 q1 H' rel' => ?_) q⟩
  exact ite_mono (fun q3 => ⟨C, δ, M1, τ, rel', q3⟩) (fun q3 => ⟨C, δ, M1, τ, rel', q3⟩) q1
/-- a chain of two comparisons -/
def wChain (o o' : W2) (wa wb wc : WE) : WE := fun δ M Q => wa δ M fun r1 M1 => wb δ M1 fun r2 M2 => o r1 r2 M2 fun r M3 => asBl r fun k => if k = true then wc δ M3 fun r3 M4 => o' r2 r3 M4 Q else Q (.v (.bl false)) M3
theorem v_chain {op op' : CmpOp} {o o' : W2} {wc : WE} (ho : VOp X (compareOp op) o) (ho' : VOp X (compareOp op') o') (ha : VE X a wa) (hb : VE X b wb) (hc : VE X c wc)
    (pc : ∀ {r r' : R2} {ta tb tc : TE}, OpR X (compareOp op) r → OpR X (compareOp op') r' → PE X a ta → PE X b tb → PE X c tc → PE X (.Compare a [op, op'] [b, c] pos) (tChain r r' ta tb tc)) : VE X (.Compare a [op, op'] [b, c] pos) (wChain o o' wa wb wc) := by
  obtain ⟨r, h1, h2⟩ := ho.ex
  obtain ⟨r', h1', h2'⟩ := ho'.ex
  refine ⟨PE.imp (pc h1 h1' ha.pe hb.pe hc.pe) ?_, fun δ M Q Q' hq q => ha.mono _ _ _ _ (fun r1 M1 q1 => hb.mono _ _ _ _ (fun r2 M2 q2 => ho.mono _ _ _ _ _ (fun r M3 q3 => asBl_mono (fun k => ite_mono (hc.mono _ _ _ _ fun r3 M4 q4 => ho'.mono _ _ _ _ _ hq q4) (hq _ _)) q3) q2) q1) q⟩
  rintro σ H Q ⟨C, δ, M, τ, rel, q⟩
  refine ⟨C, δ, M, τ, rel, ha.mono _ _ _ _ (fun r1 M1 q1 v1 H1 rel1 => ?_) q⟩
  refine ⟨C, δ, M1, _, rel1, hb.mono _ _ _ _ (fun r2 M2 q2 v2 H2 rel2 => ?_) q1⟩
  have rel2' : Rel C δ M2 ((v2, r2) :: (v1, r1) :: (v2, r2) :: τ) σ H2 := rel2.sub fun p hp => by
    rcases List.mem_cons.mp hp with rfl | hp
    · exact List.mem_cons_self
    rcases List.mem_cons.mp hp with rfl | hp
    · exact List.mem_cons_of_mem _ List.mem_cons_self
    rcases List.mem_cons.mp hp with rfl | hp
    · exact List.mem_cons_self
    · exact List.mem_cons_of_mem _ (List.mem_cons_of_mem _ hp)
  refine h2 C δ M2 ((v2, r2) :: τ) σ H2 v1 v2 r1 r2 _ rel2' (ho.mono _ _ _ _ _ (fun rr M3 q3 v3 H3 rel3 => ?_) q2)
  obtain ⟨k, rfl, q4⟩ := asBl_ok q3
  refine ⟨k, rel_bl rel3, ?_⟩
  refine ite_mono (fun q5 => ?_) (fun q5 => q5 _ H3 rel3.tail.tail.bl) q4
  refine ⟨C, δ, M3, _, rel3.tail, hc.mono _ _ _ _ (fun r3 M4 q6 v4 H4 rel4 => ?_) q5⟩
  exact h2' C δ M4 τ σ H4 v2 v4 r2 r3 Q rel4 q6

/-! ### displays -/
def allV : List Rs → Option (List Dt)
  | [] => some []
  | .v d :: rs => (allV rs).map (d :: ·)
  | .o _ :: _ => none
theorem allV_den {ad : Nat → Addr} {m : Nat} {hid : Addr → Prop} {H : Hp} : ∀ {vs : List V} {rs : List Rs} {ds : List Dt}, allV rs = some ds → vs.length = rs.length → (∀ p ∈ vs.zip rs, DenR ad m hid H p.1 p.2) → DenL (avo ad m hid) H vs ds
  | [], [], ds, e, _, _ => by cases e; exact .nil
  | v :: vs, .v d :: rs, ds, e, hl, h => by
    unfold allV at e
    cases q : allV rs with
    | none => rw [q] at e; cases e
    | some es =>
      rw [q] at e
      cases e
      exact .cons (h (v, .v d) (by rw [List.zip_cons_cons]; exact List.mem_cons_self)) (allV_den q (by simpa using hl) fun p hp => h p (by rw [List.zip_cons_cons]; exact List.mem_cons_of_mem _ hp))
  | v :: vs, .o n :: rs, ds, e, hl, h => by cases e
  | [], _ :: _, _, _, hl, _ => by simp at hl
  | _ :: _, [], _, _, hl, _ => by simp at hl
@[reducible] def asVs (rs : List Rs) (k : List Dt → Prop) : Prop := match allV rs with | some ds => k ds | none => False
theorem asVs_mono {rs : List Rs} {k k' : List Dt → Prop} (h : ∀ b, k b → k' b) (q : asVs rs k) : asVs rs k' := by
  unfold asVs at q ⊢
  split at q
  · exact h _ q
  · exact q
theorem asVs_ok {rs : List Rs} {k : List Dt → Prop} (q : asVs rs k) : ∃ ds, allV rs = some ds ∧ k ds := by
  unfold asVs at q
  split at q
  · exact ⟨_, by assumption, q⟩
  · exact q.elim
theorem allV_length : ∀ {rs : List Rs} {ds : List Dt}, allV rs = some ds → ds.length = rs.length
  | [], ds, e => by cases e; rfl
  | .v d :: rs, ds, e => by
    unfold allV at e
    cases q : allV rs with
    | none => rw [q] at e; cases e
    | some es => rw [q] at e; cases e; rw [List.length_cons, List.length_cons, allV_length q]
  | .o _ :: _, _, e => by cases e
variable {es : List Expr} {ws : WA}
theorem Rel.args {C : Fr} {δ : Sl} {M : Me} {τ : List (V × Rs)} {σ : St} {H : Hp} {vs : List V} {rs : List Rs} {ds : List Dt} (e : allV rs = some ds) (hl : vs.length = rs.length) (r : Rel C δ M (vs.zip rs ++ τ) σ H) :
    ∀ ad, RelA C ad δ M (vs.zip rs ++ τ) σ H → DenL (avo ad M.length C.hid) H vs ds := fun ad r => allV_den e hl fun p hp => r.tmp p (List.mem_append_left _ hp)
theorem Rel.drop {C : Fr} {δ : Sl} {M : Me} {τ τ' : List (V × Rs)} {σ : St} {H : Hp} (r : Rel C δ M (τ' ++ τ) σ H) : Rel C δ M τ σ H := r.sub fun _ h => List.mem_append_right _ h
theorem Rel.drop1 {C : Fr} {δ : Sl} {M : Me} {τ τ' : List (V × Rs)} {σ : St} {H : Hp} {p : V × Rs} (r : Rel C δ M (p :: (τ' ++ τ)) σ H) : Rel C δ M (p :: τ) σ H := r.sub fun q h => (List.mem_cons.mp h).elim (fun e => by rw [e]; exact List.mem_cons_self) fun h => List.mem_cons_of_mem _ (List.mem_append_right _ h)
def wTup (ws : WA) : WE := fun δ M Q => ws δ M fun rs M1 => asVs rs fun ds => ds.length ≤ 1000 ∧ Q (.v (.tup ds)) M1
def wLst (ws : WA) : WE := fun δ M Q => ws δ M fun rs M1 => asVs rs fun ds => ds.length ≤ 1000 ∧ Q (.v (.lst ds)) M1
def wLstO (ws : WA) : WE := fun δ M Q => ws δ M fun rs M1 => asVs rs fun ds => ds.length ≤ 1000 ∧ Q (.o M1.length) (M1 ++ [.lst ds])
theorem le_line {n : Nat} (h : n ≤ 1000) : n ≤ sizeLine := Nat.le_of_lt (small1000 h)
theorem v_tup {x1} (h : VA X es ws) : VE X (.Tuple es x1 pos) (wTup ws) := by
  refine ⟨PE.imp (pe_tup h.pa) ?_, fun δ M Q Q' hq q => h.mono _ _ _ _ (fun rs M1 q1 => asVs_mono (fun ds q2 => ⟨q2.1, hq _ _ q2.2⟩) q1) q⟩
  rintro σ H Q ⟨C, δ, M, τ, rel, q⟩
  refine ⟨C, δ, M, τ, rel, h.mono _ _ _ _ (fun rs M1 q1 vs H1 hl rel1 => ?_) q⟩
  obtain ⟨ds, e, hz, q2⟩ := asVs_ok q1
  refine ⟨by rw [hl, ← allV_length e]; exact le_line hz, fun p hp => q2 _ _ ?_⟩
  exact (rel1.newT hp (rel1.args e hl)).drop1
theorem v_lst (h : VA X es ws) : VE X (.List es pos) (wLst ws) := by
  refine ⟨PE.imp (pe_lst h.pa) ?_, fun δ M Q Q' hq q => h.mono _ _ _ _ (fun rs M1 q1 => asVs_mono (fun ds q2 => ⟨q2.1, hq _ _ q2.2⟩) q1) q⟩
  rintro σ H Q ⟨C, δ, M, τ, rel, q⟩
  refine ⟨C, δ, M, τ, rel, h.mono _ _ _ _ (fun rs M1 q1 vs H1 hl rel1 => ?_) q⟩
  obtain ⟨ds, e, hz, q2⟩ := asVs_ok q1
  refine ⟨by rw [hl, ← allV_length e]; exact le_line hz, fun p hp => q2 _ _ ?_⟩
  exact (rel1.newL hp (rel1.args e hl)).drop1
theorem v_lstO (h : VA X es ws) : VE X (.List es pos) (wLstO ws) := by
  refine ⟨PE.imp (pe_lst h.pa) ?_, fun δ M Q Q' hq q => h.mono _ _ _ _ (fun rs M1 q1 => asVs_mono (fun ds q2 => ⟨q2.1, hq _ _ q2.2⟩) q1) q⟩
  rintro σ H Q ⟨C, δ, M, τ, rel, q⟩
  refine ⟨C, δ, M, τ, rel, h.mono _ _ _ _ (fun rs M1 q1 vs H1 hl rel1 => ?_) q⟩
  obtain ⟨ds, e, hz, q2⟩ := asVs_ok q1
  refine ⟨by rw [hl, ← allV_length e]; exact le_line hz, fun p hp => q2 _ _ ?_⟩
  exact (rel1.newO hp (rel1.args e hl)).drop1
end
end VL
set_option Elab.async false
set_option linter.all false
set_option maxRecDepth 100000
set_option maxHeartbeats 1000000
/-! VL3: targets, statements, loops, comprehensions, calls, a def's promise over values. -/
namespace VL
open PySem PySem.Spec PyProof.Rows L2

theorem Agree.refl {vs : List Nat} {σ : St} : Agree vs σ σ := ⟨rfl, fun _ _ => rfl⟩
theorem Agree.trans {vs vs' : List Nat} {σ σ' σ'' : St} (a : Agree vs σ σ') (b : Agree vs' σ' σ'') : Agree (vs ++ vs') σ σ'' :=
  ⟨b.len.trans a.len, fun i hi => (b.out i fun h => hi (List.mem_append_right _ h)).trans (a.out i fun h => hi (List.mem_append_left _ h))⟩
theorem Agree.set {σ : St} (i : Nat) (v : Option V) : Agree [i] σ (σ.set i v) := ⟨List.length_set, fun j hj => List.getElem?_set_ne (fun e => hj (by rw [e]; exact List.mem_cons_self))⟩
theorem wipe_get {σ : St} {i : Nat} : ∀ {vs : List Nat}, (wipe σ vs)[i]? = if i ∈ vs then (if i < σ.length then some none else none) else σ[i]?
  | [] => by rw [if_neg (by simp)]; rfl
  | v :: vs => by
    unfold wipe
    by_cases hi : v = i
    · subst hi
      rw [if_pos List.mem_cons_self]
      by_cases hl : v < σ.length
      · rw [if_pos hl, List.getElem?_set_self (by rw [wipe_length]; exact hl)]
      · rw [if_neg hl, List.getElem?_eq_none (by rw [List.length_set, wipe_length]; omega)]
    · rw [List.getElem?_set_ne hi, wipe_get (vs := vs)]
      by_cases hm : i ∈ vs
      · rw [if_pos hm, if_pos (List.mem_cons_of_mem _ hm)]
      · rw [if_neg hm, if_neg (by simp only [List.mem_cons, not_or]; exact ⟨fun e => hi e.symm, hm⟩)]
theorem Agree.wipe {vs : List Nat} {σ σ' : St} (a : Agree vs σ σ') : L2.wipe σ' vs = L2.wipe σ vs := by
  refine List.ext_getElem? fun i => ?_
  rw [wipe_get, wipe_get, a.len]
  by_cases hm : i ∈ vs
  · rw [if_pos hm, if_pos hm]
  · rw [if_neg hm, if_neg hm, a.out i hm]
theorem wipe_wipe {vs : List Nat} {σ : St} : L2.wipe (L2.wipe σ vs) vs = L2.wipe σ vs := Agree.wipe ⟨wipe_length σ vs, fun i hi => by rw [wipe_get, if_neg hi]⟩

section
variable {X : Cx} {a b c e : Expr} {wa wb we : WE} {wt : WT} {pos : Pos} {EX : Hp → Prop}
/-! ### targets -/
def gN (i : Nat) : WG := fun r δ Q => Q (δ.set i (some r))
theorem vg_name {i : Nat} {x : Str} (hN : X.N.Nodup) (hi : X.N[i]? = some x := by rfl) (hx : Loc X.env.scope x := by first | exact .inl rfl | exact .inr rfl) (hf : X.fn x = true ∨ X.env.scope.names.lookup x = some .local := by first | exact .inl rfl | exact .inr rfl | assumption) : VG X (.Name x pos) [i] (gN i) := by
  refine ⟨PG.imp (pg_name hN hi hx hf) ?_, fun r δ Q Q' h q => h _ q⟩
  rintro v σ H Q ⟨C, δ, M, τ, r, rel, q⟩
  exact q _ (Agree.set i _) (rel.store i)
def gsNil : WGs := fun rs δ Q => match rs with | [] => Q δ | _ :: _ => False
def gsCons (w : WG) (ws : WGs) : WGs := fun rs δ Q => match rs with | r :: rs => w r δ fun δ' => ws rs δ' Q | [] => False
theorem vgs_nil : VGs X [] [] gsNil := by
  refine ⟨PGs.imp pgs_nil ?_, fun rs δ Q Q' h q => ?_⟩
  · rintro xs σ H Q ⟨C, δ, M, τ, rs, hl, rel, q⟩
    cases rs with
    | nil =>
      cases xs with
      | nil => exact ⟨rfl, q σ Agree.refl rel⟩
      | cons _ _ => simp at hl
    | cons _ _ => exact q.elim
  · cases rs with
    | nil => exact h _ q
    | cons _ _ => exact q
theorem vgs_cons {es : List Expr} {vs vs' : List Nat} {w : WG} {ws : WGs} (h1 : VG X e vs w) (h2 : VGs X es vs' ws)
    (hs : (assignEach (e :: es) X.env).map (·.2) = assign e X.env :: (assignEach es X.env).map (·.2) := by rfl) : VGs X (e :: es) (vs ++ vs') (gsCons w ws) := by
  refine ⟨PGs.imp (pgs_cons h1.pg h2.pgs hs) ?_, fun rs δ Q Q' h q => ?_⟩
  · rintro xs σ H Q ⟨C, δ, M, τ, rs, hl, rel, q⟩
    cases rs with
    | nil => exact q.elim
    | cons r rs =>
      cases xs with
      | nil => simp at hl
      | cons v xs =>
        refine ⟨v, xs, rfl, C, δ, M, xs.zip rs ++ τ, r, by rw [List.zip_cons_cons] at rel; exact rel, h1.mono _ _ _ _ (fun δ' q' σ' ag rel' => ?_) q⟩
        refine ⟨C, δ', M, τ, rs, by simpa using hl, rel', h2.mono _ _ _ _ (fun δ'' q'' σ'' ag' rel'' => ?_) q'⟩
        exact q'' σ'' (ag.trans ag') rel''
  · cases rs with
    | nil => exact q
    | cons r rs => exact h1.mono _ _ _ _ (fun δ' q' => h2.mono _ _ _ _ h q') q
/-- a tuple or a list is unpacked -/
def gSeq (n : Nat) (t : TGs) : TG := fun v σ H Q => ∃ a xs, v = .ref a ∧ (Rd H a (.tup xs) ∨ H a = some (.lst xs)) ∧ xs.length = n ∧ t xs σ H Q
theorem pg_seq {es : List Expr} {k : Nat} {t : TGs} {n : Nat} (hc : X.calm = true) (h : PGs X es t)
    (hn : (assignEach es X.env).length = n := by rfl) (hst : (assignEach es X.env).findIdx? (·.1) = none := by rfl) : PG X (.Tuple es k pos) (gSeq n t) := by
  refine ⟨fun pins s σ H v u Q I r hw => ?_⟩
  obtain ⟨a, xs, e1, hq, hl, hw⟩ := hw
  rcases hq with hq | hq
  · exact (pg_tup hc h hn hst).run pins s σ H v u Q I r ⟨a, xs, e1, .inl hq, hl, hw⟩
  · exact (pg_lst hc h hn hst).run pins s σ H v u Q I r ⟨a, xs, e1, SqL.of hq, hl, hw⟩
def seqD (d : Dt) : Option (List Dt) := match d with | .tup ds => some ds | .lst ds => some ds | _ => none
theorem seqD_den {av : Addr → Prop} {H : Hp} {v : V} {d : Dt} {ds : List Dt} (e : seqD d = some ds) (h : Den av H v d) : ∃ a xs, v = .ref a ∧ (Rd H a (.tup xs) ∨ H a = some (.lst xs)) ∧ DenL av H xs ds := by
  cases h with
  | tup h1 h2 => cases e; exact ⟨_, _, rfl, .inl (.inl h1), h2⟩
  | tpf n p h1 h2 => cases e; exact ⟨_, _, rfl, .inl (.inr ⟨_, h1⟩), h2⟩
  | lst n h1 h2 => cases e; exact ⟨_, _, rfl, .inr h1, h2⟩
  | _ => cases e
def gT (n : Nat) (ws : WGs) : WG := fun r δ Q => match r with
  | .v (.tup ds) => ds.length = n ∧ ws (ds.map .v) δ Q
  | .v (.lst ds) => ds.length = n ∧ ws (ds.map .v) δ Q
  | _ => False
theorem gT_ok {n : Nat} {ws : WGs} {r : Rs} {δ : Sl} {Q : Sl → Prop} (q : gT n ws r δ Q) : ∃ d ds, r = .v d ∧ seqD d = some ds ∧ ds.length = n ∧ ws (ds.map .v) δ Q := by
  unfold gT at q
  split at q
  · exact ⟨_, _, rfl, rfl, q⟩
  · exact ⟨_, _, rfl, rfl, q⟩
  · exact q.elim
theorem zip_den {ad : Nat → Addr} {m : Nat} {hid : Addr → Prop} {H : Hp} : ∀ {xs : List V} {ds : List Dt}, DenL (avo ad m hid) H xs ds → ∀ p ∈ xs.zip (ds.map Rs.v), DenR ad m hid H p.1 p.2
  | _, _, .nil, p, hp => by simp at hp
  | _, _, .cons a b, p, hp => by
    rw [List.map_cons, List.zip_cons_cons] at hp
    rcases List.mem_cons.mp hp with rfl | hp
    · exact a
    · exact zip_den b p hp
theorem vg_tup {es : List Expr} {k n : Nat} {vs : List Nat} {ws : WGs} (hc : X.calm = true) (h : VGs X es vs ws)
    (hn : (assignEach es X.env).length = n := by rfl) (hst : (assignEach es X.env).findIdx? (·.1) = none := by rfl) : VG X (.Tuple es k pos) vs (gT n ws) := by
  refine ⟨PG.imp (pg_seq hc h.pgs hn hst) ?_, fun r δ Q Q' hq q => ?_⟩
  · rintro v σ H Q ⟨C, δ, M, τ, r, ⟨ad, rel⟩, q⟩
    obtain ⟨d, ds, rfl, e, hl, q⟩ := gT_ok q
    obtain ⟨a, xs, e1, e2, dl⟩ := seqD_den e (rel.tmp _ List.mem_cons_self)
    refine ⟨a, xs, e1, e2, by rw [dl.length, hl], C, δ, M, τ, ds.map .v, by rw [List.length_map]; exact dl.length, ⟨ad, rel.sub fun p hp => ?_⟩, q⟩
    rcases List.mem_append.mp hp with hp | hp
    · exact zip_den dl p hp
    · exact rel.tmp p (List.mem_cons_of_mem _ hp)
  · unfold gT at q ⊢
    split at q
    · exact ⟨q.1, h.mono _ _ _ _ hq q.2⟩
    · exact ⟨q.1, h.mono _ _ _ _ hq q.2⟩
    · exact q

/-! ### statements -/
theorem EndsV.Le.refl {E : EndsV} : EndsV.Le E E := ⟨fun _ _ h => h, fun _ _ h => h, fun _ _ h => h, fun _ _ h => h, fun h => h⟩
def wNext : WS := fun E δ M => E.nx δ M
def wSeq (t u : WS) : WS := fun E δ M => t { E with nx := u E } δ M
variable {st : Stmt} {rest : List Stmt} {t u : WS}
theorem vs_nil : VSs X EX [] wNext := by
  refine ⟨PSs.imp pss_nil ?_, fun E E' δ M h q => h.nx _ _ q⟩
  rintro D σ H ⟨C, δ, M, τ, rel, q⟩
  exact q σ H rel
theorem vs_cons (h1 : VS X EX st t) (h2 : VSs X EX rest u) : VSs X EX (st :: rest) (wSeq t u) := by
  refine ⟨PSs.imp (pss_cons h1.ps h2.pss) ?_, fun E E' δ M h q => h1.mono { E with nx := u E } { E' with nx := u E' } δ M ⟨fun δ M q => h2.mono E E' δ M h q, h.rt, h.bk, h.ct, h.ex⟩ q⟩
  rintro D σ H ⟨C, δ, M, τ, rel, q⟩
  exact ⟨C, δ, M, τ, rel, h1.mono { toEnds EX C τ D with nx := u (toEnds EX C τ D) } (toEnds EX C τ { D with nx := rdS EX u D }) δ M ⟨fun δ' M' q' σ' H' rel' => ⟨C, δ', M', τ, rel', q'⟩, fun _ _ h => h, fun _ _ h => h, fun _ _ h => h, fun h => h⟩ q⟩
theorem vs_one (h1 : VS X EX st t) : VSs X EX [st] t := ⟨pss_one h1.ps, h1.mono⟩
def wNever : WS := fun _ _ _ => False
theorem v_never : VS X EX st wNever := ⟨PS.imp ps_never (by rintro D σ H ⟨C, δ, M, τ, rel, q⟩; exact q), fun _ _ _ _ _ q => q⟩
def wDrop (we : WE) : WS := fun E δ M => we δ M fun _ M' => E.nx δ M'
theorem v_expr (he : VE X e we) (hs : swapsWith e none pos.line X.env = pure false := by rfl) : VS X EX (.Expr e pos) (wDrop we) := by
  refine ⟨PS.imp (ps_expr he.pe hs) ?_, fun E E' δ M h q => he.mono _ _ _ _ (fun _ _ => h.nx _ _) q⟩
  rintro D σ H ⟨C, δ, M, τ, rel, q⟩
  exact ⟨C, δ, M, τ, rel, he.mono _ _ _ _ (fun r M' q v H' rel' => q σ H' rel'.tail) q⟩
def wRet (we : WE) : WS := fun E δ M => we δ M fun r M' => E.rt r M'
theorem v_ret (he : VE X e we) : VS X EX (.Return (some e) pos) (wRet we) := by
  refine ⟨PS.imp (ps_ret he.pe) ?_, fun E E' δ M h q => he.mono _ _ _ _ (fun _ _ => h.rt _ _) q⟩
  rintro D σ H ⟨C, δ, M, τ, rel, q⟩
  exact ⟨C, δ, M, τ, rel, he.mono _ _ _ _ (fun r M' q v H' rel' => q v δ σ H' rel') q⟩
def wSet (i : Nat) (we : WE) : WS := fun E δ M => we δ M fun r M' => E.nx (δ.set i (some r)) M'
theorem v_set {i : Nat} {x : Str} {pos' : Pos} (hN : X.N.Nodup) (he : VE X e we) (hi : X.N[i]? = some x := by rfl) (hx : Loc X.env.scope x := by first | exact .inl rfl | exact .inr rfl) (hs : swapsWith e (some (.Name x pos')) pos.line X.env = pure false := by rfl)
    (hf : X.fn x = true ∨ X.env.scope.names.lookup x = some .local := by first | exact .inl rfl | exact .inr rfl | assumption) : VS X EX (.Assign [.Name x pos'] e pos) (wSet i we) := by
  refine ⟨PS.imp (ps_set hN hi hx he.pe hs hf) ?_, fun E E' δ M h q => he.mono _ _ _ _ (fun _ _ => h.nx _ _) q⟩
  rintro D σ H ⟨C, δ, M, τ, rel, q⟩
  exact ⟨C, δ, M, τ, rel, he.mono _ _ _ _ (fun r M' q v H' rel' => q _ H' (rel'.store i)) q⟩
def wIfS (t : WT) (u v : WS) : WS := fun E δ M => t δ M fun b M' => if b = true then u E δ M' else v E δ M'
theorem v_ifS {wc : WT} {A B : List Stmt} {v : WS} (hc : VT X c wc) (h1 : VSs X EX A u) (h2 : VSs X EX B v) : VS X EX (.If c A B pos) (wIfS wc u v) := by
  refine ⟨PS.imp (ps_if hc.pt h1.pss h2.pss) ?_, fun E E' δ M h q => hc.mono _ _ _ _ (fun b M' => ite_mono (h1.mono _ _ _ _ h) (h2.mono _ _ _ _ h)) q⟩
  rintro D σ H ⟨C, δ, M, τ, rel, q⟩
  exact ⟨C, δ, M, τ, rel, hc.mono _ _ _ _ (fun b M' q H' rel' => ite_mono (fun q => ⟨C, δ, M', τ, rel', q⟩) (fun q => ⟨C, δ, M', τ, rel', q⟩) q) q⟩
/-- several names at once -/
@[reducible] def as2 (rs : List Rs) (k : Rs → Rs → Prop) : Prop := match rs with | [a, b] => k a b | _ => False
@[reducible] def as3 (rs : List Rs) (k : Rs → Rs → Rs → Prop) : Prop := match rs with | [a, b, c] => k a b c | _ => False
theorem as2_ok {rs : List Rs} {k : Rs → Rs → Prop} (q : as2 rs k) : ∃ a b, rs = [a, b] ∧ k a b := by
  unfold as2 at q
  split at q
  · exact ⟨_, _, rfl, q⟩
  · exact q.elim
theorem as3_ok {rs : List Rs} {k : Rs → Rs → Rs → Prop} (q : as3 rs k) : ∃ a b c, rs = [a, b, c] ∧ k a b c := by
  unfold as3 at q
  split at q
  · exact ⟨_, _, _, rfl, q⟩
  · exact q.elim
theorem as2_mono {rs : List Rs} {k k' : Rs → Rs → Prop} (h : ∀ a b, k a b → k' a b) (q : as2 rs k) : as2 rs k' := by
  obtain ⟨a, b, rfl, q⟩ := as2_ok q
  exact h a b q
theorem as3_mono {rs : List Rs} {k k' : Rs → Rs → Rs → Prop} (h : ∀ a b c, k a b c → k' a b c) (q : as3 rs k) : as3 rs k' := by
  obtain ⟨a, b, c, rfl, q⟩ := as3_ok q
  exact h a b c q
def wPar2 (i j : Nat) (ws : WA) : WS := fun E δ M => ws δ M fun rs M' => as2 rs fun a b => E.nx ((δ.set i (some a)).set j (some b)) M'
def wPar3 (i j l : Nat) (ws : WA) : WS := fun E δ M => ws δ M fun rs M' => as3 rs fun a b c => E.nx (((δ.set i (some a)).set j (some b)).set l (some c)) M'
theorem len2 {vs : List V} {a b : Rs} (h : vs.length = [a, b].length) : ∃ v w, vs = [v, w] := by
  match vs, h with
  | [v, w], _ => exact ⟨v, w, rfl⟩
theorem len3 {vs : List V} {a b c : Rs} (h : vs.length = [a, b, c].length) : ∃ v w x, vs = [v, w, x] := by
  match vs, h with
  | [v, w, x], _ => exact ⟨v, w, x, rfl⟩
theorem v_par2 {i j : Nat} {x y : Str} {wab : WA} {px py pt : Pos} {kt k2 pt2} (hc : X.calm = true) (hN : X.N.Nodup) (ha : VA X [a, b] wab) (hij : i ≠ j := by decide) (hi : X.N[i]? = some x := by rfl) (hj : X.N[j]? = some y := by rfl)
    (hx : X.env.scope.names.lookup x = some .local := by rfl) (hy : X.env.scope.names.lookup y = some .local := by rfl)
    (hw : swappedStores [.Tuple [.Name x px, .Name y py] kt pt] (.Tuple [a, b] k2 pt2) X.env = pure (some [x, y]) := by rfl)
    (hs : swapsWithSole [.Tuple [.Name x px, .Name y py] kt pt] (.Tuple [a, b] k2 pt2) pos.line X.env = pure false := by rfl) :
    VS X EX (.Assign [.Tuple [.Name x px, .Name y py] kt pt] (.Tuple [a, b] k2 pt2) pos) (wPar2 i j wab) := by
  refine ⟨PS.imp (ps_par hc hN hi hj hij hx hy ha.pa hw hs) ?_, fun E E' δ M h q => ha.mono _ _ _ _ (fun _ _ => as2_mono fun _ _ => h.nx _ _) q⟩
  rintro D σ H ⟨C, δ, M, τ, rel, q⟩
  refine ⟨C, δ, M, τ, rel, ha.mono _ _ _ _ (fun rs M' q vs H' hl rel' => ?_) q⟩
  obtain ⟨r1, r2, rfl, q⟩ := as2_ok q
  obtain ⟨v, w, rfl⟩ := len2 hl
  refine ⟨v, w, rfl, q _ H' (Rel.store (v := w) (x := r2) ?_ j)⟩
  refine (Rel.store (v := v) (x := r1) rel' i).sub fun p hp => hp
theorem v_par3 {i j l : Nat} {x y z : Str} {wab : WA} {px py pz pt : Pos} {kt k2 pt2} (hc : X.calm = true) (hN : X.N.Nodup) (ha : VA X [a, b, c] wab) (hij : i ≠ j := by decide) (hil : i ≠ l := by decide) (hjl : j ≠ l := by decide) (hi : X.N[i]? = some x := by rfl) (hj : X.N[j]? = some y := by rfl) (hl : X.N[l]? = some z := by rfl)
    (hx : X.env.scope.names.lookup x = some .local := by rfl) (hy : X.env.scope.names.lookup y = some .local := by rfl) (hz : X.env.scope.names.lookup z = some .local := by rfl)
    (hw : swappedStores [.Tuple [.Name x px, .Name y py, .Name z pz] kt pt] (.Tuple [a, b, c] k2 pt2) X.env = pure (some [x, y, z]) := by rfl)
    (hs : swapsWithSole [.Tuple [.Name x px, .Name y py, .Name z pz] kt pt] (.Tuple [a, b, c] k2 pt2) pos.line X.env = pure false := by rfl) :
    VS X EX (.Assign [.Tuple [.Name x px, .Name y py, .Name z pz] kt pt] (.Tuple [a, b, c] k2 pt2) pos) (wPar3 i j l wab) := by
  refine ⟨PS.imp (ps_par3 hc hN hi hj hl hij hil hjl hx hy hz ha.pa hw hs) ?_, fun E E' δ M h q => ha.mono _ _ _ _ (fun _ _ => as3_mono fun _ _ _ => h.nx _ _) q⟩
  rintro D σ H ⟨C, δ, M, τ, rel, q⟩
  refine ⟨C, δ, M, τ, rel, ha.mono _ _ _ _ (fun rs M' q vs H' hl rel' => ?_) q⟩
  obtain ⟨r1, r2, r3, rfl, q⟩ := as3_ok q
  obtain ⟨v, w, x', rfl⟩ := len3 hl
  refine ⟨v, w, x', rfl, q _ H' (Rel.store (v := x') (x := r3) ?_ l)⟩
  refine Rel.store (v := w) (x := r2) ?_ j
  exact Rel.store (v := v) (x := r1) rel' i
/-- the same by a tuple (where a name is a cell) -/
theorem v_parT2 {i j : Nat} {x y : Str} {wab : WA} {px py pt : Pos} {kt k2 pt2} (hc : X.calm = true) (hN : X.N.Nodup) (ha : VA X [a, b] wab) (hi : X.N[i]? = some x := by rfl) (hj : X.N[j]? = some y := by rfl)
    (hx : Loc X.env.scope x := by first | exact .inl rfl | exact .inr rfl) (hy : Loc X.env.scope y := by first | exact .inl rfl | exact .inr rfl) (fx : X.fn x = true ∨ X.env.scope.names.lookup x = some .local := by first | exact .inl rfl | exact .inr rfl) (fy : X.fn y = true ∨ X.env.scope.names.lookup y = some .local := by first | exact .inl rfl | exact .inr rfl)
    (hn : (assignEach [.Name x px, .Name y py] X.env).length = 2 := by rfl) (hst : (assignEach [.Name x px, .Name y py] X.env).findIdx? (·.1) = none := by rfl)
    (h1 : (assignEach [.Name x px, .Name y py] X.env).map (·.2) = assign (.Name x px) X.env :: (assignEach [.Name y py] X.env).map (·.2) := by rfl)
    (h2 : (assignEach [.Name y py] X.env).map (·.2) = assign (.Name y py) X.env :: (assignEach [] X.env).map (·.2) := by rfl)
    (hs : swapsWithSole [.Tuple [.Name x px, .Name y py] kt pt] (.Tuple [a, b] k2 pt2) pos.line X.env = pure false := by rfl) (hw : swappedStores [.Tuple [.Name x px, .Name y py] kt pt] (.Tuple [a, b] k2 pt2) X.env = pure none := by rfl)
    (h3 : (assignEach [.Tuple [.Name x px, .Name y py] kt pt] X.env).map (·.2) = [assign (.Tuple [.Name x px, .Name y py] kt pt) X.env] := by rfl) :
    VS X EX (.Assign [.Tuple [.Name x px, .Name y py] kt pt] (.Tuple [a, b] k2 pt2) pos) (wPar2 i j wab) := by
  refine ⟨PS.imp (ps_asg (pe_tup ha.pa) (pg_tup hc (pgs_cons (pg_name hN hi hx fx) (pgs_cons (pg_name hN hj hy fy) pgs_nil h2) h1) hn hst) hs hw h3) ?_, fun E E' δ M h q => ha.mono _ _ _ _ (fun _ _ => as2_mono fun _ _ => h.nx _ _) q⟩
  rintro D σ H ⟨C, δ, M, τ, rel, q⟩
  refine ⟨C, δ, M, τ, rel, ha.mono _ _ _ _ (fun rs M' q vs H' hl rel' => ?_) q⟩
  obtain ⟨r1, r2, rfl, q⟩ := as2_ok q
  obtain ⟨v, w, rfl⟩ := len2 hl
  refine ⟨by show 2 ≤ sizeLine; decide, fun p hp => ⟨p, [v, w], rfl, SqT.of upd_same, rfl, v, [w], rfl, w, [], rfl, rfl, ?_⟩⟩
  have s : Same H' (upd H' p (.tup [v, w])) := fun b x e => by rw [upd_ne (ne_of_none e hp)]; exact e
  refine q _ _ (Rel.store (v := w) (x := r2) ?_ j)
  exact Rel.store (v := v) (x := r1) (rel'.same s) i
theorem v_parT3 {i j l : Nat} {x y z : Str} {wab : WA} {px py pz pt : Pos} {kt k2 pt2} (hc : X.calm = true) (hN : X.N.Nodup) (ha : VA X [a, b, c] wab) (hi : X.N[i]? = some x := by rfl) (hj : X.N[j]? = some y := by rfl) (hl : X.N[l]? = some z := by rfl)
    (hx : Loc X.env.scope x := by first | exact .inl rfl | exact .inr rfl) (hy : Loc X.env.scope y := by first | exact .inl rfl | exact .inr rfl) (hz : Loc X.env.scope z := by first | exact .inl rfl | exact .inr rfl) (fx : X.fn x = true ∨ X.env.scope.names.lookup x = some .local := by first | exact .inl rfl | exact .inr rfl) (fy : X.fn y = true ∨ X.env.scope.names.lookup y = some .local := by first | exact .inl rfl | exact .inr rfl) (fz : X.fn z = true ∨ X.env.scope.names.lookup z = some .local := by first | exact .inl rfl | exact .inr rfl)
    (hn : (assignEach [.Name x px, .Name y py, .Name z pz] X.env).length = 3 := by rfl) (hst : (assignEach [.Name x px, .Name y py, .Name z pz] X.env).findIdx? (·.1) = none := by rfl)
    (h0 : (assignEach [.Name x px, .Name y py, .Name z pz] X.env).map (·.2) = assign (.Name x px) X.env :: (assignEach [.Name y py, .Name z pz] X.env).map (·.2) := by rfl)
    (h1 : (assignEach [.Name y py, .Name z pz] X.env).map (·.2) = assign (.Name y py) X.env :: (assignEach [.Name z pz] X.env).map (·.2) := by rfl)
    (h2 : (assignEach [.Name z pz] X.env).map (·.2) = assign (.Name z pz) X.env :: (assignEach [] X.env).map (·.2) := by rfl)
    (hs : swapsWithSole [.Tuple [.Name x px, .Name y py, .Name z pz] kt pt] (.Tuple [a, b, c] k2 pt2) pos.line X.env = pure false := by rfl) (hw : swappedStores [.Tuple [.Name x px, .Name y py, .Name z pz] kt pt] (.Tuple [a, b, c] k2 pt2) X.env = pure none := by rfl)
    (h3 : (assignEach [.Tuple [.Name x px, .Name y py, .Name z pz] kt pt] X.env).map (·.2) = [assign (.Tuple [.Name x px, .Name y py, .Name z pz] kt pt) X.env] := by rfl) :
    VS X EX (.Assign [.Tuple [.Name x px, .Name y py, .Name z pz] kt pt] (.Tuple [a, b, c] k2 pt2) pos) (wPar3 i j l wab) := by
  refine ⟨PS.imp (ps_asg (pe_tup ha.pa) (pg_tup hc (pgs_cons (pg_name hN hi hx fx) (pgs_cons (pg_name hN hj hy fy) (pgs_cons (pg_name hN hl hz fz) pgs_nil h2) h1) h0) hn hst) hs hw h3) ?_, fun E E' δ M h q => ha.mono _ _ _ _ (fun _ _ => as3_mono fun _ _ _ => h.nx _ _) q⟩
  rintro D σ H ⟨C, δ, M, τ, rel, q⟩
  refine ⟨C, δ, M, τ, rel, ha.mono _ _ _ _ (fun rs M' q vs H' hl rel' => ?_) q⟩
  obtain ⟨r1, r2, r3, rfl, q⟩ := as3_ok q
  obtain ⟨v, w, x', rfl⟩ := len3 hl
  refine ⟨by show 3 ≤ sizeLine; decide, fun p hp => ⟨p, [v, w, x'], rfl, SqT.of upd_same, rfl, v, [w, x'], rfl, w, [x'], rfl, x', [], rfl, rfl, ?_⟩⟩
  have s : Same H' (upd H' p (.tup [v, w, x'])) := fun b x e => by rw [upd_ne (ne_of_none e hp)]; exact e
  refine q _ _ (Rel.store (v := x') (x := r3) ?_ l)
  refine Rel.store (v := w) (x := r2) ?_ j
  exact Rel.store (v := v) (x := r1) (rel'.same s) i

/-! ### loops -/
def wFor (wi : WI) (wg : WG) (wb : WS) : WS := fun E δ M => wi δ M fun items M1 => ∃ P : Nat → Sl → Me → Prop, P 0 δ M1 ∧
  (∀ i d δ M, items[i]? = some d → P i δ M → wg (.v d) δ fun δ' => wb ⟨P (i + 1), E.rt, E.nx, P (i + 1), E.ex⟩ δ' M) ∧ ∀ δ M, P items.length δ M → E.nx δ M
theorem v_for {tg iter : Expr} {body : List Stmt} {vs : List Nat} {wi : WI} {wg : WG} {wb : WS} (hc : X.calm = true) (hi : VI X tg iter wi) (hg : VG X tg vs wg) (hb : VSs X EX body wb) (hp : PassesOwn (model X.prog X.w) X.A X.env X.xe) (hfs : ∀ x, foldedSetIterable iter X.env x = pure x := by intro _; rfl) : VS X EX (.For tg iter body [] pos) (wFor wi wg wb) := by
  refine ⟨PS.imp (ps_for hp hc hi.pi hg.pg hb.pss hfs) ?_, fun E E' δ M h q => hi.mono _ _ _ _ (fun items M1 ⟨P, h0, hs, hd⟩ => ⟨P, h0, fun i d δ M e p => hg.mono _ _ _ _ (fun δ' => hb.mono ⟨P (i + 1), E.rt, E.nx, P (i + 1), E.ex⟩ ⟨P (i + 1), E'.rt, E'.nx, P (i + 1), E'.ex⟩ _ _ ⟨fun _ _ h => h, h.rt, h.nx, fun _ _ h => h, h.ex⟩) (hs i d δ M e p), fun δ M p => h.nx _ _ (hd δ M p)⟩) q⟩
  rintro D σ H ⟨C, δ, M, τ, rel, q⟩
  refine ⟨C, δ, M, τ, rel, hi.mono _ _ _ _ (fun items M1 q J H1 srcs rel1 wk => ?_) q⟩
  obtain ⟨P, h0, hs, hd⟩ := q
  refine ⟨fun i m σ H => m = items.length - i ∧ i ≤ items.length ∧ ∃ δ M, Rel C δ M (srcs ++ τ) σ H ∧ P i δ M, ⟨items.length, by simp, Nat.zero_le _, δ, M1, rel1, h0⟩, ?_⟩
  rintro i m σ2 H2 ⟨rfl, hle, δ2, M2, ⟨ad, rel2⟩, p⟩
  have dn : ∀ p ∈ srcs, DenR ad M2.length C.hid H2 p.1 p.2 := fun p hp => rel2.tmp p (List.mem_append_left _ hp)
  by_cases hlt : i < items.length
  · refine .inr ⟨wk.goes ad _ C.hid i H2 hlt dn, fun σ' H' => ∃ δ' M', Rel C δ' M' (srcs ++ τ) σ' H' ∧ P (i + 1) δ' M', fun σ' H' ⟨δ', M', r', p'⟩ => ⟨items.length - (i + 1), by omega, rfl, hlt, δ', M', r', p'⟩, fun x H' y => ?_⟩
    obtain ⟨d, e, sm, dx⟩ := wk.yields ad _ C.hid i H2 x H' dn rel2.trkA hlt y
    have rel3 : Rel C δ2 M2 ((x, .v d) :: (srcs ++ τ)) σ2 H' := ⟨ad, (rel2.same sm).sub fun p hp => (List.mem_cons.mp hp).elim (fun e => by rw [e]; exact dx) ((rel2.same sm).tmp p)⟩
    refine ⟨C, δ2, M2, _, _, rel3, hg.mono _ _ _ _ (fun δ' q' σ' ag rel' => ?_) (hs i d δ2 M2 e p)⟩
    refine ⟨C, δ', M2, srcs ++ τ, rel', hb.mono ⟨P (i + 1), (toEnds EX C τ D).rt, (toEnds EX C τ D).nx, P (i + 1), (toEnds EX C τ D).ex⟩ _ _ _ ⟨fun δ3 M3 p3 σ3 H3 r3 => ⟨δ3, M3, r3, p3⟩, fun r M3 q3 v δ3 σ3 H3 r3 => q3 v δ3 σ3 H3 r3.drop1, fun δ3 M3 q3 σ3 H3 r3 => q3 σ3 H3 r3.drop, fun δ3 M3 p3 σ3 H3 r3 => ⟨δ3, M3, r3, p3⟩, fun q3 => q3⟩ q'⟩
  · have e : i = items.length := by omega
    subst e
    exact .inl ⟨wk.stops ad _ C.hid H2 dn, hd δ2 M2 p σ2 H2 (Rel.drop ⟨ad, rel2⟩)⟩
def wWhile (wc : WT) (wb : WS) : WS := fun E δ M => ∃ (P : Sl → Me → Prop) (μ : Sl → Me → Nat), P δ M ∧ ∀ δ M, P δ M → wc δ M fun b M1 => if b = true then wb ⟨fun δ' M' => P δ' M' ∧ μ δ' M' < μ δ M, E.rt, E.nx, fun δ' M' => P δ' M' ∧ μ δ' M' < μ δ M, E.ex⟩ δ M1 else E.nx δ M1
theorem v_while {body : List Stmt} {wc : WT} {wb : WS} (hc : VT X c wc) (hb : VSs X EX body wb) (hp : PassesOwn (model X.prog X.w) X.A X.env X.xe) : VS X EX (.While c body [] pos) (wWhile wc wb) := by
  refine ⟨PS.imp (ps_while hp hc.pt hb.pss) ?_, fun E E' δ M h ⟨P, μ, h0, hs⟩ => ⟨P, μ, h0, fun δ M p => hc.mono _ _ _ _ (fun b M1 => ite_mono (hb.mono ⟨fun δ' M' => P δ' M' ∧ μ δ' M' < μ δ M, E.rt, E.nx, fun δ' M' => P δ' M' ∧ μ δ' M' < μ δ M, E.ex⟩ ⟨fun δ' M' => P δ' M' ∧ μ δ' M' < μ δ M, E'.rt, E'.nx, fun δ' M' => P δ' M' ∧ μ δ' M' < μ δ M, E'.ex⟩ _ _ ⟨fun _ _ h => h, h.rt, h.nx, fun _ _ h => h, h.ex⟩) (h.nx _ _)) (hs δ M p)⟩⟩
  rintro D σ H ⟨C, δ, M, τ, rel, P, μ, h0, hs⟩
  refine ⟨fun m σ H => ∃ δ M, m = μ δ M ∧ Rel C δ M τ σ H ∧ P δ M, ⟨_, δ, M, rfl, rel, h0⟩, ?_⟩
  rintro m σ2 H2 ⟨δ2, M2, rfl, rel2, p⟩
  refine ⟨C, δ2, M2, τ, rel2, hc.mono _ _ _ _ (fun b M3 q3 H3 rel3 => ?_) (hs δ2 M2 p)⟩
  refine ite_mono (fun q4 => ?_) (fun q4 => q4 σ2 H3 rel3) q3
  refine ⟨fun σ' H' => ∃ δ' M', Rel C δ' M' τ σ' H' ∧ P δ' M' ∧ μ δ' M' < μ δ2 M2, fun σ' H' ⟨δ', M', r', p', l'⟩ => ⟨_, l', δ', M', rfl, r', p'⟩, ?_⟩
  exact ⟨C, δ2, M3, τ, rel3, hb.mono ⟨fun δ' M' => P δ' M' ∧ μ δ' M' < μ δ2 M2, (toEnds EX C τ D).rt, (toEnds EX C τ D).nx, fun δ' M' => P δ' M' ∧ μ δ' M' < μ δ2 M2, (toEnds EX C τ D).ex⟩ _ _ _ ⟨fun δ5 M5 p5 σ5 H5 r5 => ⟨δ5, M5, r5, p5⟩, fun r M5 q5 => q5, fun δ5 M5 q5 => q5, fun δ5 M5 p5 σ5 H5 r5 => ⟨δ5, M5, r5, p5⟩, fun q5 => q5⟩ q4⟩

/-! ### walked things: a list or a tuple -/
def iSeq (te : TE) : TI := fun σ H R => te σ H fun x H1 => ∃ a xs, x = .ref a ∧ ((Rd H1 a (.tup xs) ∧ ∀ K, R (Itt K a) H1) ∨ (H1 a = some (.lst xs) ∧ ∀ K, R (Itl K a) H1))
theorem pi_seq {tg l : Expr} {tl : TE} (hl : PE X l tl) : PI X tg l (iSeq tl) := by
  refine ⟨fun pins s σ H R I h => ?_⟩
  refine thn (hl.run pins s σ H _ I h) fun v s1 ⟨x, H1, I1, r, q⟩ => ?_
  obtain ⟨a, xs, rfl, q⟩ := q
  cases r
  rcases q with ⟨hq, q⟩ | ⟨hq, q⟩
  · obtain ⟨its, rv, ht, hz⟩ := I1.tuple (.inl hq)
    refine wpAny_pyIter_tuple (show s1.heap.IsTuple a its.toArray from ht) ?_
    exact pi_one (tk := s1.toks) I1 _ (turn_tuple a _) ⟨_, Heap.get?_push_size _ rfl, rfl, rfl⟩ (q X.K)
  · obtain ⟨its, rv, ht, hz⟩ := I1.list (SqL.of hq)
    refine wpAny_pyIter_list ht.isList ?_
    exact pi_one (tk := s1.toks) I1 _ (turn_list a _) ⟨_, Heap.get?_push_size _ rfl, rfl, rfl⟩ (q X.K)
@[reducible] def asSeq (r : Rs) (k : List Dt → Prop) : Prop := match r with | .v (.tup ds) => k ds | .v (.lst ds) => k ds | _ => False
theorem asSeq_ok {r : Rs} {k : List Dt → Prop} (q : asSeq r k) : ∃ d ds, r = .v d ∧ seqD d = some ds ∧ k ds := by
  unfold asSeq at q
  split at q
  · exact ⟨_, _, rfl, rfl, q⟩
  · exact ⟨_, _, rfl, rfl, q⟩
  · exact q.elim
theorem asSeq_mono {r : Rs} {k k' : List Dt → Prop} (h : ∀ ds, k ds → k' ds) (q : asSeq r k) : asSeq r k' := by
  unfold asSeq at q ⊢
  split at q
  · exact h _ q
  · exact h _ q
  · exact q
theorem walkD_tup {K : PySem.W.Frag} {a : Addr} {ds : List Dt} : WalkD (Itt K a) ds [(.ref a, .v (.tup ds))] := by
  have key : ∀ ad m hid H, (∀ p ∈ [(V.ref a, Rs.v (.tup ds))], DenR ad m hid H p.1 p.2) → ∃ xs, Rd H a (.tup xs) ∧ DenL (avo ad m hid) H xs ds := fun ad m hid H h => by
    have h' : Den (avo ad m hid) H (.ref a) (.tup ds) := h _ List.mem_cons_self
    cases h' with
    | tup e l => exact ⟨_, .inl e, l⟩
    | tpf n p e l => exact ⟨_, .inr ⟨_, e⟩, l⟩
  refine ⟨fun ad m hid i H hi h => ?_, fun ad m hid H h => ?_, fun ad m hid i H x H' h ht hi y => ?_⟩
  · obtain ⟨xs, e, l⟩ := key ad m hid H h
    have hl := l.length
    exact ⟨xs, xs[i]'(by omega), .inl e, by simp [show i < xs.length by omega]⟩
  · obtain ⟨xs, e, l⟩ := key ad m hid H h
    exact ⟨xs, .inl e, Nat.le_of_eq l.length⟩
  · obtain ⟨xs, e, l⟩ := key ad m hid H h
    obtain ⟨rfl, y⟩ := y
    obtain ⟨d, h1, h2⟩ := l.get (y xs (.inl e))
    exact ⟨d, h1, Same.refl _, h2⟩
theorem walkD_lst {K : PySem.W.Frag} {a : Addr} {ds : List Dt} : WalkD (Itl K a) ds [(.ref a, .v (.lst ds))] := by
  have key : ∀ ad m hid H, (∀ p ∈ [(V.ref a, Rs.v (.lst ds))], DenR ad m hid H p.1 p.2) → ∃ xs, H a = some (.lst xs) ∧ DenL (avo ad m hid) H xs ds := fun ad m hid H h => by
    have h' : Den (avo ad m hid) H (.ref a) (.lst ds) := h _ List.mem_cons_self
    cases h' with
    | lst n e l => exact ⟨_, e, l⟩
  refine ⟨fun ad m hid i H hi h => ?_, fun ad m hid H h => ?_, fun ad m hid i H x H' h ht hi y => ?_⟩
  · obtain ⟨xs, e, l⟩ := key ad m hid H h
    have hl := l.length
    exact ⟨xs, xs[i]'(by omega), SqL.of e, by simp [show i < xs.length by omega]⟩
  · obtain ⟨xs, e, l⟩ := key ad m hid H h
    exact ⟨xs, SqL.of e, Nat.le_of_eq l.length⟩
  · obtain ⟨xs, e, l⟩ := key ad m hid H h
    obtain ⟨rfl, y⟩ := y
    obtain ⟨d, h1, h2⟩ := l.get (y xs (SqL.of e))
    exact ⟨d, h1, Same.refl _, h2⟩
def wSeqI (we : WE) : WI := fun δ M Q => we δ M fun r M1 => asSeq r fun ds => Q ds M1
theorem vi_seq {tg l : Expr} (hl : VE X l we) : VI X tg l (wSeqI we) := by
  refine ⟨PI.imp (pi_seq hl.pe) ?_, fun δ M Q Q' h q => hl.mono _ _ _ _ (fun r M1 => asSeq_mono fun ds => h _ _) q⟩
  rintro σ H R ⟨C, δ, M, τ, rel, q⟩
  refine ⟨C, δ, M, τ, rel, hl.mono _ _ _ _ (fun r M1 q v H1 rel1 => ?_) q⟩
  obtain ⟨d, ds, rfl, e, q⟩ := asSeq_ok q
  obtain ⟨ad, r1⟩ := id rel1
  have h' : Den (avo ad M1.length C.hid) H1 v d := r1.tmp _ List.mem_cons_self
  cases h' with
  | tup h1 h2 => cases e; exact ⟨_, _, rfl, .inl ⟨.inl h1, fun K => q _ H1 [(_, _)] rel1 walkD_tup⟩⟩
  | tpf n p h1 h2 => cases e; exact ⟨_, _, rfl, .inl ⟨.inr ⟨_, h1⟩, fun K => q _ H1 [(_, _)] rel1 walkD_tup⟩⟩
  | lst n h1 h2 => cases e; exact ⟨_, _, rfl, .inr ⟨h1, fun K => q _ H1 [(_, _)] rel1 walkD_lst⟩⟩
  | _ => cases e
/-- range(b), range(a, b) -/
@[reducible] def as1 (rs : List Rs) (k : Rs → Prop) : Prop := match rs with | [a] => k a | _ => False
theorem as1_ok {rs : List Rs} {k : Rs → Prop} (q : as1 rs k) : ∃ a, rs = [a] ∧ k a := by
  unfold as1 at q
  split at q
  · exact ⟨_, rfl, q⟩
  · exact q.elim
theorem as1_mono {rs : List Rs} {k k' : Rs → Prop} (h : ∀ a, k a → k' a) (q : as1 rs k) : as1 rs k' := by
  obtain ⟨a, rfl, q⟩ := as1_ok q
  exact h a q
@[reducible] def asInt (r : Rs) (k : Int → Prop) : Prop := match r with | .v (.int b) => k b | _ => False
theorem asInt_mono {r : Rs} {k k' : Int → Prop} (h : ∀ b, k b → k' b) (q : asInt r k) : asInt r k' := by
  unfold asInt at q ⊢
  split at q
  · exact h _ q
  · exact q
theorem asInt_ok {r : Rs} {k : Int → Prop} (q : asInt r k) : ∃ b, r = .v (.int b) ∧ k b := by
  unfold asInt at q
  split at q
  · exact ⟨_, rfl, q⟩
  · exact q.elim
def rgD (lo : Int) (n : Nat) : List Dt := (List.range n).map fun i => .int (lo + (i : Nat))
theorem rgD_length {lo : Int} {n : Nat} : (rgD lo n).length = n := by unfold rgD; rw [List.length_map, List.length_range]
theorem walkD_rng {lo : Int} {n : Nat} : WalkD (Itr lo n) (rgD lo n) [] := by
  refine ⟨fun ad m hid i H hi h => ?_, fun ad m hid H h => ?_, fun ad m hid i H x H' h ht hi y => ?_⟩
  · rw [rgD_length] at hi
    exact hi
  · exact Nat.le_of_eq rgD_length.symm
  · obtain ⟨rfl, rfl⟩ := y
    rw [rgD_length] at hi
    refine ⟨.int (lo + (i : Nat)), ?_, Same.refl _, .int _⟩
    unfold rgD
    rw [List.getElem?_map, List.getElem?_range hi]
    rfl
def wRng1 (ws : WA) : WI := fun δ M Q => ws δ M fun rs M1 => as1 rs fun r => asInt r fun j => (-(2 ^ 62) ≤ j ∧ j < 2 ^ 62) ∧ Q (rgD 0 j.toNat) M1
theorem vi_range1 {tg : Expr} {ws : WA} {p : Pos} (hg : Gl X "range") (hm : X.mg "range" = none) (ha : VA X [a] ws) (pc : ∀ {ta : TA}, PA X [a] ta → PI X tg (.Call (.Name "range" p) [a] [] pos) (iRng1 ta)) : VI X tg (.Call (.Name "range" p) [a] [] pos) (wRng1 ws) := by
  refine ⟨PI.imp (pc ha.pa) ?_, fun δ M Q Q' h q => ha.mono _ _ _ _ (fun r M1 => as1_mono fun r => asInt_mono fun j q => ⟨q.1, h _ _ q.2⟩) q⟩
  rintro σ H R ⟨C, δ, M, τ, rel, q⟩
  refine ⟨C, δ, M, τ, rel, ha.mono _ _ _ _ (fun rs M1 q vs H1 hl rel1 => ?_) q⟩
  obtain ⟨r, rfl, q⟩ := as1_ok q
  obtain ⟨j, rfl, q1, q2⟩ := asInt_ok q
  match vs, hl with
  | [v], _ =>
    have e := rel_int (v := v) rel1 List.mem_cons_self
    subst e
    exact ⟨j, rfl, q1.1, q1.2, q2 _ H1 [] rel1.tail walkD_rng⟩
def wRng2 (ws : WA) : WI := fun δ M Q => ws δ M fun rs M1 => as2 rs fun r r' => asInt r fun i => asInt r' fun j => (-(2 ^ 62) ≤ i ∧ i < 2 ^ 62 ∧ -(2 ^ 62) ≤ j ∧ j < 2 ^ 62) ∧ Q (rgD i (j - i).toNat) M1
theorem vi_range2 {tg : Expr} {ws : WA} {p : Pos} (hg : Gl X "range") (hm : X.mg "range" = none) (ha : VA X [a, b] ws) (pc : ∀ {ta : TA}, PA X [a, b] ta → PI X tg (.Call (.Name "range" p) [a, b] [] pos) (iRng2 ta)) : VI X tg (.Call (.Name "range" p) [a, b] [] pos) (wRng2 ws) := by
  refine ⟨PI.imp (pc ha.pa) ?_, fun δ M Q Q' h q => ha.mono _ _ _ _ (fun r M1 => as2_mono fun r r' => asInt_mono fun i => asInt_mono fun j q => ⟨q.1, h _ _ q.2⟩) q⟩
  rintro σ H R ⟨C, δ, M, τ, rel, q⟩
  refine ⟨C, δ, M, τ, rel, ha.mono _ _ _ _ (fun rs M1 q vs H1 hl rel1 => ?_) q⟩
  obtain ⟨r, r', rfl, q⟩ := as2_ok q
  obtain ⟨i, rfl, q⟩ := asInt_ok q
  obtain ⟨j, rfl, q1, q2⟩ := asInt_ok q
  match vs, hl with
  | [v, v'], _ =>
    have e := rel_int (v := v) rel1 List.mem_cons_self
    have e' := rel_int (v := v') rel1 (List.mem_cons_of_mem _ List.mem_cons_self)
    subst e e'
    exact ⟨i, j, rfl, q1, q2 _ H1 [] rel1.tail.tail walkD_rng⟩
end
end VL
set_option Elab.async false
set_option linter.all false
set_option maxRecDepth 100000
set_option maxHeartbeats 2000000
/-! VL4: comprehensions; a def's promise over values and its call. -/
namespace VL
open PySem PySem.Spec PyProof.Rows L2

/-- the slots as pairs -/
def sp (δ : Sl) (σ : St) : List (V × Rs) := (σ.zip δ).filterMap fun p => match p with | (some v, some r) => some (v, r) | _ => none
theorem mem_sp {δ : Sl} {σ : St} {i : Nat} {v : V} {r : Rs} (h1 : σ[i]? = some (some v)) (h2 : δ[i]? = some (some r)) : (v, r) ∈ sp δ σ := by
  refine List.mem_filterMap.mpr ⟨(some v, some r), ?_, rfl⟩
  refine List.mem_of_getElem? (i := i) ?_
  rw [List.getElem?_zip_eq_some]
  exact ⟨h1, h2⟩
theorem sp_mem {δ : Sl} {σ : St} {p : V × Rs} (h : p ∈ sp δ σ) : ∃ i : Nat, σ[i]? = some (some p.1) ∧ δ[i]? = some (some p.2) := by
  obtain ⟨⟨a, b⟩, h1, h2⟩ := List.mem_filterMap.mp h
  obtain ⟨i, hi⟩ := List.mem_iff_getElem?.mp h1
  rw [List.getElem?_zip_eq_some] at hi
  cases a with
  | none => cases h2
  | some v =>
    cases b with
    | none => cases h2
    | some r => cases h2; exact ⟨i, hi⟩
theorem RelA.slot_sp {C : Fr} {ad : Nat → Addr} {δ : Sl} {M : Me} {τ : List (V × Rs)} {σ : St} {H : Hp} (r : RelA C ad δ M τ σ H) : ∀ p ∈ sp δ σ, DenR ad M.length C.hid H p.1 p.2 := fun p hp => by
  obtain ⟨i, h1, h2⟩ := sp_mem hp
  obtain ⟨v, h3, h4⟩ := r.slot i p.2 h2
  rw [h1] at h3
  cases h3
  exact h4
/-- a block within is entered with a context of its own, and left -/
theorem Rel.enter {C : Fr} {δ : Sl} {M : Me} {τ : List (V × Rs)} {σ : St} {H : Hp} (r : Rel C δ M τ σ H) : ∃ C' : Fr, C'.hid = C.hid ∧
    (∀ (δ' : Sl) (σ' : St), σ'.length = δ'.length → (∀ (i : Nat) x, δ'[i]? = some (some x) → δ[i]? = some (some x) ∧ σ'[i]? = σ[i]?) → Rel C' δ' M (sp δ σ ++ τ) σ' H) ∧
    ∀ δ' M' τ' σ' H', Rel C' δ' M' (sp δ σ ++ τ') σ' H' → Rel C δ M' τ' σ H' ∧ ∀ a o, C.hid a → H a = some o → H' a = some o := by
  obtain ⟨ad, r⟩ := r
  refine ⟨⟨H, (List.range M.length).map ad, C.hid⟩, rfl, fun δ' σ' hl hs => ?_, fun δ' M' τ' σ' H' ⟨ad', r'⟩ => ?_⟩
  · refine ⟨ad, hl, fun i x e => ?_, r.mem, r.inj, r.trk, fun b o e _ => e, fun n hn => .inr (List.mem_map.mpr ⟨n, List.mem_range.mpr hn, rfl⟩), fun n a e => ?_, r.disj, fun p hp => ?_⟩
    · obtain ⟨h1, h2⟩ := hs i x e
      obtain ⟨v, h3, h4⟩ := r.slot i x h1
      exact ⟨v, by rw [h2]; exact h3, h4⟩
    · rw [List.getElem?_map] at e
      have hn : n < M.length := by
        have := (List.getElem?_eq_some_iff.mp (show ((List.range M.length).map ad)[n]? = some a by rw [List.getElem?_map]; exact e)).1
        simpa using this
      rw [List.getElem?_range hn] at e
      exact ⟨hn, by simpa using e⟩
    · rcases List.mem_append.mp hp with hp | hp
      · exact r.slot_sp p hp
      · exact r.tmp p hp
  · have nus : ∀ b o, C.H0 b = some o → b ∉ C.us → b ∉ (List.range M.length).map ad := fun b o e nu hm => by
      obtain ⟨n, hn, rfl⟩ := List.mem_map.mp hm
      rcases r.own n (List.mem_range.mp hn) with q | q
      · rw [e] at q; cases q
      · exact nu q
    refine ⟨⟨ad', r.len, fun i x e => ?_, r'.mem, r'.inj, r'.trk, fun b o e nu => r'.frame b o (r.frame b o e nu) (nus b o e nu), fun n hn => ?_, fun n a e => ?_, r'.disj, fun p hp => r'.tmp p (List.mem_append_right _ hp)⟩, fun a o ha e => ?_⟩
    · obtain ⟨v, h1, _⟩ := r.slot i x e
      exact ⟨v, h1, r'.tmp (v, x) (List.mem_append_left _ (mem_sp h1 e))⟩
    · rcases r'.own n hn with q | q
      · have q : H (ad' n) = none := q
        cases z : C.H0 (ad' n) with
        | none => exact .inl rfl
        | some o =>
          by_cases hu : ad' n ∈ C.us
          · exact .inr hu
          · rw [r.frame _ o z hu] at q; cases q
      · obtain ⟨k, hk, e⟩ := List.mem_map.mp q
        rw [← e]
        exact r.own k (List.mem_range.mp hk)
    · obtain ⟨h1, h2⟩ := r.bor n a e
      have e' : ((List.range M.length).map ad)[n]? = some (ad n) := by
        rw [List.getElem?_map, List.getElem?_range h1]
        rfl
      obtain ⟨h3, h4⟩ := r'.bor n (ad n) e'
      exact ⟨h3, by rw [h4]; exact h2⟩
    · refine r'.frame a o e fun hm => ?_
      obtain ⟨n, hn, e2⟩ := List.mem_map.mp hm
      exact r.disj n (List.mem_range.mp hn) (by rw [e2]; exact ha)

/-- a new list that is hidden -/
theorem Rel.hide {C : Fr} {δ : Sl} {M : Me} {τ : List (V × Rs)} {σ : St} {H : Hp} {D : Addr} {o : HO} (r : Rel C δ M τ σ H) (hD : H D = none) :
    Rel { C with hid := fun a => C.hid a ∨ a = D } δ M τ σ (upd H D o) ∧ C.H0 D = none ∧ ¬ C.hid D := by
  obtain ⟨ad, r⟩ := r
  have s : Same H (upd H D o) := fun b x e => by rw [upd_ne (ne_of_none e hD)]; exact e
  have nD : ∀ n, n < M.length → ad n ≠ D := fun n hn z => r.trkA (ad n) (.inl ⟨n, hn, rfl⟩) (by rw [z]; exact hD)
  have ext : Ext (avo ad M.length C.hid) (avo ad M.length fun a => C.hid a ∨ a = D) H (upd H D o) := by
    refine ⟨fun b x e _ => s _ _ e, fun b hb => ?_, fun b xs e => s _ _ e⟩
    rcases hb with hb | hb | hb
    · exact .inr (.inl hb)
    · exact .inr (.inr hb)
    · exact .inl (by rw [hb]; exact hD)
  have dm : ∀ {v : V} {x : Rs}, DenR ad M.length C.hid H v x → DenR ad M.length (fun a => C.hid a ∨ a = D) (upd H D o) v x := fun {v x} h => h.mono (Nat.le_refl _) (fun _ _ => rfl) ext
  have z0 : C.H0 D = none := by
    cases q : C.H0 D with
    | none => rfl
    | some x =>
      by_cases hu : D ∈ C.us
      · obtain ⟨n, hn⟩ := List.mem_iff_getElem?.mp hu
        obtain ⟨h1, h2⟩ := r.bor n D hn
        exact absurd h2 (nD n h1)
      · have := r.frame D x q hu
        rw [hD] at this; cases this
  refine ⟨⟨ad, r.len, fun i x e => let ⟨v, h1, h2⟩ := r.slot i x e; ⟨v, h1, dm h2⟩, fun n c e => ?_, r.inj, fun a ha => ?_, fun b x e n => s _ _ (r.frame b x e n), r.own, r.bor, fun n hn h => ?_, fun p hp => dm (r.tmp p hp)⟩, z0, fun h => r.trk D h hD⟩
  · have hn : n < M.length := (List.getElem?_eq_some_iff.mp e).1
    exact (r.mem n c e).mono ext (upd_ne (nD n hn))
  · rcases ha with ha | ha
    · cases q : H a with
      | none => exact absurd q (r.trk a ha)
      | some x => rw [s _ _ q]; intro z; cases z
    · rw [ha, upd_same]; intro z; cases z
  · rcases h with h | h
    · exact r.disj n hn h
    · exact nD n hn h
/-- the hidden list is written -/
theorem Rel.writeHid {C : Fr} {δ : Sl} {M : Me} {τ : List (V × Rs)} {σ : St} {H : Hp} {D : Addr} {xs ys : List V} (r : Rel C δ M τ σ H) (hD : C.hid D) (e : H D = some (.lst xs)) (z : C.H0 D = none) : Rel C δ M τ σ (upd H D (.lst ys)) := by
  obtain ⟨ad, r⟩ := r
  have ext : Ext (avo ad M.length C.hid) (avo ad M.length C.hid) H (upd H D (.lst ys)) :=
    ⟨fun b x q hb => by rw [upd_ne (fun h => hb (.inr (by rw [h]; exact hD)))]; exact q, fun _ h => .inr h, fun b zs q => by rw [upd_ne (fun h => by rw [h, e] at q; cases q)]; exact q⟩
  have dm : ∀ {v : V} {x : Rs}, DenR ad M.length C.hid H v x → DenR ad M.length C.hid (upd H D (.lst ys)) v x := fun {v x} h => h.mono (Nat.le_refl _) (fun _ _ => rfl) ext
  refine ⟨ad, r.len, fun i x e => let ⟨v, h1, h2⟩ := r.slot i x e; ⟨v, h1, dm h2⟩, fun n c q => ?_, r.inj, fun a ha => ?_, fun b x q n => ?_, r.own, r.bor, r.disj, fun p hp => dm (r.tmp p hp)⟩
  · have hn : n < M.length := (List.getElem?_eq_some_iff.mp q).1
    exact (r.mem n c q).mono ext (upd_ne fun h => r.disj n hn (by rw [h]; exact hD))
  · by_cases h : a = D
    · rw [h, upd_same]; intro z; cases z
    · rw [upd_ne h]; exact r.trk a ha
  · rw [upd_ne (fun h => by rw [h, z] at q; cases q)]
    exact r.frame b x q n
/-- the hidden list is given out as data -/
theorem Rel.unhide {C : Fr} {δ : Sl} {M : Me} {τ : List (V × Rs)} {σ : St} {H : Hp} {D : Addr} {xs : List V} {ds : List Dt} (hn : ¬ C.hid D) (r : Rel { C with hid := fun a => C.hid a ∨ a = D } δ M (xs.zip (ds.map .v) ++ τ) σ H) (e : H D = some (.lst xs)) (hl : xs.length = ds.length) :
    Rel C δ M ((.ref D, .v (.lst ds)) :: τ) σ H := by
  obtain ⟨ad, r⟩ := r
  have ext : Ext (avo ad M.length fun a => C.hid a ∨ a = D) (avo ad M.length C.hid) H H := Ext.less1 fun b hb => hb.elim (fun h => .inl h) fun h => .inr (.inl h)
  have dm : ∀ {v : V} {x : Rs}, DenR ad M.length (fun a => C.hid a ∨ a = D) H v x → DenR ad M.length C.hid H v x := fun {v x} h => h.mono (Nat.le_refl _) (fun _ _ => rfl) ext
  have av : ∀ (ds : List Dt), allV (ds.map Rs.v) = some ds := fun ds => by
    induction ds with
    | nil => rfl
    | cons d ds ih => rw [List.map_cons]; unfold allV; rw [ih]; rfl
  refine ⟨ad, r.len, fun i x e => let ⟨v, h1, h2⟩ := r.slot i x e; ⟨v, h1, dm h2⟩, fun n c q => ((r.mem n c q).mono ext rfl), r.inj, fun a ha => r.trk a (.inl ha), r.frame, r.own, r.bor, fun n hn h => r.disj n hn (.inl h), fun p hp => ?_⟩
  rcases List.mem_cons.mp hp with rfl | hp
  · refine Den.lst (fun h => ?_) e (DenL.mono ext (allV_den (av ds) (by rw [List.length_map]; exact hl) fun p hp => r.tmp p (List.mem_append_left _ hp)))
    rcases h with ⟨n, h1, h2⟩ | h
    · exact r.disj n h1 (.inr h2.symm)
    · exact hn h
  · exact dm (r.tmp p (List.mem_append_right _ hp))

def wipeD (δ : Sl) : List Nat → Sl
  | [] => δ
  | v :: vs => (wipeD δ vs).set v none
theorem wipeD_get {δ : Sl} {i : Nat} {r : Rs} : ∀ {vs : List Nat}, (wipeD δ vs)[i]? = some (some r) → δ[i]? = some (some r) ∧ i ∉ vs
  | [], h => ⟨h, by simp⟩
  | v :: vs, h => by
    unfold wipeD at h
    by_cases hi : v = i
    · subst hi
      by_cases hl : v < (wipeD δ vs).length
      · rw [List.getElem?_set_self hl] at h; cases h
      · rw [List.getElem?_eq_none (by rw [List.length_set]; omega)] at h; cases h
    · rw [List.getElem?_set_ne hi] at h
      obtain ⟨h1, h2⟩ := wipeD_get h
      exact ⟨h1, by simp only [List.mem_cons, not_or]; exact ⟨fun e => hi e.symm, h2⟩⟩
theorem wipeD_length {δ : Sl} : ∀ {vs : List Nat}, (wipeD δ vs).length = δ.length
  | [] => rfl
  | v :: vs => by unfold wipeD; rw [List.length_set, wipeD_length]

@[reducible] def asV (r : Rs) (k : Dt → Prop) : Prop := match r with | .v d => k d | _ => False
theorem asV_ok {r : Rs} {k : Dt → Prop} (q : asV r k) : ∃ d, r = .v d ∧ k d := by
  unfold asV at q
  split at q
  · exact ⟨_, rfl, q⟩
  · exact q.elim
theorem asV_mono {r : Rs} {k k' : Dt → Prop} (h : ∀ d, k d → k' d) (q : asV r k) : asV r k' := by
  obtain ⟨d, rfl, q⟩ := asV_ok q
  exact h d q
def wLc (vs : List Nat) (wi : WI) (wg : WG) (wt : WT) (we : WE) : WE := fun δ M Q => wi δ M fun items M1 => items.length ≤ 1000 ∧ ∃ P : Nat → List Dt → Me → Prop, P 0 [] M1 ∧
  (∀ i d acc M, items[i]? = some d → P i acc M → wg (.v d) (wipeD δ vs) fun δ' => wt δ' M fun b M' => if b = true then we δ' M' fun r M'' => asV r fun y => P (i + 1) (acc ++ [y]) M'' else P (i + 1) acc M') ∧ ∀ acc M, P items.length acc M → Q (.v (.lst acc)) M
def wYes : WT := fun _ M Q => Q true M
section
variable {X : Cx} {a b c e : Expr} {wa wb we : WE} {wt : WT} {pos : Pos} {EX : Hp → Prop} {wi : WI} {wg : WG}
theorem vts_nil : VTs X [] wYes := by
  refine ⟨PTs.imp pts_nil ?_, fun δ M Q Q' h q => h _ _ q⟩
  rintro σ H Q ⟨C, δ, M, τ, rel, q⟩
  exact q H rel
theorem vts_one (h : VT X c wt) : VTs X [c] wt := ⟨pts_one h.pt, h.mono⟩
theorem lc_mono {vs : List Nat} (hi : ∀ δ M Q Q', (∀ r M', Q r M' → Q' r M') → wi δ M Q → wi δ M Q') : ∀ δ M Q Q', (∀ r M', Q r M' → Q' r M') → wLc vs wi wg wt we δ M Q → wLc vs wi wg wt we δ M Q' :=
  fun δ M Q Q' h q => hi _ _ _ _ (fun items M1 ⟨hz, P, h0, hs, hd⟩ => ⟨hz, P, h0, hs, fun acc M p => h _ _ (hd acc M p)⟩) q
theorem zip_app {xs : List V} {acc : List Dt} {y : V} {d : Dt} {p : V × Rs} (hl : xs.length = acc.length) (h : p ∈ (xs ++ [y]).zip ((acc ++ [d]).map Rs.v)) : p ∈ xs.zip (acc.map Rs.v) ∨ p = (y, .v d) := by
  rw [List.map_append, List.zip_append (by rw [List.length_map]; exact hl)] at h
  rcases List.mem_append.mp h with h | h
  · exact .inl h
  · exact .inr (by simpa using h)
theorem lc_link {tg iter elt : Expr} {ifs : List Expr} {scope : Scope} {own : List (Str × Nat)} (hi : VI X tg iter wi)
    (hgm : ∀ r δ Q Q', (∀ δ', Q δ' → Q' δ') → wg r δ Q → wg r δ Q') (htm : ∀ δ M Q Q', (∀ r M', Q r M' → Q' r M') → wt δ M Q → wt δ M Q') (hem : ∀ δ M Q Q', (∀ r M', Q r M' → Q' r M') → we δ M Q → we δ M Q') :
    ∀ σ H Q, rd (wLc (own.map (·.2)) wi wg wt we) σ H Q → tLc (rdI wi) (rdG (own.map (·.2)) wg) (rdT wt) (rd we) (own.map (·.2)) σ H Q := by
  rintro σ H Q ⟨C, δ, M, τ, rel, q⟩
  refine ⟨C, δ, M, τ, rel, hi.mono _ _ _ _ (fun items M1 q J H1 srcs rel1 wk D hD => ?_) q⟩
  obtain ⟨hz, P, h0, hs, hd⟩ := q
  obtain ⟨rel2, z0, nhD⟩ := rel1.hide (o := .lst []) hD
  refine ⟨fun i m H => m = items.length - i ∧ i ≤ items.length ∧ ∃ acc M accV, P i acc M ∧ acc.length ≤ i ∧ H D = some (.lst accV) ∧ accV.length = acc.length ∧ Rel { C with hid := fun a => C.hid a ∨ a = D } δ M (accV.zip (acc.map .v) ++ (srcs ++ τ)) σ H,
    ⟨items.length, by simp, Nat.zero_le _, [], M1, [], h0, Nat.le_refl _, upd_same, rfl, rel2⟩, ?_⟩
  rintro i m H2 ⟨rfl, hle, acc, M2, accV, p, hal, eD, hvl, ⟨ad, rel3⟩⟩
  have dn : ∀ p ∈ srcs, DenR ad M2.length (fun a => C.hid a ∨ a = D) H2 p.1 p.2 := fun p hp => rel3.tmp p (List.mem_append_right _ (List.mem_append_left _ hp))
  by_cases hlt : i < items.length
  · refine .inr ⟨wk.goes ad _ _ i H2 hlt dn, fun H' => ∃ acc M accV, P (i + 1) acc M ∧ acc.length ≤ i + 1 ∧ H' D = some (.lst accV) ∧ accV.length = acc.length ∧ Rel { C with hid := fun a => C.hid a ∨ a = D } δ M (accV.zip (acc.map .v) ++ (srcs ++ τ)) σ H',
      fun H' h => ⟨items.length - (i + 1), by omega, rfl, hlt, h⟩, fun x H3 y => ?_⟩
    obtain ⟨d, e, sm, dx⟩ := wk.yields ad _ _ i H2 x H3 dn rel3.trkA hlt y
    have rel4 : Rel { C with hid := fun a => C.hid a ∨ a = D } δ M2 ((x, .v d) :: (accV.zip (acc.map .v) ++ (srcs ++ τ))) σ H3 := ⟨ad, (rel3.same sm).sub fun p hp => (List.mem_cons.mp hp).elim (fun e => by rw [e]; exact dx) ((rel3.same sm).tmp p)⟩
    have len : σ.length = δ.length := rel3.len
    obtain ⟨C', hC', ent, lea⟩ := rel4.enter
    have rel5 := ent (wipeD δ (own.map (·.2))) (L2.wipe σ (own.map (·.2))) (by rw [wipe_length, wipeD_length]; exact len) (fun i x e => by
      obtain ⟨h1, h2⟩ := wipeD_get e
      exact ⟨h1, by rw [wipe_get, if_neg h2]⟩)
    have rel6 : Rel C' (wipeD δ (own.map (·.2))) M2 ((x, .v d) :: (sp δ σ ++ (accV.zip (acc.map .v) ++ (srcs ++ τ)))) (L2.wipe σ (own.map (·.2))) H3 := rel5.sub fun p hp => by
      rcases List.mem_cons.mp hp with rfl | hp
      · exact List.mem_append_right _ List.mem_cons_self
      · rcases List.mem_append.mp hp with hp | hp
        · exact List.mem_append_left _ hp
        · exact List.mem_append_right _ (List.mem_cons_of_mem _ hp)
    refine ⟨C', _, M2, _, _, rel6, hgm _ _ _ _ (fun δ' q' σ2 ag rel7 => ⟨?_, ?_⟩) (hs i d acc M2 e p)⟩
    · rw [ag.wipe, wipe_wipe]
    · refine ⟨C', δ', M2, _, rel7, htm _ _ _ _ (fun b M3 q3 H4 rel8 => ?_) q'⟩
      refine ite_mono (fun q4 => ?_) (fun q4 => ?_) q3
      · refine ⟨C', δ', M3, _, rel8, hem _ _ _ _ (fun r M4 q5 yv H5 rel9 => ?_) q4⟩
        obtain ⟨dy, rfl, q5⟩ := asV_ok q5
        have rel10 : Rel C' δ' M4 (sp δ σ ++ ((yv, .v dy) :: (accV.zip (acc.map .v) ++ (srcs ++ τ)))) σ2 H5 := rel9.sub fun p hp => by
          rcases List.mem_append.mp hp with hp | hp
          · exact List.mem_cons_of_mem _ (List.mem_append_left _ hp)
          · rcases List.mem_cons.mp hp with rfl | hp
            · exact List.mem_cons_self
            · exact List.mem_cons_of_mem _ (List.mem_append_right _ hp)
        obtain ⟨rel11, hk⟩ := lea _ _ _ _ _ rel10
        have eD5 : H5 D = some (.lst accV) := hk D _ (.inr rfl) (sm _ _ eD)
        refine ⟨accV, eD5, by rw [hvl]; exact Nat.lt_of_le_of_lt hal (small1000 (by omega)), acc ++ [dy], M4, accV ++ [yv], q5, by rw [List.length_append, List.length_singleton]; omega, upd_same, by rw [List.length_append, List.length_append, hvl]; rfl, ?_⟩
        refine Rel.sub (Rel.writeHid (D := D) rel11 (.inr rfl) eD5 z0) fun p hp => ?_
        rcases List.mem_append.mp hp with hp | hp
        · rcases zip_app hvl hp with hp | rfl
          · exact List.mem_cons_of_mem _ (List.mem_append_left _ hp)
          · exact List.mem_cons_self
        · exact List.mem_cons_of_mem _ (List.mem_append_right _ hp)
      · obtain ⟨rel11, hk⟩ := lea _ _ _ _ _ rel8
        exact ⟨acc, M3, accV, q4, by omega, hk D _ (.inr rfl) (sm _ _ eD), hvl, rel11⟩
  · have e : i = items.length := by omega
    subst e
    refine .inl ⟨wk.stops ad _ _ H2 dn, hd acc M2 p _ _ ?_⟩
    exact (Rel.unhide nhD ⟨ad, rel3⟩ eD hvl).sub fun p hp => (List.mem_cons.mp hp).elim (fun e => by rw [e]; exact List.mem_cons_self) fun hp => List.mem_cons_of_mem _ (List.mem_append_right _ hp)
theorem v_lc {elt tg iter : Expr} {ifs : List Expr} {scope : Scope} {own : List (Str × Nat)} (hc : X.calm = true) (hN : X.N.Nodup) (hi : VI X tg iter wi) (ok : BlkOk X.N X.env.scope scope own)
    (hg : ∀ (s : Shared) (H : Hp) (C : Addr) (cl : List (Str × Addr)) (fp : List Addr), VG (X.blk s H scope (compEnvC scope cl C X.env) fp) tg (own.map (·.2)) wg) (ht : ∀ (s : Shared) (H : Hp) (C : Addr) (cl : List (Str × Addr)) (fp : List Addr), VTs (X.blk s H scope (compEnvC scope cl C X.env) fp) ifs wt)
    (he : ∀ (s : Shared) (H : Hp) (C : Addr) (cl : List (Str × Addr)) (fp : List Addr), VE (X.blk s H scope (compEnvC scope cl C X.env) fp) elt we) (hs : ∀ x, foldedSetIterable iter X.env x = pure x := by intro _; rfl) :
    VE X (.ListComp elt [⟨tg, iter, ifs, 0⟩] scope pos) (wLc (own.map (·.2)) wi wg wt we) := by
  refine ⟨⟨fun pins s σ H Q I h => ?_⟩, lc_mono hi.mono⟩
  have h' := lc_link (tg := tg) (iter := iter) (elt := elt) (ifs := ifs) (scope := scope) (own := own) hi (hg s H 0 [] []).mono (ht s H 0 [] []).mono (he s H 0 [] []).mono σ H Q h
  exact (pe_lc hc hN hi.pi ok (fun s H C cl fp => (hg s H C cl fp).pg) (fun s H C cl fp => (ht s H C cl fp).pts) (fun s H C cl fp => (he s H C cl fp).pe) hs).run pins s σ H Q I h'
theorem v_setLc {i : Nat} {y : Str} {py spos : Pos} {elt tg iter : Expr} {ifs : List Expr} {scope : Scope} {own : List (Str × Nat)} (hc : X.calm = true) (hN : X.N.Nodup) (hsw : swapsWith (.ListComp elt [⟨tg, iter, ifs, 0⟩] scope pos) (some (.Name y py)) spos.line X.env = pure true) (hi : VI X tg iter wi) (ok : BlkOk X.N X.env.scope scope own)
    (hg : ∀ (s : Shared) (H : Hp) (C : Addr) (cl : List (Str × Addr)) (fp : List Addr), VG (X.blk s H scope (compEnvC scope cl C X.env) fp) tg (own.map (·.2)) wg) (ht : ∀ (s : Shared) (H : Hp) (C : Addr) (cl : List (Str × Addr)) (fp : List Addr), VTs (X.blk s H scope (compEnvC scope cl C X.env) fp) ifs wt)
    (he : ∀ (s : Shared) (H : Hp) (C : Addr) (cl : List (Str × Addr)) (fp : List Addr), VE (X.blk s H scope (compEnvC scope cl C X.env) fp) elt we) (hy : X.N[i]? = some y := by rfl) (hyl : X.env.scope.names.lookup y = some .local := by rfl) (hs : ∀ x, foldedSetIterable iter X.env x = pure x := by intro _; rfl) :
    VS X EX (.Assign [.Name y py] (.ListComp elt [⟨tg, iter, ifs, 0⟩] scope pos) spos) (wSet i (wLc (own.map (·.2)) wi wg wt we)) := by
  refine ⟨⟨fun pins s σ H D I h => ?_⟩, fun E E' δ M h q => lc_mono hi.mono _ _ _ _ (fun _ _ => h.nx _ _) q⟩
  refine (ps_setLc hc hN hy hyl hsw hi.pi ok (fun s H C cl fp => (hg s H C cl fp).pg) (fun s H C cl fp => (ht s H C cl fp).pts) (fun s H C cl fp => (he s H C cl fp).pe) hs).run pins s σ H D I ?_
  obtain ⟨C, δ, M, τ, rel, q⟩ := h
  refine lc_link (tg := tg) (iter := iter) (elt := elt) (ifs := ifs) (scope := scope) (own := own) hi (hg s H 0 [] []).mono (ht s H 0 [] []).mono (he s H 0 [] []).mono σ H _ ⟨C, δ, M, τ, rel, lc_mono hi.mono _ _ _ _ (fun r M' q v H' rel' => ?_) q⟩
  exact q _ H' (rel'.store i)

/-! ### promises -/
abbrev Spec := List Dt → (Dt → Prop) → Prop
abbrev SpecU := List Dt → List Dt → (List Dt → Dt → Prop) → Prop
/-- data in, data out, nothing changed -/
def spV (S : Spec) : Sp := fun vs H Q _ => ∃ (av : Addr → Prop) (ds : List Dt), DenL av H vs ds ∧ (∀ a, av a → H a ≠ none) ∧ S ds fun d => ∀ v H', Same H H' → Den av H' v d → Q v H'
/-- the first argument is a list that may be changed -/
def spU (S : SpecU) : Sp := fun vs H Q _ => ∃ (av : Addr → Prop) (u : Addr) (ws : List V) (us : List Dt) (xs : List V) (ds : List Dt), vs = .ref u :: ws ∧ av u ∧ H u = some (.lst xs) ∧ DenL av H xs us ∧ DenL av H ws ds ∧ (∀ a, av a → H a ≠ none) ∧
  S us ds fun us' d => ∀ v H' xs', (∀ b o, b ≠ u → H b = some o → H' b = some o) → H' u = some (.lst xs') → DenL av H' xs' us' → Den av H' v d → Q v H'
/-- .. that may raise the error of the class at C -/
def spX (C : Addr) (S : List Dt → (Dt → Prop) → Prop → Prop) : Sp := fun vs H Q E => ∃ (av : Addr → Prop) (ds : List Dt), DenL av H vs ds ∧ (∀ a, av a → H a ≠ none) ∧ S ds (fun d => ∀ v H', Same H H' → Den av H' v d → Q v H') (∀ H', Same H H' → E (.ref C) none H')
def wCall (S : Spec) (ws : WA) : WE := fun δ M Q => ws δ M fun rs M1 => asVs rs fun ds => S ds fun d => Q (.v d) M1
variable {k : Nat} {f : Addr} {fd : FuncData} {ps : List Str} {x : Str} {p : Pos} {es : List Expr} {ws : WA} {CX : CXT} {E : XK}
theorem v_call {S : Spec} (hSm : ∀ ds Q Q', (∀ d, Q d → Q' d) → S ds Q → S ds Q') (F : FnOk X.prog X.w X.K X.mg X.base CX k f fd ps (spV S)) (hr : Room k X.A) (hm : X.mg x = some (.ref f)) (hk : PySem.W.keepIn X.K (.ref f) = true) (hb : Binds X.K fd ps []) (hx : Passes CX X E) (ha : VA X (e :: es) ws) (hg : Gl X x := by rfl)
    (hdb : (x == ("__debug__" : Str)) = false := by decide) (hst : starEach (e :: es) X.env = (false, eval e X.env) :: starEach es X.env := by rfl) (hpl : (backTo pos (starEach es X.env)).any (·.1) = false := by rfl) : VE X (.Call (.Name x p) (e :: es) [] pos) (wCall S ws) := by
  refine ⟨PE.imp (pe_call F hr hg hm hk hb .nil hx ha.pa hdb hst hpl) ?_, fun δ M Q Q' h q => ha.mono _ _ _ _ (fun rs M1 => asVs_mono fun ds => hSm _ _ _ fun d => h _ _) q⟩
  rintro σ H Q ⟨C, δ, M, τ, rel, q⟩
  refine ⟨C, δ, M, τ, rel, ha.mono _ _ _ _ (fun rs M1 q vs H1 hl rel1 => ?_) q⟩
  obtain ⟨ds, e, q⟩ := asVs_ok q
  obtain ⟨ad, r1⟩ := id rel1
  rw [List.append_nil]
  refine ⟨_, ds, Rel.args e hl rel1 ad r1, r1.trkA, hSm _ _ _ (fun d q v H' s dn => q v H' ?_) q⟩
  exact ⟨ad, (r1.same s).sub fun p hp => (List.mem_cons.mp hp).elim (fun e => by rw [e]; exact dn) fun hp => (r1.same s).tmp p (List.mem_append_right _ hp)⟩
theorem v_call0 {S : Spec} (hSm : ∀ ds Q Q', (∀ d, Q d → Q' d) → S ds Q → S ds Q') (F : FnOk X.prog X.w X.K X.mg X.base CX k f fd ps (spV S)) (hr : Room k X.A) (hm : X.mg x = some (.ref f)) (hk : PySem.W.keepIn X.K (.ref f) = true) (hb : Binds X.K fd ps []) (hx : Passes CX X E) (hg : Gl X x := by rfl)
    (hdb : (x == ("__debug__" : Str)) = false := by decide) : VE X (.Call (.Name x p) [] [] pos) (wCall S wNil) := by
  refine ⟨PE.imp (pe_call0 F hr hg hm hk hb .nil hx hdb) ?_, fun δ M Q Q' h q => asVs_mono (rs := []) (fun ds => hSm _ _ _ fun d => h (.v d) M) q⟩
  rintro σ H Q ⟨C, δ, M, τ, rel, q⟩
  have q : S [] fun d => ∀ v H', Rel C δ M ((v, .v d) :: τ) σ H' → Q v H' := q
  obtain ⟨ad, r1⟩ := rel
  refine ⟨_, [], .nil, r1.trkA, hSm _ _ _ (fun d q v H' s dn => q v H' ?_) q⟩
  exact ⟨ad, (r1.same s).sub fun p hp => (List.mem_cons.mp hp).elim (fun e => by rw [e]; exact dn) fun hp => (r1.same s).tmp p hp⟩
@[reducible] def asU (rs : List Rs) (M : Me) (k : Nat → List Dt → List Dt → Prop) : Prop := match rs with | .o n :: rs => (match M[n]? with | some (.lst us) => asVs rs fun ds => k n us ds | _ => False) | _ => False
theorem asU_ok {rs : List Rs} {M : Me} {k : Nat → List Dt → List Dt → Prop} (q : asU rs M k) : ∃ n us rs' ds, rs = .o n :: rs' ∧ M[n]? = some (.lst us) ∧ allV rs' = some ds ∧ k n us ds := by
  unfold asU at q
  split at q
  · split at q
    · obtain ⟨ds, e, q⟩ := asVs_ok q
      exact ⟨_, _, _, _, rfl, by assumption, e, q⟩
    · exact q.elim
  · exact q.elim
theorem asU_mono {rs : List Rs} {M : Me} {k k' : Nat → List Dt → List Dt → Prop} (h : ∀ n us ds, k n us ds → k' n us ds) (q : asU rs M k) : asU rs M k' := by
  unfold asU at q ⊢
  split at q
  · split at q
    · exact asVs_mono (fun ds => h _ _ _) q
    · exact q.elim
  · exact q.elim
def wCallU (S : SpecU) (ws : WA) : WE := fun δ M Q => ws δ M fun rs M1 => asU rs M1 fun n us ds => S us ds fun us' d => Q (.v d) (M1.set n (.lst us'))
theorem RelA.swap {C : Fr} {ad : Nat → Addr} {δ : Sl} {M : Me} {τ : List (V × Rs)} {σ : St} {H H' : Hp} {n : Nat} {xs ys : List V} {us : List Dt} (r : RelA C ad δ M τ σ H) (hn : n < M.length) (e : H (ad n) = some (.lst xs)) (k : ∀ b o, b ≠ ad n → H b = some o → H' b = some o) (e' : H' (ad n) = some (.lst ys))
    (dl : DenL (avo ad M.length C.hid) H' ys us) : RelA C ad δ (M.set n (.lst us)) τ σ H' := by
  have hl : (M.set n (.lst us)).length = M.length := List.length_set
  have ext : Ext (avo ad M.length C.hid) (avo ad M.length C.hid) H H' :=
    ⟨fun b x e hb => k b x (fun z => hb (.inl ⟨n, hn, z⟩)) e, fun _ z => .inr z, fun b zs q => k b _ (fun z => by rw [z, e] at q; cases q) q⟩
  have dm : ∀ {v : V} {x : Rs}, DenR ad M.length C.hid H v x → DenR ad (M.set n (.lst us)).length C.hid H' v x := fun {v x} h => by rw [hl]; exact h.mono (Nat.le_refl _) (fun _ _ => rfl) ext
  refine ⟨r.len, fun i x e => let ⟨v, h1, h2⟩ := r.slot i x e; ⟨v, h1, dm h2⟩, fun j c' q => ?_, fun n k hn hk e => r.inj n k (by omega) (by omega) e, fun a ha => ?_, fun b x q hb => ?_, fun n hn => r.own n (by omega), fun n a e => by rw [hl]; exact r.bor n a e, fun n hn => r.disj n (by omega), fun q hq => dm (r.tmp q hq)⟩
  · rw [hl]
    by_cases hk : n = j
    · subst hk
      rw [List.getElem?_set_self hn] at q
      cases q
      exact ⟨ys, e', dl⟩
    · rw [List.getElem?_set_ne hk] at q
      have hk' : j < M.length := (List.getElem?_eq_some_iff.mp q).1
      have hne : ad j ≠ ad n := fun z => hk (r.inj n j hn hk' z.symm)
      refine (r.mem j c' q).mono ext ?_
      cases z : H (ad j) with
      | none => exact absurd z (r.trkA _ (.inl ⟨j, hk', rfl⟩))
      | some o => exact k _ _ hne z
  · by_cases h : a = ad n
    · rw [h, e']; intro z; cases z
    · cases z : H a with
      | none => exact absurd z (r.trk a ha)
      | some o => rw [k _ _ h z]; intro z; cases z
  · refine k b x (fun z => ?_) (r.frame b x q hb)
    rcases r.own n hn with w | w
    · rw [z] at q; rw [q] at w; cases w
    · exact hb (by rw [z]; exact w)
theorem v_callU {S : SpecU} (hSm : ∀ us ds Q Q', (∀ u d, Q u d → Q' u d) → S us ds Q → S us ds Q') (F : FnOk X.prog X.w X.K X.mg X.base CX k f fd ps (spU S)) (hr : Room k X.A) (hm : X.mg x = some (.ref f)) (hk : PySem.W.keepIn X.K (.ref f) = true) (hb : Binds X.K fd ps []) (hx : Passes CX X E) (ha : VA X (e :: es) ws) (hg : Gl X x := by rfl)
    (hdb : (x == ("__debug__" : Str)) = false := by decide) (hst : starEach (e :: es) X.env = (false, eval e X.env) :: starEach es X.env := by rfl) (hpl : (backTo pos (starEach es X.env)).any (·.1) = false := by rfl) : VE X (.Call (.Name x p) (e :: es) [] pos) (wCallU S ws) := by
  refine ⟨PE.imp (pe_call F hr hg hm hk hb .nil hx ha.pa hdb hst hpl) ?_, fun δ M Q Q' h q => ha.mono _ _ _ _ (fun rs M1 => asU_mono fun n us ds => hSm _ _ _ _ fun u d => h _ _) q⟩
  rintro σ H Q ⟨C, δ, M, τ, rel, q⟩
  refine ⟨C, δ, M, τ, rel, ha.mono _ _ _ _ (fun rs M1 q vs H1 hl rel1 => ?_) q⟩
  obtain ⟨n, us, rs', ds, rfl, em, e, q⟩ := asU_ok q
  obtain ⟨ad, r1⟩ := id rel1
  rw [List.append_nil]
  match vs, hl with
  | v :: ws, hl =>
    have h0 : DenR ad M1.length C.hid H1 v (.o n) := r1.tmp (v, .o n) (List.mem_append_left _ (by rw [List.zip_cons_cons]; exact List.mem_cons_self))
    obtain ⟨hn, rfl⟩ := h0
    obtain ⟨xs, ex, dl⟩ := r1.mem n _ em
    refine ⟨_, ad n, ws, us, xs, ds, rfl, .inl ⟨n, hn, rfl⟩, ex, dl, allV_den e (by simpa using hl) (fun p hp => r1.tmp p (List.mem_append_left _ (by rw [List.zip_cons_cons]; exact List.mem_cons_of_mem _ hp))), r1.trkA, hSm _ _ _ _ (fun us' d q v H' xs' kp e' dl' dn => q v H' ?_) q⟩
    have r2 := r1.swap hn ex kp e' dl'
    refine ⟨ad, r2.sub fun p hp => (List.mem_cons.mp hp).elim (fun z => by rw [z]; rw [List.length_set]; exact dn) fun hp => r2.tmp p (List.mem_append_right _ hp)⟩
end

/-! ### a def -/
def slots0 (N : List Str) (rs : List Rs) : Sl := rs.map some ++ List.replicate (N.length - rs.length) none
theorem slot_start {ad : Nat → Addr} {m : Nat} {hid : Addr → Prop} {H : Hp} {N : List Str} {vs : List V} {rs : List Rs} (hl : vs.length = rs.length) (h : ∀ p ∈ vs.zip rs, DenR ad m hid H p.1 p.2) :
    ∀ (i : Nat) r, (slots0 N rs)[i]? = some (some r) → ∃ v, (L2.start N vs)[i]? = some (some v) ∧ DenR ad m hid H v r := fun i r e => by
  unfold slots0 at e
  by_cases hi : i < rs.length
  · rw [List.getElem?_append_left (by rw [List.length_map]; exact hi), List.getElem?_map, List.getElem?_eq_getElem hi] at e
    have hv : i < vs.length := by omega
    refine ⟨vs[i], ?_, ?_⟩
    · unfold L2.start
      rw [List.getElem?_append_left (by rw [List.length_map]; exact hv), List.getElem?_map, List.getElem?_eq_getElem hv]
      rfl
    · have e' : rs[i] = r := by simpa using e
      refine h (vs[i], r) (List.mem_of_getElem? (i := i) ?_)
      rw [List.getElem?_zip_eq_some]
      exact ⟨List.getElem?_eq_getElem hv, by rw [List.getElem?_eq_getElem hi, e']⟩
  · rw [List.getElem?_append_right (by rw [List.length_map]; omega)] at e
    have := List.mem_of_getElem? e
    simp only [List.mem_replicate] at this
    exact nomatch this.2
theorem start_len {N : List Str} {vs : List V} {rs : List Rs} (hl : vs.length = rs.length) : (L2.start N vs).length = (slots0 N rs).length := by
  unfold L2.start slots0
  simp only [List.length_append, List.length_map, List.length_replicate, hl]
@[reducible] def retD (nb : Nat) (r : Rs) (M : Me) (Q : Dt → Prop) : Prop := match r with
  | .v d => Q d
  | .o n => nb ≤ n ∧ (match M[n]? with | some (.lst ds) => Q (.lst ds) | _ => False)
theorem zip_map_v {ad : Nat → Addr} {m : Nat} {hid : Addr → Prop} {H : Hp} {vs : List V} {ds : List Dt} (h : DenL (avo ad m hid) H vs ds) : ∀ p ∈ vs.zip (ds.map Rs.v), DenR ad m hid H p.1 p.2 := zip_den h
theorem avo0 {hid : Addr → Prop} : ∀ a, avo (fun _ => 0) 0 hid a ↔ hid a := fun a => ⟨fun h => h.elim (fun ⟨n, hn, _⟩ => absurd hn (Nat.not_lt_zero _)) id, .inr⟩
theorem Den.avo0 {hid : Addr → Prop} {H : Hp} {vs : List V} {ds : List Dt} (h : DenL hid H vs ds) : DenL (avo (fun _ => 0) 0 hid) H vs ds := h.mono (Ext.less1 fun b hb => (VL.avo0 b).mp hb)
def endV (Q : Dt → Prop) : EndsV := ⟨fun _ _ => Q .non, fun r M => retD 0 r M Q, fun _ _ => False, fun _ _ => False, False⟩
@[reducible] def asM0 (M : Me) (k : List Dt → Prop) : Prop := match M[0]? with | some (Ct.lst us) => k us | _ => False
def endU (Q : List Dt → Dt → Prop) : EndsV := ⟨fun _ _ => False, fun r M => retD 1 r M fun d => asM0 M fun us => Q us d, fun _ _ => False, fun _ _ => False, False⟩
def endX (Q : Dt → Prop) (R : Prop) : EndsV := ⟨fun _ _ => Q .non, fun r M => retD 0 r M Q, fun _ _ => False, fun _ _ => False, R⟩
section
variable {P : Program} {w : World} {K : PySem.W.Frag} {mg : Str → Option Value} {base : Heap}
theorem rel_start {av : Addr → Prop} {H : Hp} {N : List Str} {vs : List V} {ds : List Dt} (dl : DenL av H vs ds) (ht : ∀ a, av a → H a ≠ none) : Rel ⟨H, [], av⟩ (slots0 N (ds.map .v)) [] [] (L2.start N vs) H := by
  refine ⟨fun _ => 0, start_len (by rw [List.length_map]; exact dl.length), slot_start (by rw [List.length_map]; exact dl.length) (zip_den (Den.avo0 dl)), fun n c e => by simp at e, fun n k hn => absurd hn (Nat.not_lt_zero _), ht, fun b o e _ => e, fun n hn => absurd hn (Nat.not_lt_zero _), fun n a e => by simp at e, fun n hn => absurd hn (Nat.not_lt_zero _), fun p hp => by simp at hp⟩
theorem rel_same {C : Fr} (hu : C.us = []) {δ : Sl} {M : Me} {τ : List (V × Rs)} {σ : St} {H : Hp} (r : Rel C δ M τ σ H) : Same C.H0 H := by
  obtain ⟨ad, r⟩ := r
  exact fun b o e => r.frame b o e (by rw [hu]; simp)
theorem rel_ret {C : Fr} {nb : Nat} (hnb : C.us.length ≤ nb) {δ : Sl} {M : Me} {τ : List (V × Rs)} {σ : St} {H : Hp} {v : V} {r : Rs} {Q : Dt → Prop} (rel : Rel C δ M ((v, r) :: τ) σ H) (q : retD nb r M Q) : ∃ d, Den C.hid H v d ∧ Q d := by
  obtain ⟨ad, rel⟩ := rel
  have ext : Ext (avo ad M.length C.hid) C.hid H H := Ext.less1 fun b hb => .inr hb
  have h := rel.tmp _ List.mem_cons_self
  cases r with
  | v d => exact ⟨d, Den.mono ext h, q⟩
  | o n =>
    obtain ⟨hn, rfl⟩ := h
    obtain ⟨q1, q2⟩ := q
    cases e : M[n]? with
    | none => rw [e] at q2; exact q2.elim
    | some c =>
      rw [e] at q2
      cases c with
      | di ds => exact q2.elim
      | lst ds =>
        obtain ⟨xs, e1, dl⟩ := rel.mem n _ e
        exact ⟨.lst ds, .lst (rel.disj n hn) e1 (dl.mono ext), q2⟩
/-- a def that changes nothing -/
theorem v_fun {x qual : Str} {st : Stmt} {f : Addr} {fd : FuncData} {N ps : List Str} {k : Nat} {S : Spec} (F : Fun K x qual st f fd) (Sc : FnScope N ps (defScope st)) (len : ∀ ds Q, S ds Q → ds.length = ps.length)
    (hbody : ∀ (cdv : Value) (A : Around) (outer : List Env) (s : Shared) (H : Hp) (E : XK), Room k (A.deeper (envOfC qual (defScope st) s.heap.objs.size f cdv)) →
      ∃ wb, VSs (cxOf CX0 P w K mg base N qual (defScope st) f cdv A outer s H E).nox (fun _ => False) (defBody st) wb ∧
        ∀ ds Q, S ds Q → wb (endV Q) (slots0 N (ds.map .v)) []) : FnOk P w K mg base CX0 (k + 1) f fd ps (spV S) := by
  refine F.ok Sc (fun vs H Q E h => ?_) (fun cdv A outer s H vs Q E hr h => ?_)
  · obtain ⟨av, ds, dl, _, h⟩ := h
    rw [dl.length]
    exact len ds _ h
  · obtain ⟨av, ds, dl, ht, h⟩ := h
    obtain ⟨wb, hb, hw⟩ := hbody cdv A outer s H E hr
    refine ⟨_, hb.pss, ⟨H, [], av⟩, _, _, _, rel_start dl ht, hb.mono (endV _) _ _ _ ⟨fun δ M q σ' H' rel => ?_, fun r M q v δ σ' H' rel => ?_, fun _ _ q => False.elim q, fun _ _ q => False.elim q, fun q => False.elim q⟩ (hw ds _ h)⟩
    · exact q .non H' (rel_same rfl rel) .non
    · obtain ⟨d, dn, q⟩ := rel_ret (nb := 0) (Nat.zero_le _) rel q
      exact q v H' (rel_same rfl rel) dn
theorem rel_startU {av : Addr → Prop} {H : Hp} {N : List Str} {u : Addr} {ws xs : List V} {us ds : List Dt} (hu : av u) (ex : H u = some (.lst xs)) (dx : DenL av H xs us) (dl : DenL av H ws ds) (ht : ∀ a, av a → H a ≠ none) :
    Rel ⟨H, [u], fun a => av a ∧ a ≠ u⟩ (slots0 N (.o 0 :: ds.map .v)) [.lst us] [] (L2.start N (.ref u :: ws)) H := by
  have ext : Ext av (avo (fun _ => u) 1 fun a => av a ∧ a ≠ u) H H := Ext.less1 fun b hb => hb.elim (fun ⟨n, _, e⟩ => by rw [e]; exact hu) fun h => h.1
  have hl : (V.ref u :: ws).length = (Rs.o 0 :: ds.map .v).length := by rw [List.length_cons, List.length_cons, List.length_map, dl.length]
  refine ⟨fun _ => u, start_len hl, slot_start hl (fun p hp => ?_), fun n c e => ?_, fun n k hn hk _ => ?_, fun a h => ht a h.1, fun b o e _ => e, fun n hn => .inr List.mem_cons_self, fun n a e => ?_, fun n hn h => h.2 rfl, fun p hp => by simp at hp⟩
  · rw [List.zip_cons_cons] at hp
    rcases List.mem_cons.mp hp with rfl | hp
    · exact ⟨Nat.zero_lt_one, rfl⟩
    · exact zip_den (dl.mono ext) p hp
  · cases n with
    | zero => cases e; exact ⟨xs, ex, dx.mono ext⟩
    | succ n => simp at e
  · have h1 : n < 1 := hn
    have h2 : k < 1 := hk
    omega
  · cases n with
    | zero => cases e; exact ⟨Nat.zero_lt_one, rfl⟩
    | succ n => simp at e
/-- a def that changes its first argument, a list -/
theorem v_funU {x qual : Str} {st : Stmt} {f : Addr} {fd : FuncData} {N ps : List Str} {k : Nat} {S : SpecU} (F : Fun K x qual st f fd) (Sc : FnScope N ps (defScope st)) (len : ∀ us ds Q, S us ds Q → ds.length + 1 = ps.length)
    (hbody : ∀ (cdv : Value) (A : Around) (outer : List Env) (s : Shared) (H : Hp) (E : XK), Room k (A.deeper (envOfC qual (defScope st) s.heap.objs.size f cdv)) →
      ∃ wb, VSs (cxOf CX0 P w K mg base N qual (defScope st) f cdv A outer s H E).nox (fun _ => False) (defBody st) wb ∧
        ∀ us ds Q, S us ds Q → wb (endU Q) (slots0 N (.o 0 :: ds.map .v)) [.lst us]) : FnOk P w K mg base CX0 (k + 1) f fd ps (spU S) := by
  refine F.ok Sc (fun vs H Q E h => ?_) (fun cdv A outer s H vs Q E hr h => ?_)
  · obtain ⟨av, u, ws, us, xs, ds, rfl, _, _, _, dl, _, h⟩ := h
    rw [List.length_cons, dl.length]
    exact len us ds _ h
  · obtain ⟨av, u, ws, us, xs, ds, rfl, hu, ex, dx, dl, ht, h⟩ := h
    obtain ⟨wb, hb, hw⟩ := hbody cdv A outer s H E hr
    refine ⟨_, hb.pss, ⟨H, [u], fun a => av a ∧ a ≠ u⟩, _, _, _, rel_startU hu ex dx dl ht, hb.mono (endU _) _ _ _ ⟨fun δ M q => False.elim q, fun rr M q v δ σ' H' rel => ?_, fun _ _ q => False.elim q, fun _ _ q => False.elim q, fun q => False.elim q⟩ (hw us ds _ h)⟩
    obtain ⟨ad, r⟩ := id rel
    obtain ⟨h0, hau⟩ := r.bor 0 u rfl
    have keep : ∀ b o, b ≠ u → H b = some o → H' b = some o := fun b o hb e => r.frame b o e (by simpa using hb)
    have hd := r.tmp _ List.mem_cons_self
    cases e0 : M[0]? with
    | none =>
      rw [List.getElem?_eq_getElem h0] at e0
      cases e0
    | some c =>
      have hold := r.mem 0 c e0
      rw [hau] at hold
      have avle : ∀ b, av b → avo ad M.length (fun a => av a ∧ a ≠ u) b := fun b hb => by
        by_cases z : b = u
        · exact .inl ⟨0, h0, by rw [hau]; exact z⟩
        · exact .inr ⟨hb, z⟩
      have ext : Ext (avo ad M.length fun a => av a ∧ a ≠ u) av H' H' := Ext.less1 avle
      have fin : ∀ d, Den av H' v d → (asM0 M fun us' => ∀ v H'' xs', (∀ b o, b ≠ u → H b = some o → H'' b = some o) → H'' u = some (.lst xs') → DenL av H'' xs' us' → Den av H'' v d → Q v H'') → Q v H' := fun d dn q => by
        unfold asM0 at q
        rw [e0] at q
        cases c with
        | di _ => exact q.elim
        | lst us' =>
          obtain ⟨xs', e1, dl'⟩ := hold
          exact q v H' xs' keep e1 (dl'.mono ext) dn
      have inj := r.inj
      have mem := r.mem
      have disj := r.disj
      cases rr with
      | v d => exact fin d (Den.mono ext hd) q
      | o n =>
        obtain ⟨hn, rfl⟩ := hd
        obtain ⟨q1, q2⟩ := q
        cases e : M[n]? with
        | none => rw [e] at q2; exact q2.elim
        | some c' =>
          rw [e] at q2
          cases c' with
          | di ds => exact q2.elim
          | lst es =>
            obtain ⟨ys, e1, dl1⟩ := mem n _ e
            refine fin (.lst es) (.lst (fun z => ?_) e1 (dl1.mono ext)) q2
            rcases avle _ z with ⟨j, hj, e3⟩ | h
            · have : n = j := inj n j hn hj e3
              subst this
              by_cases z2 : ad n = u
              · have : n = 0 := inj n 0 hn h0 (by rw [z2, hau])
                omega
              · exact disj n hn ⟨z, z2⟩
            · exact disj n hn h
/-- a def that changes nothing and may raise -/
theorem v_funX {Cc : Addr} {x qual : Str} {st : Stmt} {f : Addr} {fd : FuncData} {N ps : List Str} {k : Nat} {S : List Dt → (Dt → Prop) → Prop → Prop} (F : Fun K x qual st f fd) (Sc : FnScope N ps (defScope st)) (len : ∀ ds Q R, S ds Q R → ds.length = ps.length)
    (hbody : ∀ (cdv : Value) (A : Around) (outer : List Env) (s : Shared) (H : Hp) (E : XK), Room k (A.deeper (envOfC qual (defScope st) s.heap.objs.size f cdv)) →
      ∃ wb, VSs (cxOf (L2.CX P w) P w K mg base N qual (defScope st) f cdv A outer s H E) (fun H' => E (.ref Cc) none H') (defBody st) wb ∧
        ∀ ds Q R, S ds Q R → wb (endX Q R) (slots0 N (ds.map .v)) []) : FnOk P w K mg base (L2.CX P w) (k + 1) f fd ps (spX Cc S) := by
  refine F.okX Sc (fun vs H Q E h => ?_) (fun cdv A outer s H vs Q E hr h => ?_)
  · obtain ⟨av, ds, dl, _, h⟩ := h
    rw [dl.length]
    exact len ds _ _ h
  · obtain ⟨av, ds, dl, ht, h⟩ := h
    obtain ⟨wb, hb, hw⟩ := hbody cdv A outer s H E hr
    refine ⟨_, hb.pss, ⟨H, [], av⟩, _, _, _, rel_start dl ht, hb.mono (endX _ _) _ _ _ ⟨fun δ M q σ' H' rel => ?_, fun r M q v δ σ' H' rel => ?_, fun _ _ q => False.elim q, fun _ _ q => False.elim q, fun q δ M τ σ' H' rel => ?_⟩ (hw ds _ _ h)⟩
    · exact q .non H' (rel_same rfl rel) .non
    · obtain ⟨d, dn, q⟩ := rel_ret (nb := 0) (Nat.zero_le _) rel q
      exact q v H' (rel_same rfl rel) dn
    · exact q H' (rel_same rfl rel)
end
end VL
set_option Elab.async false
set_option linter.all false
set_option maxRecDepth 100000
set_option maxHeartbeats 2000000
/-! VL5: operators, built-ins, methods over values. -/
namespace VL
open PySem PySem.Spec PyProof.Rows L2

abbrev tI (ns : List Int) : Dt := .tup (ns.map .int)
abbrev lI (ns : List Int) : Dt := .lst (ns.map .int)

/-! ### what stands at an address -/
@[reducible] def contL (r : Rs) (M : Me) (k : List Dt → Prop) : Prop := match r with
  | .v (.lst ds) => k ds
  | .o n => (match M[n]? with | some (.lst ds) => k ds | _ => False)
  | _ => False
@[reducible] def contT (r : Rs) (k : List Dt → Prop) : Prop := match r with | .v (.tup ds) => k ds | _ => False
@[reducible] def contS (r : Rs) (M : Me) (k : List Dt → Prop) : Prop := match r with
  | .v (.lst ds) => k ds
  | .v (.tup ds) => k ds
  | .o n => (match M[n]? with | some (.lst ds) => k ds | _ => False)
  | _ => False
theorem contL_mono {r : Rs} {M : Me} {k k' : List Dt → Prop} (h : ∀ ds, k ds → k' ds) (q : contL r M k) : contL r M k' := by
  unfold contL at q ⊢
  split at q
  · exact h _ q
  · split at q
    · exact h _ q
    · exact q.elim
  · exact q.elim
theorem contT_mono {r : Rs} {k k' : List Dt → Prop} (h : ∀ ds, k ds → k' ds) (q : contT r k) : contT r k' := by
  unfold contT at q ⊢
  split at q
  · exact h _ q
  · exact q.elim
theorem contS_mono {r : Rs} {M : Me} {k k' : List Dt → Prop} (h : ∀ ds, k ds → k' ds) (q : contS r M k) : contS r M k' := by
  unfold contS at q ⊢
  split at q
  · exact h _ q
  · exact h _ q
  · split at q
    · exact h _ q
    · exact q.elim
  · exact q.elim
section
variable {C : Fr} {δ : Sl} {M : Me} {τ : List (V × Rs)} {σ : St} {H : Hp} {v : V} {r : Rs}
theorem RelA.lst {ad : Nat → Addr} (rel : RelA C ad δ M τ σ H) (hm : (v, r) ∈ τ) {k : List Dt → Prop} (q : contL r M k) : ∃ a xs ds, v = .ref a ∧ H a = some (.lst xs) ∧ DenL (avo ad M.length C.hid) H xs ds ∧ k ds := by
  have h := rel.tmp _ hm
  unfold contL at q
  split at q
  · have h' : Den (avo ad M.length C.hid) H v (.lst _) := h
    cases h' with
    | lst n e l => exact ⟨_, _, _, rfl, e, l, q⟩
  · rename_i n
    obtain ⟨hn, e1⟩ := (show n < M.length ∧ v = .ref (ad n) from h)
    split at q
    · rename_i ds e
      obtain ⟨xs, e2, l⟩ := rel.mem n _ e
      exact ⟨_, _, _, e1, e2, l, q⟩
    · exact q.elim
  · exact q.elim
theorem RelA.tup {ad : Nat → Addr} (rel : RelA C ad δ M τ σ H) (hm : (v, r) ∈ τ) {k : List Dt → Prop} (q : contT r k) : ∃ a xs ds, v = .ref a ∧ Rd H a (.tup xs) ∧ DenL (avo ad M.length C.hid) H xs ds ∧ k ds ∧ r = .v (.tup ds) := by
  have h := rel.tmp _ hm
  unfold contT at q
  split at q
  · have h' : Den (avo ad M.length C.hid) H v (.tup _) := h
    cases h' with
    | tup e l => exact ⟨_, _, _, rfl, .inl e, l, q, rfl⟩
    | tpf n p e l => exact ⟨_, _, _, rfl, .inr ⟨_, e⟩, l, q, rfl⟩
  · exact q.elim
theorem RelA.seq {ad : Nat → Addr} (rel : RelA C ad δ M τ σ H) (hm : (v, r) ∈ τ) {k : List Dt → Prop} (q : contS r M k) : ∃ a xs ds, v = .ref a ∧ (H a = some (.lst xs) ∨ (Rd H a (.tup xs) ∧ Den (avo ad M.length C.hid) H v (.tup ds))) ∧ DenL (avo ad M.length C.hid) H xs ds ∧ k ds := by
  have h := rel.tmp _ hm
  unfold contS at q
  split at q
  · have h' : Den (avo ad M.length C.hid) H v (.lst _) := h
    cases h' with
    | lst n e l => exact ⟨_, _, _, rfl, .inl e, l, q⟩
  · have h' : Den (avo ad M.length C.hid) H v (.tup _) := h
    have h2 := h'
    cases h' with
    | tup e l => exact ⟨_, _, _, rfl, .inr ⟨.inl e, h2⟩, l, q⟩
    | tpf n p e l => exact ⟨_, _, _, rfl, .inr ⟨.inr ⟨_, e⟩, h2⟩, l, q⟩
  · rename_i n
    obtain ⟨hn, e1⟩ := (show n < M.length ∧ v = .ref (ad n) from h)
    split at q
    · rename_i ds e
      obtain ⟨xs, e2, l⟩ := rel.mem n _ e
      exact ⟨_, _, _, e1, .inl e2, l, q⟩
    · exact q.elim
  · exact q.elim
theorem RelA.tmp1 {ad : Nat → Addr} (rel : RelA C ad δ M τ σ H) {d : Dt} (h : Den (avo ad M.length C.hid) H v d) : RelA C ad δ M ((v, .v d) :: τ) σ H := rel.sub fun p hp => (List.mem_cons.mp hp).elim (fun e => by rw [e]; exact h) (rel.tmp p)
theorem Rel.drop12 {a b c : V × Rs} (r : Rel C δ M (a :: b :: c :: τ) σ H) : Rel C δ M (a :: τ) σ H := r.sub fun p hp => (List.mem_cons.mp hp).elim (fun e => by rw [e]; exact List.mem_cons_self) fun hp => List.mem_cons_of_mem _ (List.mem_cons_of_mem _ (List.mem_cons_of_mem _ hp))
theorem Rel.two {a b : V × Rs} (r : Rel C δ M (a :: b :: τ) σ H) : Rel C δ M τ σ H := r.tail.tail
end

/-! ### operators -/
section
variable {X : Cx}
def oI (C : Int → Int → Prop) (g : Int → Int → Int) : W2 := fun r1 r2 M Q => asInt r1 fun i => asInt r2 fun j => C i j ∧ Q (.v (.int (g i j))) M
theorem vop_int {f : Value → Value → Sem Value} {C : Int → Int → Prop} {g : Int → Int → Int} (h : OpR X f (rI C fun i j => .int (g i j))) : VOp X f (oI C g) := by
  refine ⟨⟨_, h, ?_⟩, fun r1 r2 M Q Q' hq q => asInt_mono (fun i => asInt_mono fun j q => ⟨q.1, hq _ _ q.2⟩) q⟩
  intro C δ M τ σ H x y r1 r2 Q rel q
  obtain ⟨i, rfl, q⟩ := asInt_ok q
  obtain ⟨j, rfl, hc, q⟩ := asInt_ok q
  have e1 := rel_int (v := x) rel (List.mem_cons_of_mem _ List.mem_cons_self)
  have e2 := rel_int (v := y) rel List.mem_cons_self
  subst e1 e2
  exact ⟨i, j, rfl, rfl, hc, q _ H rel.two.int⟩
def oI0 (g : Int → Int → Int) : W2 := fun r1 r2 M Q => asInt r1 fun i => asInt r2 fun j => Q (.v (.int (g i j))) M
theorem vop_int0 {f : Value → Value → Sem Value} {g : Int → Int → Int} (h : OpR X f (rI0 fun i j => .int (g i j))) : VOp X f (oI0 g) := by
  refine ⟨⟨_, h, ?_⟩, fun r1 r2 M Q Q' hq q => asInt_mono (fun i => asInt_mono fun j q => hq _ _ q) q⟩
  intro C δ M τ σ H x y r1 r2 Q rel q
  obtain ⟨i, rfl, q⟩ := asInt_ok q
  obtain ⟨j, rfl, q⟩ := asInt_ok q
  have e1 := rel_int (v := x) rel (List.mem_cons_of_mem _ List.mem_cons_self)
  have e2 := rel_int (v := y) rel List.mem_cons_self
  subst e1 e2
  exact ⟨i, j, rfl, rfl, q _ H rel.two.int⟩
def oB0 (g : Int → Int → Bool) : W2 := fun r1 r2 M Q => asInt r1 fun i => asInt r2 fun j => Q (.v (.bl (g i j))) M
theorem vop_bl0 {f : Value → Value → Sem Value} {g : Int → Int → Bool} (h : OpR X f (rI0 fun i j => .bl (g i j))) : VOp X f (oB0 g) := by
  refine ⟨⟨_, h, ?_⟩, fun r1 r2 M Q Q' hq q => asInt_mono (fun i => asInt_mono fun j q => hq _ _ q) q⟩
  intro C δ M τ σ H x y r1 r2 Q rel q
  obtain ⟨i, rfl, q⟩ := asInt_ok q
  obtain ⟨j, rfl, q⟩ := asInt_ok q
  have e1 := rel_int (v := x) rel (List.mem_cons_of_mem _ List.mem_cons_self)
  have e2 := rel_int (v := y) rel List.mem_cons_self
  subst e1 e2
  exact ⟨i, j, rfl, rfl, q _ H rel.two.bl⟩
theorem vo_add : VOp X (binaryOp .Add) (oI0 fun i j => i + j) := vop_int0 op_add
theorem vo_sub : VOp X (binaryOp .Sub) (oI0 fun i j => i - j) := vop_int0 op_sub
theorem vo_mul : VOp X (binaryOp .Mult) (oI CMul fun i j => i * j) := vop_int op_mul
theorem vo_mod : VOp X (binaryOp .Mod) (oI (fun _ j => 0 < j) fun i j => i % j) := vop_int op_mod
theorem vo_fdiv : VOp X (binaryOp .FloorDiv) (oI CDiv fun i j => i / j) := vop_int op_fdiv
theorem vo_lt : VOp X (compareOp .Lt) (oB0 fun i j => decide (i < j)) := vop_bl0 op_lt
theorem vo_le : VOp X (compareOp .LtE) (oB0 fun i j => decide (i ≤ j)) := vop_bl0 op_le
theorem vo_gt : VOp X (compareOp .Gt) (oB0 fun i j => decide (j < i)) := vop_bl0 op_gt
theorem vo_ge : VOp X (compareOp .GtE) (oB0 fun i j => decide (j ≤ i)) := vop_bl0 op_ge
/-- == of two scalars of one kind -/
def scEq (d e : Dt) : Option Bool := match d, e with
  | .int i, .int j => some (decide (i = j))
  | .bl a, .bl b => some (decide (a = b))
  | .str a, .str b => some (decide (a = b))
  | _, _ => none
@[reducible] def asSc (r1 r2 : Rs) (k : Bool → Prop) : Prop := match r1, r2 with
  | .v d, .v e => (match scEq d e with | some b => k b | none => False)
  | _, _ => False
theorem asSc_ok {r1 r2 : Rs} {k : Bool → Prop} (q : asSc r1 r2 k) : ∃ d e b, r1 = .v d ∧ r2 = .v e ∧ scEq d e = some b ∧ k b := by
  unfold asSc at q
  split at q
  · split at q
    · exact ⟨_, _, _, rfl, rfl, by assumption, q⟩
    · exact q.elim
  · exact q.elim
theorem asSc_mono {r1 r2 : Rs} {k k' : Bool → Prop} (h : ∀ b, k b → k' b) (q : asSc r1 r2 k) : asSc r1 r2 k' := by
  unfold asSc at q ⊢
  split at q
  · split at q
    · exact h _ q
    · exact q.elim
  · exact q
theorem den_sc {av : Addr → Prop} {H : Hp} {x y : V} {d e : Dt} {b : Bool} (h1 : Den av H x d) (h2 : Den av H y e) (q : scEq d e = some b) : scal x y = true ∧ decide (x = y) = b := by
  unfold scEq at q
  split at q
  · cases h1; cases h2; cases q
    exact ⟨rfl, by rw [Bool.eq_iff_iff, decide_eq_true_iff, decide_eq_true_iff]; exact ⟨fun h => V.int.inj h, fun h => by rw [h]⟩⟩
  · cases h1; cases h2; cases q
    exact ⟨rfl, by rw [Bool.eq_iff_iff, decide_eq_true_iff, decide_eq_true_iff]; exact ⟨fun h => V.bl.inj h, fun h => by rw [h]⟩⟩
  · cases h1; cases h2; cases q
    exact ⟨rfl, by rw [Bool.eq_iff_iff, decide_eq_true_iff, decide_eq_true_iff]; exact ⟨fun h => V.str.inj h, fun h => by rw [h]⟩⟩
  · cases q
def oEqS : W2 := fun r1 r2 M Q => asSc r1 r2 fun b => Q (.v (.bl b)) M
def oNeS : W2 := fun r1 r2 M Q => asSc r1 r2 fun b => Q (.v (.bl (!b))) M
theorem vo_eqS : VOp X (compareOp .Eq) oEqS := by
  refine ⟨⟨_, op_eq, ?_⟩, fun r1 r2 M Q Q' hq q => asSc_mono (fun b => hq _ _) q⟩
  intro C δ M τ σ H x y r1 r2 Q rel q
  obtain ⟨d, e, b, rfl, rfl, hb, q⟩ := asSc_ok q
  obtain ⟨ad, r⟩ := id rel
  obtain ⟨h1, h2⟩ := den_sc (r.tmp (x, .v d) (List.mem_cons_of_mem _ List.mem_cons_self)) (r.tmp (y, .v e) List.mem_cons_self) hb
  exact ⟨h1, by rw [h2]; exact q _ H rel.two.bl⟩
theorem vo_neS : VOp X (compareOp .NotEq) oNeS := by
  refine ⟨⟨_, op_ne, ?_⟩, fun r1 r2 M Q Q' hq q => asSc_mono (fun b => hq _ _) q⟩
  intro C δ M τ σ H x y r1 r2 Q rel q
  obtain ⟨d, e, b, rfl, rfl, hb, q⟩ := asSc_ok q
  obtain ⟨ad, r⟩ := id rel
  obtain ⟨h1, h2⟩ := den_sc (r.tmp (x, .v d) (List.mem_cons_of_mem _ List.mem_cons_self)) (r.tmp (y, .v e) List.mem_cons_self) hb
  exact ⟨h1, by rw [h2]; exact q _ H rel.two.bl⟩
/-- is True, is None -/
def oIsB : W2 := fun r1 r2 M Q => asBl r1 fun a => asBl r2 fun b => Q (.v (.bl (decide (a = b)))) M
theorem vo_isB : VOp X (compareOp .Is) oIsB := by
  refine ⟨⟨_, op_isBl, ?_⟩, fun r1 r2 M Q Q' hq q => asBl_mono (fun i => asBl_mono fun j q => hq _ _ q) q⟩
  intro C δ M τ σ H x y r1 r2 Q rel q
  obtain ⟨a, rfl, q⟩ := asBl_ok q
  obtain ⟨b, rfl, q⟩ := asBl_ok q
  have e1 := rel_bl' (v := x) rel (List.mem_cons_of_mem _ List.mem_cons_self)
  have e2 := rel_bl' (v := y) rel List.mem_cons_self
  subst e1 e2
  exact ⟨a, b, rfl, rfl, q _ H rel.two.bl⟩
def isN : Dt → Bool
  | .non => true
  | _ => false
theorem den_isN {av : Addr → Prop} {H : Hp} {x : V} {d : Dt} (h : Den av H x d) : decide (x = .non) = isN d := by
  cases h <;> simp [isN]
@[reducible] def asNon (r : Rs) (k : Prop) : Prop := match r with | .v .non => k | _ => False
theorem asNon_ok {r : Rs} {k : Prop} (q : asNon r k) : r = .v .non ∧ k := by
  unfold asNon at q
  split at q
  · exact ⟨rfl, q⟩
  · exact q.elim
theorem asNon_mono {r : Rs} {k k' : Prop} (h : k → k') (q : asNon r k) : asNon r k' := by
  unfold asNon at q ⊢
  split at q
  · exact h q
  · exact q
def oIsN : W2 := fun r1 r2 M Q => asV r1 fun d => asNon r2 (Q (.v (.bl (isN d))) M)
theorem vo_isN : VOp X (compareOp .Is) oIsN := by
  refine ⟨⟨_, op_isN, ?_⟩, fun r1 r2 M Q Q' hq q => asV_mono (fun d => asNon_mono (hq _ _)) q⟩
  intro C δ M τ σ H x y r1 r2 Q rel q
  obtain ⟨d, rfl, q⟩ := asV_ok q
  obtain ⟨rfl, q⟩ := asNon_ok q
  obtain ⟨ad, r⟩ := id rel
  have h1 : Den (avo ad M.length C.hid) H x d := r.tmp (x, .v d) (List.mem_cons_of_mem _ List.mem_cons_self)
  have h2 : Den (avo ad M.length C.hid) H y .non := r.tmp (y, .v .non) List.mem_cons_self
  cases h2
  exact ⟨rfl, by rw [den_isN h1]; exact q _ H rel.two.bl⟩

/-! ### deep comparisons: tuples of ints; lists of ints, of such tuples, against [] -/
theorem not_tpl {ob : Obj} {ns : List Int} (h : Tpl ob (ns.map .int)) : False := by
  obtain ⟨_, e, r, h⟩ := h
  cases ns with
  | nil => cases h
  | cons n ns => cases h
theorem dp_tI {K : PySem.W.Frag} {av : Addr → Prop} {H : Hp} {v : V} {ns : List Int} (h : Den av H v (tI ns)) : Dp K H v (.tuple (ns.map .int)) := by
  have all : ∀ (ns : List Int) (xs : List V), DenL av H xs (ns.map .int) → DpAll K H xs (ns.map .int) := fun ns => by
    induction ns with
    | nil => intro xs h; cases h; exact .nil
    | cons n ns ih =>
      intro xs h
      cases h with
      | cons a b => cases a; exact .cons (.int n) (ih _ b)
  cases h with
  | tup e l => exact .tup (SqT.of e) (all ns _ l)
  | tpf n p e l => exact (not_tpl p).elim
theorem dpAll_tI {K : PySem.W.Frag} {av : Addr → Prop} {H : Hp} : ∀ {nss : List (List Int)} {xs : List V}, DenL av H xs (nss.map tI) → DpAll K H xs (nss.map fun ns => .tuple (ns.map .int))
  | [], _, .nil => .nil
  | ns :: nss, _, .cons a b => .cons (dp_tI a) (dpAll_tI b)
theorem dpAll_int {K : PySem.W.Frag} {av : Addr → Prop} {H : Hp} : ∀ {ns : List Int} {xs : List V}, DenL av H xs (ns.map .int) → DpAll K H xs (ns.map .int)
  | [], _, .nil => .nil
  | ns :: nss, _, .cons a b => by cases a; exact .cons (.int _) (dpAll_int b)
theorem lay_ints : ∀ ns : List Int, PyData.canLayAll0 (ns.map .int) = true
  | [] => rfl
  | n :: ns => by rw [List.map_cons, PyData.canLayAll0, lay_ints ns]; rfl
theorem depth_ints : ∀ ns : List Int, PyData.depthAll (ns.map .int) = 0
  | [] => rfl
  | n :: ns => by rw [List.map_cons, PyData.depthAll, depth_ints ns]; rfl
theorem shaped_tI (ns : List Int) : SeqAt.shaped (.tuple (ns.map .int)) = true := by
  unfold SeqAt.shaped
  rw [PyData.canLay0, PyData.depth, lay_ints, depth_ints]
  rfl
theorem shaped_lI (ns : List Int) : SeqAt.shaped (.list (ns.map .int)) = true := by
  unfold SeqAt.shaped
  rw [PyData.canLay0, PyData.depth, lay_ints, depth_ints]
  rfl
theorem lay_tIs : ∀ nss : List (List Int), PyData.canLayAll0 (nss.map fun ns => .tuple (ns.map .int)) = true
  | [] => rfl
  | n :: ns => by rw [List.map_cons, PyData.canLayAll0, lay_tIs ns, PyData.canLay0, lay_ints]; rfl
theorem depth_tIs : ∀ nss : List (List Int), PyData.depthAll (nss.map fun ns => .tuple (ns.map .int)) ≤ 1
  | [] => Nat.zero_le _
  | n :: ns => by
    rw [List.map_cons, PyData.depthAll, PyData.depth, depth_ints]
    exact Nat.max_le.mpr ⟨Nat.le_refl _, depth_tIs ns⟩
theorem shaped_tIs (nss : List (List Int)) : SeqAt.shaped (.list (nss.map fun ns => .tuple (ns.map .int))) = true := by
  unfold SeqAt.shaped
  rw [PyData.canLay0, PyData.depth, lay_tIs, decide_eq_true (by have := depth_tIs nss; omega)]
  rfl
theorem eqvAll_ints : ∀ ns ms : List Int, PyData.eqvAll (ns.map .int) (ms.map .int) = decide (ns = ms)
  | [], [] => by simp [PyData.eqvAll]
  | [], m :: ms => by simp [PyData.eqvAll]
  | n :: ns, [] => by simp [PyData.eqvAll]
  | n :: ns, m :: ms => by
    rw [List.map_cons, List.map_cons, PyData.eqvAll, eqvAll_ints ns ms, PyData.eqv]
    rw [Bool.eq_iff_iff]
    simp
theorem eqv_tI (ns ms : List Int) : PyData.eqv (.tuple (ns.map .int)) (.tuple (ms.map .int)) = decide (ns = ms) := by rw [PyData.eqv, eqvAll_ints]
def oEqT : W2 := fun r1 r2 M Q => ∃ ns ms, r1 = .v (tI ns) ∧ r2 = .v (tI ms) ∧ Q (.v (.bl (decide (ns = ms)))) M
theorem vo_eqT (hu : X.A.units + 64 < cLine) : VOp X (compareOp .Eq) oEqT := by
  refine ⟨⟨_, op_eqD hu, ?_⟩, fun r1 r2 M Q Q' hq ⟨ns, ms, e1, e2, q⟩ => ⟨ns, ms, e1, e2, hq _ _ q⟩⟩
  rintro C δ M τ σ H x y _ _ Q rel ⟨ns, ms, rfl, rfl, q⟩
  obtain ⟨ad, r⟩ := id rel
  have h1 : Den (avo ad M.length C.hid) H x (tI ns) := r.tmp (x, .v (tI ns)) (List.mem_cons_of_mem _ List.mem_cons_self)
  have h2 : Den (avo ad M.length C.hid) H y (tI ms) := r.tmp (y, .v (tI ms)) List.mem_cons_self
  exact ⟨_, _, dp_tI h1, dp_tI h2, shaped_tI _, shaped_tI _, by rw [eqv_tI]; exact q _ H rel.two.bl⟩
/-- the items are ints, or tuples of ints -/
def Els (ds : List Dt) : Prop := (∃ ns : List Int, ds = ns.map .int) ∨ ∃ nss : List (List Int), ds = nss.map tI
@[reducible] def asNil (r : Rs) (k : Prop) : Prop := match r with | .v (.lst []) => k | _ => False
theorem asNil_ok {r : Rs} {k : Prop} (q : asNil r k) : r = .v (.lst []) ∧ k := by
  unfold asNil at q
  split at q
  · exact ⟨rfl, q⟩
  · exact q.elim
theorem asNil_mono {r : Rs} {k k' : Prop} (h : k → k') (q : asNil r k) : asNil r k' := by
  unfold asNil at q ⊢
  split at q
  · exact h q
  · exact q
def oNeNil : W2 := fun r1 r2 M Q => contL r1 M fun ds => Els ds ∧ asNil r2 (Q (.v (.bl (!ds.isEmpty))) M)
theorem vo_neNil (hu : X.A.units + 64 < cLine) : VOp X (compareOp .NotEq) oNeNil := by
  refine ⟨⟨_, op_neD hu, ?_⟩, fun r1 r2 M Q Q' hq q => contL_mono (fun ds q => ⟨q.1, asNil_mono (hq _ _) q.2⟩) q⟩
  intro C δ M τ σ H x y r1 r2 Q rel q
  obtain ⟨ad, r⟩ := id rel
  obtain ⟨a, xs, ds, rfl, e, l, els, q⟩ := r.lst (v := x) (r := r1) (List.mem_cons_of_mem _ List.mem_cons_self) q
  obtain ⟨rfl, q⟩ := asNil_ok q
  have h2 : Den (avo ad M.length C.hid) H y (.lst []) := r.tmp (y, .v (.lst [])) List.mem_cons_self
  cases h2 with
  | lst n2 e2 l2 =>
    cases l2
    have fin : Q (.bl (!ds.isEmpty)) H := q _ H rel.two.bl
    rcases els with ⟨ns, rfl⟩ | ⟨nss, rfl⟩
    · refine ⟨_, _, .lst (SqL.of e) (dpAll_int l), .lst (SqL.of e2) .nil, shaped_lI ns, rfl, ?_⟩
      cases ns with
      | nil => exact fin
      | cons n ns => exact fin
    · refine ⟨_, _, .lst (SqL.of e) (dpAll_tI l), .lst (SqL.of e2) .nil, shaped_tIs nss, rfl, ?_⟩
      cases nss with
      | nil => exact fin
      | cons n ns => exact fin
/-- t in ts, a list of tuples of ints -/
theorem any_eqv (ms : List Int) : ∀ nss : List (List Int), ((nss.map fun ns => PyData.tuple (ns.map .int)).any fun z => PyData.eqv z (.tuple (ms.map .int))) = decide (ms ∈ nss)
  | [] => by simp
  | n :: ns => by
    rw [List.map_cons, List.any_cons, any_eqv ms ns, eqv_tI, Bool.eq_iff_iff]
    simp only [Bool.or_eq_true, decide_eq_true_eq, List.mem_cons]
    exact ⟨fun h => h.elim (fun h => .inl h.symm) .inr, fun h => h.elim (fun h => .inl h.symm) .inr⟩
def oInT (neg : Bool) : W2 := fun r1 r2 M Q => ∃ (ms : List Int) (nss : List (List Int)), r1 = .v (tI ms) ∧ r2 = .v (.lst (nss.map tI)) ∧ Q (.v (.bl (if neg then !decide (ms ∈ nss) else decide (ms ∈ nss)))) M
theorem vo_inT (hu : X.A.units + 65 < cLine) : VOp X (compareOp .In) (oInT false) := by
  refine ⟨⟨_, op_inD hu, ?_⟩, fun r1 r2 M Q Q' hq ⟨ns, ms, e1, e2, q⟩ => ⟨ns, ms, e1, e2, hq _ _ q⟩⟩
  rintro C δ M τ σ H x y _ _ Q rel ⟨ms, nss, rfl, rfl, q⟩
  obtain ⟨ad, r⟩ := id rel
  have h1 : Den (avo ad M.length C.hid) H x (tI ms) := r.tmp (x, .v (tI ms)) (List.mem_cons_of_mem _ List.mem_cons_self)
  have h2 : Den (avo ad M.length C.hid) H y (.lst (nss.map tI)) := r.tmp (y, .v (.lst (nss.map tI))) List.mem_cons_self
  cases h2 with
  | lst n2 e2 l2 => exact ⟨_, _, dp_tI h1, .lst (SqL.of e2) (dpAll_tI l2), shaped_tI _, shaped_tIs _, by rw [any_eqv]; exact q _ H rel.two.bl⟩
theorem vo_notInT (hu : X.A.units + 65 < cLine) : VOp X (compareOp .NotIn) (oInT true) := by
  refine ⟨⟨_, op_notInD hu, ?_⟩, fun r1 r2 M Q Q' hq ⟨ns, ms, e1, e2, q⟩ => ⟨ns, ms, e1, e2, hq _ _ q⟩⟩
  rintro C δ M τ σ H x y _ _ Q rel ⟨ms, nss, rfl, rfl, q⟩
  obtain ⟨ad, r⟩ := id rel
  have h1 : Den (avo ad M.length C.hid) H x (tI ms) := r.tmp (x, .v (tI ms)) (List.mem_cons_of_mem _ List.mem_cons_self)
  have h2 : Den (avo ad M.length C.hid) H y (.lst (nss.map tI)) := r.tmp (y, .v (.lst (nss.map tI))) List.mem_cons_self
  cases h2 with
  | lst n2 e2 l2 => exact ⟨_, _, dp_tI h1, .lst (SqL.of e2) (dpAll_tI l2), shaped_tI _, shaped_tIs _, by rw [any_eqv]; exact q _ H rel.two.bl⟩

/-! ### n in ns -/
theorem inV_int (n : Int) : ∀ ns : List Int, inV (.int n) (ns.map V.int) = decide (n ∈ ns)
  | [] => by simp [inV]
  | m :: ns => by
    have ih := inV_int n ns
    unfold inV at ih ⊢
    rw [List.map_cons, List.any_cons, ih, Bool.eq_iff_iff]
    show ((m == n) || decide (n ∈ ns)) = true ↔ decide (n ∈ m :: ns) = true
    simp only [Bool.or_eq_true, decide_eq_true_eq, List.mem_cons, beq_iff_eq]
    exact ⟨fun h => h.elim (fun h => .inl h.symm) .inr, fun h => h.elim (fun h => .inl h.symm) .inr⟩
theorem flat_ints : ∀ ns : List Int, (ns.map V.int).all flatV = true
  | [] => rfl
  | n :: ns => by rw [List.map_cons, List.all_cons, flat_ints ns]; rfl
def oIn (neg : Bool) : W2 := fun r1 r2 M Q => asInt r1 fun n => contS r2 M fun ds => ∃ ns : List Int, ds = ns.map .int ∧ Q (.v (.bl (if neg then !decide (n ∈ ns) else decide (n ∈ ns)))) M
theorem vo_in : VOp X (compareOp .In) (oIn false) := by
  refine ⟨⟨_, op_in_seq, ?_⟩, fun r1 r2 M Q Q' hq q => asInt_mono (fun i => contS_mono fun ds ⟨ns, e, q⟩ => ⟨ns, e, hq _ _ q⟩) q⟩
  intro C δ M τ σ H x y r1 r2 Q rel q
  obtain ⟨n, rfl, q⟩ := asInt_ok q
  have e1 := rel_int (v := x) rel (List.mem_cons_of_mem _ List.mem_cons_self)
  subst e1
  obtain ⟨ad, r⟩ := id rel
  obtain ⟨a, xs, ds, rfl, e, l, ns, rfl, q⟩ := r.seq (v := y) (r := r2) List.mem_cons_self q
  have ex := l.ints
  subst ex
  exact ⟨a, _, rfl, e.elim (fun e => .inl (SqL.of e)) (fun e => .inr (.inl e.1)), rfl, flat_ints ns, by rw [if_neg Bool.false_ne_true, inV_int]; exact q _ H rel.two.bl⟩
theorem vo_notIn : VOp X (compareOp .NotIn) (oIn true) := by
  refine ⟨⟨_, op_notIn_seq, ?_⟩, fun r1 r2 M Q Q' hq q => asInt_mono (fun i => contS_mono fun ds ⟨ns, e, q⟩ => ⟨ns, e, hq _ _ q⟩) q⟩
  intro C δ M τ σ H x y r1 r2 Q rel q
  obtain ⟨n, rfl, q⟩ := asInt_ok q
  have e1 := rel_int (v := x) rel (List.mem_cons_of_mem _ List.mem_cons_self)
  subst e1
  obtain ⟨ad, r⟩ := id rel
  obtain ⟨a, xs, ds, rfl, e, l, ns, rfl, q⟩ := r.seq (v := y) (r := r2) List.mem_cons_self q
  have ex := l.ints
  subst ex
  exact ⟨a, _, rfl, e.elim (fun e => .inl (SqL.of e)) (fun e => .inr (.inl e.1)), rfl, flat_ints ns, by rw [if_pos rfl, inV_int]; exact q _ H rel.two.bl⟩

/-! ### + and * of sequences -/
def oCat : W2 := fun r1 r2 M Q => contL r1 M fun ds => contL r2 M fun es => ds.length + es.length ≤ 1000 ∧ Q (.v (.lst (ds ++ es))) M
theorem vo_cat : VOp X (binaryOp .Add) oCat := by
  refine ⟨⟨_, op_cat, ?_⟩, fun r1 r2 M Q Q' hq q => contL_mono (fun i => contL_mono fun ds q => ⟨q.1, hq _ _ q.2⟩) q⟩
  intro C δ M τ σ H x y r1 r2 Q rel q
  obtain ⟨ad, r⟩ := id rel
  obtain ⟨a, xs, ds, rfl, e, l, q⟩ := r.lst (v := x) (r := r1) (List.mem_cons_of_mem _ List.mem_cons_self) q
  obtain ⟨b, ys, es, rfl, e2, l2, hz, q⟩ := r.lst (v := y) (r := r2) List.mem_cons_self q
  refine ⟨a, b, xs, ys, rfl, rfl, e, e2, by rw [l.length, l2.length]; exact le_line hz, fun p hp => q _ _ ?_⟩
  have s : Same H (upd H p (.lst (xs ++ ys))) := fun b x e => by rw [upd_ne (ne_of_none e hp)]; exact e
  exact Rel.drop12 ⟨ad, (r.same s).tmp1 (.lst (not_avo r hp) upd_same ((l.append l2).mono (Ext.same s)))⟩
end
end VL
set_option Elab.async false
set_option linter.all false
set_option maxRecDepth 100000
set_option maxHeartbeats 2000000
/-! VL6: built-in calls, methods, subscripts, slices, dicts with int keys, isinstance, zip, enumerate over values. -/
namespace VL
open PySem PySem.Spec PyProof.Rows L2

section
variable {C : Fr} {ad : Nat → Addr} {δ : Sl} {M : Me} {τ : List (V × Rs)} {σ : St} {H : Hp} {p : Addr} {xs : List V} {ds : List Dt}
theorem Rel.pushL (r : RelA C ad δ M τ σ H) (hp : H p = none) (l : DenL (avo ad M.length C.hid) H xs ds) : Rel C δ M ((.ref p, .v (.lst ds)) :: τ) σ (upd H p (.lst xs)) := by
  have s : Same H (upd H p (.lst xs)) := fun b x e => by rw [upd_ne (ne_of_none e hp)]; exact e
  exact ⟨ad, (r.same s).tmp1 (.lst (not_avo r hp) upd_same (l.mono (Ext.same s)))⟩
theorem Rel.pushT (r : RelA C ad δ M τ σ H) (hp : H p = none) (l : DenL (avo ad M.length C.hid) H xs ds) : Rel C δ M ((.ref p, .v (.tup ds)) :: τ) σ (upd H p (.tup xs)) := by
  have s : Same H (upd H p (.tup xs)) := fun b x e => by rw [upd_ne (ne_of_none e hp)]; exact e
  exact ⟨ad, (r.same s).tmp1 (.tup upd_same (l.mono (Ext.same s)))⟩
theorem Rel.pushO (r : RelA C ad δ M τ σ H) (hp : H p = none) (l : DenL (avo ad M.length C.hid) H xs ds) : Rel C δ (M ++ [.lst ds]) ((.ref p, .o M.length) :: τ) σ (upd H p (.lst xs)) :=
  ⟨_, r.newO hp fun av h1 h2 e => ⟨xs, upd_same, l.mono e⟩⟩
theorem Rel.val {v : V} {d : Dt} {p q : V × Rs} (r : RelA C ad δ M (p :: q :: τ) σ H) (h : Den (avo ad M.length C.hid) H v d) : Rel C δ M ((v, .v d) :: τ) σ H :=
  ⟨ad, r.sub fun x hx => (List.mem_cons.mp hx).elim (fun e => by rw [e]; exact h) fun hx => r.tmp x (List.mem_cons_of_mem _ (List.mem_cons_of_mem _ hx))⟩
theorem Rel.val1 {v : V} {d : Dt} {τ' : List (V × Rs)} (r : RelA C ad δ M (τ' ++ τ) σ H) (h : Den (avo ad M.length C.hid) H v d) : Rel C δ M ((v, .v d) :: τ) σ H :=
  ⟨ad, r.sub fun x hx => (List.mem_cons.mp hx).elim (fun e => by rw [e]; exact h) fun hx => r.tmp x (List.mem_append_right _ hx)⟩
end
section
variable {X : Cx} {a b c e : Expr} {wa wb we : WE} {wt : WT} {pos : Pos} {EX : Hp → Prop} {es : List Expr} {ws : WA}

/-! ### tuples: +, and lists times a number -/
def oCatT : W2 := fun r1 r2 M Q => contT r1 fun ds => contT r2 fun es => ds.length + es.length ≤ 1000 ∧ Q (.v (.tup (ds ++ es))) M
theorem vo_catT : VOp X (binaryOp .Add) oCatT := by
  refine ⟨⟨_, op_catA, ?_⟩, fun r1 r2 M Q Q' hq q => contT_mono (fun i => contT_mono fun ds q => ⟨q.1, hq _ _ q.2⟩) q⟩
  intro C δ M τ σ H x y r1 r2 Q rel q
  obtain ⟨ad, r⟩ := id rel
  obtain ⟨a, xs, ds, rfl, e, l, q, e1⟩ := r.tup (v := x) (r := r1) (List.mem_cons_of_mem _ List.mem_cons_self) q
  obtain ⟨b, ys, es, rfl, e2, l2, ⟨hz, q⟩, e3⟩ := r.tup (v := y) (r := r2) List.mem_cons_self q
  refine ⟨a, b, xs, ys, rfl, rfl, .inl e, .inl e2, by rw [l.length, l2.length]; exact le_line hz, fun z => ?_, fun _ z => ?_, fun _ _ p hp => ?_⟩
  · subst z
    cases l
    exact q _ H (Rel.val r (by have := r.tmp (.ref b, r2) List.mem_cons_self; rw [e3] at this; exact this))
  · subst z
    cases l2
    rw [List.append_nil] at q
    exact q _ H (Rel.val r (by have := r.tmp (.ref a, r1) (List.mem_cons_of_mem _ List.mem_cons_self); rw [e1] at this; exact this))
  · exact q _ _ (Rel.pushT r hp (l.append l2)).drop12
theorem DenL.rep {av : Addr → Prop} {H : Hp} {xs : List V} {ds : List Dt} (l : DenL av H xs ds) : ∀ k : Nat, DenL av H (List.replicate k xs).flatten (List.replicate k ds).flatten
  | 0 => .nil
  | k + 1 => by rw [List.replicate_succ, List.replicate_succ, List.flatten_cons, List.flatten_cons]; exact l.append (DenL.rep l k)
def oRep : W2 := fun r1 r2 M Q => contL r1 M fun ds => asInt r2 fun k => (0 ≤ k ∧ k ≤ 1000 ∧ ds.length ≤ 1000) ∧ Q (.v (.lst (List.replicate k.toNat ds).flatten)) M
theorem vo_rep : VOp X (binaryOp .Mult) oRep := by
  refine ⟨⟨_, op_rep, ?_⟩, fun r1 r2 M Q Q' hq q => contL_mono (fun i => asInt_mono fun ds q => ⟨q.1, hq _ _ q.2⟩) q⟩
  intro C δ M τ σ H x y r1 r2 Q rel q
  obtain ⟨ad, r⟩ := id rel
  obtain ⟨a, xs, ds, rfl, e, l, q⟩ := r.lst (v := x) (r := r1) (List.mem_cons_of_mem _ List.mem_cons_self) q
  obtain ⟨k, rfl, ⟨h0, h1, h2⟩, q⟩ := asInt_ok q
  have e1 := rel_int (v := y) rel List.mem_cons_self
  subst e1
  have hb : xs.length * k.toNat ≤ 1000 * 1000 := Nat.mul_le_mul (by rw [l.length]; exact h2) (by omega)
  refine ⟨a, k, xs, rfl, rfl, e, by omega, by omega, by rw [sizeLine_eq]; omega, fun p hp => q _ _ (Rel.pushL r hp (l.rep _)).drop12⟩

/-! ### built-in calls -/
abbrev WC := List Rs → Me → (Rs → Me → Prop) → Prop
structure VCall (X : Cx) (f : Value) (o : WC) : Prop where
  ex : ∃ r, CallR X f r ∧ ∀ C δ M τ σ H xs rs Q, xs.length = rs.length → Rel C δ M (xs.zip rs ++ τ) σ H → o rs M (fun rr M' => ∀ v H', Rel C δ M' ((v, rr) :: τ) σ H' → Q v H') → r xs H Q
  mono : ∀ rs M Q Q', (∀ r M', Q r M' → Q' r M') → o rs M Q → o rs M Q'
def wCB (o : WC) (ws : WA) : WE := fun δ M Q => ws δ M fun rs M1 => o rs M1 Q
theorem v_callB {id : String} {o : WC} {x : Str} {p : Pos} (ho : VCall X (.builtin id) o) (hm : X.mg x = none) (ha : VA X (e :: es) ws) (hv : bootBuiltins x = some (.builtin id) := by decide +kernel) (hg : Gl X x := by rfl) (hn : x ≠ "__name__" := by decide) (hdb : (x == ("__debug__" : Str)) = false := by decide)
    (pc : ∀ {r : List V → Hp → VK → Prop} {t : TA}, CallR X (.builtin id) r → PA X (e :: es) t → PE X (.Call (.Name x p) (e :: es) [] pos) (tCB r t) := by exact fun hc ha => pe_callB hc (by rfl) (by assumption) (by decide +kernel) ha) : VE X (.Call (.Name x p) (e :: es) [] pos) (wCB o ws) := by
  obtain ⟨r, h1, h2⟩ := ho.ex
  refine ⟨PE.imp (pc h1 ha.pa) ?_, fun δ M Q Q' h q => ha.mono _ _ _ _ (fun rs M1 => ho.mono _ _ _ _ h) q⟩
  rintro σ H Q ⟨C, δ, M, τ, rel, q⟩
  exact ⟨C, δ, M, τ, rel, ha.mono _ _ _ _ (fun rs M1 q vs H1 hl rel1 => h2 C δ M1 τ σ H1 vs rs Q hl rel1 q) q⟩
theorem v_callTy {id : String} {o : WC} {x : Str} {p : Pos} (ho : VCall X (.type id) o) (hm : X.mg x = none) (ha : VA X (e :: es) ws) (hv : bootBuiltins x = some (.type id) := by decide +kernel) (hg : Gl X x := by rfl) (hn : x ≠ "__name__" := by decide) (hdb : (x == ("__debug__" : Str)) = false := by decide)
    (pc : ∀ {r : List V → Hp → VK → Prop} {t : TA}, CallR X (.type id) r → PA X (e :: es) t → PE X (.Call (.Name x p) (e :: es) [] pos) (tCB r t) := by exact fun hc ha => pe_callTy hc (by rfl) (by assumption) (by decide +kernel) ha) : VE X (.Call (.Name x p) (e :: es) [] pos) (wCB o ws) := by
  obtain ⟨r, h1, h2⟩ := ho.ex
  refine ⟨PE.imp (pc h1 ha.pa) ?_, fun δ M Q Q' h q => ha.mono _ _ _ _ (fun rs M1 => ho.mono _ _ _ _ h) q⟩
  rintro σ H Q ⟨C, δ, M, τ, rel, q⟩
  exact ⟨C, δ, M, τ, rel, ha.mono _ _ _ _ (fun rs M1 q vs H1 hl rel1 => h2 C δ M1 τ σ H1 vs rs Q hl rel1 q) q⟩
theorem len1 {vs : List V} {a : Rs} (h : vs.length = [a].length) : ∃ v, vs = [v] := by
  match vs, h with
  | [v], _ => exact ⟨v, rfl⟩
/-- one argument -/
theorem vcall1 {f : Value} {o : Rs → Me → (Rs → Me → Prop) → Prop} {r : List V → Hp → VK → Prop} (h : CallR X f r) (hl : ∀ C ad δ M τ σ H x rr Q, RelA C ad δ M ((x, rr) :: τ) σ H → o rr M (fun rr M' => ∀ v H', Rel C δ M' ((v, rr) :: τ) σ H' → Q v H') → r [x] H Q)
    (hm : ∀ rs M Q Q', (∀ r M', Q r M' → Q' r M') → o rs M Q → o rs M Q') : VCall X f (fun rs M Q => as1 rs fun rr => o rr M Q) := by
  refine ⟨⟨r, h, ?_⟩, fun rs M Q Q' hq q => as1_mono (fun r => hm _ _ _ _ hq) q⟩
  intro C δ M τ σ H xs rs Q hlen rel q
  obtain ⟨rr, rfl, q⟩ := as1_ok q
  obtain ⟨x, rfl⟩ := len1 hlen
  obtain ⟨ad, rel⟩ := rel
  exact hl C ad δ M τ σ H x rr Q rel q
theorem Rel.of1 {C : Fr} {ad : Nat → Addr} {δ : Sl} {M : Me} {τ : List (V × Rs)} {σ : St} {H : Hp} {p : V × Rs} {v : V} {d : Dt} (r : RelA C ad δ M (p :: τ) σ H) (h : Den (avo ad M.length C.hid) H v d) : Rel C δ M ((v, .v d) :: τ) σ H :=
  ⟨ad, r.sub fun x hx => (List.mem_cons.mp hx).elim (fun e => by rw [e]; exact h) fun hx => r.tmp x (List.mem_cons_of_mem _ hx)⟩
theorem Rel.drop2 {C : Fr} {δ : Sl} {M : Me} {τ : List (V × Rs)} {σ : St} {H : Hp} {p q : V × Rs} (r : Rel C δ M (p :: q :: τ) σ H) : Rel C δ M (p :: τ) σ H := r.sub fun x hx => (List.mem_cons.mp hx).elim (fun e => by rw [e]; exact List.mem_cons_self) fun hx => List.mem_cons_of_mem _ (List.mem_cons_of_mem _ hx)
def oLen : WC := fun rs M Q => as1 rs fun r => contS r M fun ds => Q (.v (.int ds.length)) M
theorem vc_len : VCall X (.builtin "len") oLen := by
  refine vcall1 (o := fun r M Q => contS r M fun ds => Q (.v (.int ds.length)) M) call_len_seq (fun C ad δ M τ σ H x rr Q r q => ?_) fun rs M Q Q' hq q => contS_mono (fun ds => hq _ _) q
  obtain ⟨a, xs, ds, rfl, e, l, q⟩ := r.seq List.mem_cons_self q
  exact ⟨a, xs, rfl, e.elim (fun e => .inl (SqL.of e)) (fun e => .inr (.inl e.1)), by rw [l.length]; exact q _ H (Rel.of1 r (.int _))⟩
def oInt1 : WC := fun rs M Q => as1 rs fun r => asInt r fun i => Q (.v (.int i)) M
theorem vc_int : VCall X (.type "int") oInt1 := by
  refine vcall1 (o := fun r M Q => asInt r fun i => Q (.v (.int i)) M) call_int1 (fun C ad δ M τ σ H x rr Q r q => ?_) fun rs M Q Q' hq q => asInt_mono (fun ds => hq _ _) q
  obtain ⟨i, rfl, q⟩ := asInt_ok q
  have e1 := rel_int (v := x) ⟨ad, r⟩ List.mem_cons_self
  subst e1
  exact .inl ⟨i, rfl, q _ H (Rel.of1 r (.int _))⟩
def oMaxL : WC := fun rs M Q => as1 rs fun r => contL r M fun ds => ∃ ns : List Int, ds = ns.map .int ∧ 0 < ns.length ∧ ∀ m, m ∈ ns → (∀ y ∈ ns, y ≤ m) → Q (.v (.int m)) M
theorem vc_maxL (hc : X.calm = true) : VCall X (.builtin "max") oMaxL := by
  refine vcall1 (o := fun r M Q => contL r M fun ds => ∃ ns : List Int, ds = ns.map .int ∧ 0 < ns.length ∧ ∀ m, m ∈ ns → (∀ y ∈ ns, y ≤ m) → Q (.v (.int m)) M) (cr_max hc) (fun C ad δ M τ σ H x rr Q r q => ?_) fun rs M Q Q' hq q => contL_mono (fun ds ⟨ns, e, h0, h⟩ => ⟨ns, e, h0, fun m h1 h2 => hq _ _ (h m h1 h2)⟩) q
  obtain ⟨a, xs, ds, rfl, e, l, ns, rfl, h0, q⟩ := r.lst List.mem_cons_self q
  have ex := l.ints
  subst ex
  exact ⟨a, ns, rfl, SqL.of e, h0, fun m h1 h2 => q m h1 h2 _ H (Rel.of1 r (.int _))⟩
def oMinL : WC := fun rs M Q => as1 rs fun r => contL r M fun ds => ∃ ns : List Int, ds = ns.map .int ∧ 0 < ns.length ∧ ∀ m, m ∈ ns → (∀ y ∈ ns, m ≤ y) → Q (.v (.int m)) M
theorem vc_minL (hc : X.calm = true) : VCall X (.builtin "min") oMinL := by
  refine vcall1 (o := fun r M Q => contL r M fun ds => ∃ ns : List Int, ds = ns.map .int ∧ 0 < ns.length ∧ ∀ m, m ∈ ns → (∀ y ∈ ns, m ≤ y) → Q (.v (.int m)) M) (cr_min hc) (fun C ad δ M τ σ H x rr Q r q => ?_) fun rs M Q Q' hq q => contL_mono (fun ds ⟨ns, e, h0, h⟩ => ⟨ns, e, h0, fun m h1 h2 => hq _ _ (h m h1 h2)⟩) q
  obtain ⟨a, xs, ds, rfl, e, l, ns, rfl, h0, q⟩ := r.lst List.mem_cons_self q
  have ex := l.ints
  subst ex
  exact ⟨a, ns, rfl, SqL.of e, h0, fun m h1 h2 => q m h1 h2 _ H (Rel.of1 r (.int _))⟩
def oAll : WC := fun rs M Q => as1 rs fun r => contL r M fun ds => ∃ bs : List Bool, ds = bs.map .bl ∧ Q (.v (.bl (bs.all id))) M
theorem vc_all (hc : X.calm = true) : VCall X (.builtin "all") oAll := by
  refine vcall1 (o := fun r M Q => contL r M fun ds => ∃ bs : List Bool, ds = bs.map .bl ∧ Q (.v (.bl (bs.all id))) M) (cr_all hc) (fun C ad δ M τ σ H x rr Q r q => ?_) fun rs M Q Q' hq q => contL_mono (fun ds ⟨ns, e, h0⟩ => ⟨ns, e, hq _ _ h0⟩) q
  obtain ⟨a, xs, ds, rfl, e, l, bs, rfl, q⟩ := r.lst List.mem_cons_self q
  have ex := l.bls
  subst ex
  exact ⟨a, bs, rfl, SqL.of e, q _ H (Rel.of1 r (.bl _))⟩
def oAny : WC := fun rs M Q => as1 rs fun r => contL r M fun ds => ∃ bs : List Bool, ds = bs.map .bl ∧ Q (.v (.bl (bs.any id))) M
theorem vc_any (hc : X.calm = true) : VCall X (.builtin "any") oAny := by
  refine vcall1 (o := fun r M Q => contL r M fun ds => ∃ bs : List Bool, ds = bs.map .bl ∧ Q (.v (.bl (bs.any id))) M) (cr_any hc) (fun C ad δ M τ σ H x rr Q r q => ?_) fun rs M Q Q' hq q => contL_mono (fun ds ⟨ns, e, h0⟩ => ⟨ns, e, hq _ _ h0⟩) q
  obtain ⟨a, xs, ds, rfl, e, l, bs, rfl, q⟩ := r.lst List.mem_cons_self q
  have ex := l.bls
  subst ex
  exact ⟨a, bs, rfl, SqL.of e, q _ H (Rel.of1 r (.bl _))⟩
def oTuple : WC := fun rs M Q => as1 rs fun r => contS r M fun ds => Q (.v (.tup ds)) M
theorem vc_tuple : VCall X (.type "tuple") oTuple := by
  refine vcall1 (o := fun r M Q => contS r M fun ds => Q (.v (.tup ds)) M) call_tuple_of (fun C ad δ M τ σ H x rr Q r q => ?_) fun rs M Q Q' hq q => contS_mono (fun ds => hq _ _) q
  obtain ⟨a, xs, ds, rfl, e, l, q⟩ := r.seq List.mem_cons_self q
  refine ⟨a, xs, rfl, ?_⟩
  rcases e with e | e
  · exact .inl ⟨SqL.of e, fun p hp => q _ _ (Rel.pushT r hp l).drop2⟩
  · exact .inr ⟨.inl e.1, q _ H (Rel.of1 r e.2)⟩
def oList : WC := fun rs M Q => as1 rs fun r => contS r M fun ds => Q (.v (.lst ds)) M
theorem vc_list : VCall X (.type "list") oList := by
  refine vcall1 (o := fun r M Q => contS r M fun ds => Q (.v (.lst ds)) M) call_list_of (fun C ad δ M τ σ H x rr Q r q => ?_) fun rs M Q Q' hq q => contS_mono (fun ds => hq _ _) q
  obtain ⟨a, xs, ds, rfl, e, l, q⟩ := r.seq List.mem_cons_self q
  exact ⟨a, xs, rfl, e.elim (fun e => .inl (SqL.of e)) (fun e => .inr (.inl e.1)), fun p hp => q _ _ (Rel.pushL r hp l).drop2⟩
def oListO : WC := fun rs M Q => as1 rs fun r => contS r M fun ds => Q (.o M.length) (M ++ [.lst ds])
theorem vc_listO : VCall X (.type "list") oListO := by
  refine vcall1 (o := fun r M Q => contS r M fun ds => Q (.o M.length) (M ++ [.lst ds])) call_list_of (fun C ad δ M τ σ H x rr Q r q => ?_) fun rs M Q Q' hq q => contS_mono (fun ds => hq _ _) q
  obtain ⟨a, xs, ds, rfl, e, l, q⟩ := r.seq List.mem_cons_self q
  exact ⟨a, xs, rfl, e.elim (fun e => .inl (SqL.of e)) (fun e => .inr (.inl e.1)), fun p hp => q _ _ (Rel.pushO r hp l).drop2⟩
def oSortI : WC := fun rs M Q => as1 rs fun r => contL r M fun ds => ∃ ns : List Int, ds = ns.map .int ∧ ∀ ns' : List Int, ns'.Perm ns → ns'.Pairwise (· ≤ ·) → Q (.v (lI ns')) M
theorem vc_sortI : VCall X (.builtin "sorted") oSortI := by
  refine vcall1 (o := fun r M Q => contL r M fun ds => ∃ ns : List Int, ds = ns.map .int ∧ ∀ ns' : List Int, ns'.Perm ns → ns'.Pairwise (· ≤ ·) → Q (.v (lI ns')) M) cr_sortedI (fun C ad δ M τ σ H x rr Q r q => ?_) fun rs M Q Q' hq q => contL_mono (fun ds ⟨ns, e, h⟩ => ⟨ns, e, fun m h1 h2 => hq _ _ (h m h1 h2)⟩) q
  obtain ⟨a, xs, ds, rfl, e, l, ns, rfl, q⟩ := r.lst List.mem_cons_self q
  have ex := l.ints
  subst ex
  exact ⟨a, ns, rfl, SqL.of e, fun ns' p h1 h2 hp => q ns' h1 h2 _ _ (Rel.pushL r hp (DenL.of_ints ns')).drop2⟩

/-! ### subscripts, slices -/
theorem ixN_at {xs : List V} {ds : List Dt} {av : Addr → Prop} {H : Hp} {i : Int} {d : Dt} (l : DenL av H xs ds) (h : atI ds i = some d) : ∃ v, atI xs i = some v ∧ Den av H v d := by
  unfold atI at h ⊢
  rw [l.length]
  cases q : ixN ds.length i with
  | none => rw [q] at h; cases h
  | some j =>
    rw [q] at h
    obtain ⟨v, h1, h2⟩ := l.get' (show ds[j]? = some d from h)
    exact ⟨v, h1, h2⟩
def oIx : W2 := fun r1 r2 M Q => contS r1 M fun ds => asInt r2 fun i => ∃ d, atI ds i = some d ∧ Q (.v d) M
theorem wOp_mono' {o : W2} (ho : ∀ r1 r2 M Q Q', (∀ r M', Q r M' → Q' r M') → o r1 r2 M Q → o r1 r2 M Q') (ha : VE X a wa) (hb : VE X b wb) : ∀ δ M Q Q', (∀ r M', Q r M' → Q' r M') → wOp o wa wb δ M Q → wOp o wa wb δ M Q' :=
  fun δ M Q Q' h q => ha.mono _ _ _ _ (fun r1 M1 q1 => hb.mono _ _ _ _ (fun r2 M2 q2 => ho _ _ _ _ _ h q2) q1) q
theorem v_ix (ha : VE X a wa) (hb : VE X b wb) (hs : PlainIx b := by exact fun _ _ => rfl) : VE X (.Subscript a b pos) (wOp oIx wa wb) := by
  have hm : ∀ r1 r2 M Q Q', (∀ r M', Q r M' → Q' r M') → oIx r1 r2 M Q → oIx r1 r2 M Q' := fun r1 r2 M Q Q' hq q => contS_mono (fun ds => asInt_mono fun i ⟨d, e, q⟩ => ⟨d, e, hq _ _ q⟩) q
  refine ⟨PE.imp (pe_ix ix_seq ha.pe hb.pe hs) (wOp_link (f := fun _ _ => pure .none) hm (fun C δ M τ σ H x y r1 r2 Q rel q => ?_) ha hb), wOp_mono' hm ha hb⟩
  obtain ⟨ad, r⟩ := id rel
  obtain ⟨p, xs, ds, rfl, e, l, q⟩ := r.seq (v := x) (r := r1) (List.mem_cons_of_mem _ List.mem_cons_self) q
  obtain ⟨i, rfl, d, ed, q⟩ := asInt_ok q
  have e1 := rel_int (v := y) rel List.mem_cons_self
  subst e1
  obtain ⟨v, h1, h2⟩ := ixN_at l ed
  rcases e with e | e
  · exact .inl ⟨p, xs, i, v, rfl, rfl, SqL.of e, h1, q _ H (Rel.val r h2)⟩
  · exact .inr (.inl ⟨p, xs, i, v, rfl, rfl, .inl e.1, h1, q _ H (Rel.val r h2)⟩)
def cutD (xs : List Dt) (lo hi : Option Int) : List Dt := (xs.drop (HT.sIx xs.length 0 lo)).take (HT.sIx xs.length xs.length hi - HT.sIx xs.length 0 lo)
theorem DenL.take {av : Addr → Prop} {H : Hp} : ∀ {xs : List V} {ds : List Dt} (n : Nat), DenL av H xs ds → DenL av H (xs.take n) (ds.take n)
  | _, _, 0, _ => .nil
  | _, _, _ + 1, .nil => .nil
  | _, _, n + 1, .cons a b => .cons a (DenL.take n b)
theorem DenL.drop {av : Addr → Prop} {H : Hp} : ∀ {xs : List V} {ds : List Dt} (n : Nat), DenL av H xs ds → DenL av H (xs.drop n) (ds.drop n)
  | _, _, 0, r => r
  | _, _, _ + 1, .nil => .nil
  | _, _, n + 1, .cons a b => DenL.drop n b
theorem DenL.cut {av : Addr → Prop} {H : Hp} {xs : List V} {ds : List Dt} (l : DenL av H xs ds) (lo hi : Option Int) : DenL av H (cutV xs lo hi) (cutD ds lo hi) := by
  unfold cutV cutD
  rw [l.length]
  exact (l.drop _).take _
/-- xs[n:] of a list -/
def wFrom (we : WE) (n : Int) : WE := fun δ M Q => we δ M fun r M1 => contL r M1 fun ds => Q (.v (.lst (cutD ds (some n) none))) M1
theorem v_from {n : Int} {j : Nat} {p1 p2 : Pos} (he : VE X e we) : VE X (.Subscript e (.Slice (some (.Constant (.int n) j p1)) none none p2) pos) (wFrom we n) := by
  refine ⟨PE.imp (pe_slice sl_list he.pe (po_some pe_int) po_none) ?_, fun δ M Q Q' hq q => he.mono _ _ _ _ (fun r M1 => contL_mono fun ds => hq _ _) q⟩
  rintro σ H Q ⟨C, δ, M, τ, rel, q⟩
  refine ⟨C, δ, M, τ, rel, he.mono _ _ _ _ (fun r M1 q v H1 rel1 => ?_) q⟩
  obtain ⟨ad, r1⟩ := id rel1
  obtain ⟨a, xs, ds, rfl, e, l, q⟩ := r1.lst List.mem_cons_self q
  exact ⟨n, rfl, a, xs, rfl, SqL.of e, fun p hp => q _ _ (Rel.pushL r1 hp (l.cut _ _)).drop2⟩
/-- t[:n] of a tuple -/
def wTo (we : WE) (n : Int) : WE := fun δ M Q => we δ M fun r M1 => contT r fun ds => Q (.v (.tup (cutD ds none (some n)))) M1
theorem v_to {n : Int} {j : Nat} {p1 p2 : Pos} (he : VE X e we) : VE X (.Subscript e (.Slice none (some (.Constant (.int n) j p1)) none p2) pos) (wTo we n) := by
  refine ⟨PE.imp (pe_slice sl_tupA he.pe po_none (po_some pe_int)) ?_, fun δ M Q Q' hq q => he.mono _ _ _ _ (fun r M1 => contT_mono fun ds => hq _ _) q⟩
  rintro σ H Q ⟨C, δ, M, τ, rel, q⟩
  refine ⟨C, δ, M, τ, rel, he.mono _ _ _ _ (fun r M1 q v H1 rel1 => ?_) q⟩
  obtain ⟨ad, r1⟩ := id rel1
  obtain ⟨a, xs, ds, rfl, e, l, q, e1⟩ := r1.tup List.mem_cons_self q
  refine ⟨n, rfl, a, xs, rfl, .inl e, fun ⟨h1, h2⟩ => ?_, fun _ p hp => q _ _ (Rel.pushT r1 hp (l.cut _ _)).drop2⟩
  refine q _ H1 (Rel.of1 r1 ?_)
  have ec : cutD ds none (some n) = ds := by
    unfold cutD
    rw [← l.length] at *
    rw [h1, h2, List.drop_zero, Nat.sub_zero, l.length, List.take_length]
  rw [ec]
  have := r1.tmp (.ref a, _) List.mem_cons_self
  rw [e1] at this
  exact this

/-! ### methods of owned lists -/
@[reducible] def asO (r : Rs) (M : Me) (k : Nat → List Dt → Prop) : Prop := match r with | .o n => (match M[n]? with | some (.lst ds) => k n ds | _ => False) | _ => False
theorem asO_ok {r : Rs} {M : Me} {k : Nat → List Dt → Prop} (q : asO r M k) : ∃ n ds, r = .o n ∧ M[n]? = some (.lst ds) ∧ k n ds := by
  unfold asO at q
  split at q
  · split at q
    · exact ⟨_, _, rfl, by assumption, q⟩
    · exact q.elim
  · exact q.elim
theorem asO_mono {r : Rs} {M : Me} {k k' : Nat → List Dt → Prop} (h : ∀ n ds, k n ds → k' n ds) (q : asO r M k) : asO r M k' := by
  unfold asO at q ⊢
  split at q
  · split at q
    · exact h _ _ q
    · exact q.elim
  · exact q.elim
theorem RelA.own1 {C : Fr} {ad : Nat → Addr} {δ : Sl} {M : Me} {τ : List (V × Rs)} {σ : St} {H : Hp} {v : V} {n : Nat} {ds : List Dt} (r : RelA C ad δ M τ σ H) (hm : (v, Rs.o n) ∈ τ) (e : M[n]? = some (.lst ds)) :
    ∃ xs, n < M.length ∧ v = .ref (ad n) ∧ H (ad n) = some (.lst xs) ∧ DenL (avo ad M.length C.hid) H xs ds := by
  obtain ⟨h1, h2⟩ := (show n < M.length ∧ v = .ref (ad n) from r.tmp _ hm)
  obtain ⟨xs, e1, l⟩ := r.mem n _ e
  exact ⟨xs, h1, h2, e1, l⟩
theorem RelA.writeL {C : Fr} {ad : Nat → Addr} {δ : Sl} {M : Me} {τ : List (V × Rs)} {σ : St} {H : Hp} {n : Nat} {xs ys : List V} {es : List Dt} (r : RelA C ad δ M τ σ H) (hn : n < M.length) (e : H (ad n) = some (.lst xs)) (l : DenL (avo ad M.length C.hid) H ys es) :
    RelA C ad δ (M.set n (.lst es)) τ σ (upd H (ad n) (.lst ys)) := r.write hn (fun x => ⟨ys, upd_same, l.mono x⟩) fun zs z => by rw [e] at z; cases z
/-- o.m(args), o an owned list -/
abbrev WM := Nat → List Dt → List Rs → Me → (Rs → Me → Prop) → Prop
structure VMt (X : Cx) (id : String) (o : WM) : Prop where
  ex : ∃ r, MtR X id r ∧ ∀ C δ M τ σ H x n ds xs rs Q, xs.length = rs.length → Rel C δ M (xs.zip rs ++ ((x, .o n) :: τ)) σ H → M[n]? = some (.lst ds) → o n ds rs M (fun rr M' => ∀ v H', Rel C δ M' ((v, rr) :: τ) σ H' → Q v H') → r x xs H Q
  mono : ∀ n ds rs M Q Q', (∀ r M', Q r M' → Q' r M') → o n ds rs M Q → o n ds rs M Q'
def wMt (o : WM) (wo : WE) (ws : WA) : WE := fun δ M Q => wo δ M fun r M1 => asO r M1 fun _ _ => ws δ M1 fun rs M2 => asO r M2 fun n ds => o n ds rs M2 Q
theorem v_mt {id : String} {o : WM} {m : Str} {apos : Pos} {wo : WE} (ho : VMt X id o) (pa : PlainAttrs "list") (slot : Slot "list" m id) (hty : typeOf (.builtin id) = pure (.type "method_descriptor")) (h1 : VE X a wo) (ha : VA X (e :: es) ws)
    (hbase : attributeBase a m X.env (eval a X.env) = eval a X.env := by rfl)
    (hfew : ((backTo pos (starEach (e :: es) X.env)).all (fun x => !x.1) && (backToKw pos (keywordEach [] X.env)).all (fun x => x.1.isSome)
      && decide ((e :: es).length + ([] : List Keyword).length + (if ([] : List Keyword).isEmpty then 0 else 1) < 30)) = true := by rfl)
    (hline : (apos.endLine == pos.line) = true := by rfl) (hs : starEach (e :: es) X.env = (false, eval e X.env) :: starEach es X.env := by rfl) (hplain : (backTo pos (starEach es X.env)).any (·.1) = false := by rfl) :
    VE X (.Call (.Attribute a m apos) (e :: es) [] pos) (wMt o wo ws) := by
  obtain ⟨r, hr, hl⟩ := ho.ex
  refine ⟨PE.imp (pe_bm pa slot hty hr h1.pe ha.pa hbase hfew hline hs hplain) ?_, fun δ M Q Q' hq q => h1.mono _ _ _ _ (fun r M1 => asO_mono fun _ _ => ha.mono _ _ _ _ fun rs M2 => asO_mono fun _ _ => ho.mono _ _ _ _ _ _ hq) q⟩
  rintro σ H Q ⟨C, δ, M, τ, rel, q⟩
  refine ⟨C, δ, M, τ, rel, h1.mono _ _ _ _ (fun rr M1 q v H1 rel1 => ?_) q⟩
  obtain ⟨n, ds, rfl, em, q⟩ := asO_ok q
  obtain ⟨ad, r1⟩ := _root_.id rel1
  obtain ⟨xs, hn, rfl, e1, l⟩ := r1.own1 List.mem_cons_self em
  refine ⟨.inl ⟨rfl, _, SqL.of e1⟩, C, δ, M1, _, rel1, ha.mono _ _ _ _ (fun rs M2 q vs H2 hlen rel2 => ?_) q⟩
  obtain ⟨n', ds', en, em2, q⟩ := asO_ok q
  cases en
  exact hl C δ M2 τ σ H2 _ n ds' vs rs Q hlen rel2 em2 q
theorem v_mt0 {id : String} {o : WM} {m : Str} {apos : Pos} {wo : WE} (ho : VMt X id o) (pa : PlainAttrs "list") (slot : Slot "list" m id) (hty : typeOf (.builtin id) = pure (.type "method_descriptor")) (h1 : VE X a wo)
    (hbase : attributeBase a m X.env (eval a X.env) = eval a X.env := by rfl) (hline : (apos.endLine == pos.line) = true := by rfl) : VE X (.Call (.Attribute a m apos) [] [] pos) (wMt o wo wNil) := by
  obtain ⟨r, hr, hl⟩ := ho.ex
  refine ⟨PE.imp (pe_bm0 pa slot hty hr h1.pe hbase hline) ?_, fun δ M Q Q' hq q => h1.mono _ _ _ _ (fun r M1 => asO_mono fun _ _ => asO_mono fun _ _ => ho.mono _ _ _ _ _ _ hq) q⟩
  rintro σ H Q ⟨C, δ, M, τ, rel, q⟩
  refine ⟨C, δ, M, τ, rel, h1.mono _ _ _ _ (fun rr M1 q v H1 rel1 => ?_) q⟩
  obtain ⟨n, ds, rfl, em, q⟩ := asO_ok q
  obtain ⟨ad, r1⟩ := _root_.id rel1
  obtain ⟨xs, hn, rfl, e1, l⟩ := r1.own1 List.mem_cons_self em
  refine ⟨.inl ⟨rfl, _, SqL.of e1⟩, ?_⟩
  have q : asO (.o n) M1 fun n ds => o n ds [] M1 fun r M' => ∀ v H', Rel C δ M' ((v, r) :: τ) σ H' → Q v H' := q
  obtain ⟨n', ds', en, em2, q⟩ := asO_ok q
  cases en
  exact hl C δ M1 τ σ H1 _ n ds' [] [] Q rfl rel1 em2 q
def oApp : WM := fun n ds rs M Q => as1 rs fun r => asV r fun d => ds.length ≤ 1000 ∧ Q (.v .non) (M.set n (.lst (ds ++ [d])))
theorem vm_append : VMt X "list.append" oApp := by
  refine ⟨⟨_, mt_append, ?_⟩, fun n ds rs M Q Q' hq q => as1_mono (fun r => asV_mono fun d q => ⟨q.1, hq _ _ q.2⟩) q⟩
  intro C δ M τ σ H x n ds xs rs Q hl rel em q
  obtain ⟨r, rfl, q⟩ := as1_ok q
  obtain ⟨d, rfl, hz, q⟩ := asV_ok q
  obtain ⟨y, rfl⟩ := len1 hl
  obtain ⟨ad, r1⟩ := rel
  obtain ⟨ys, hn, rfl, e1, l⟩ := r1.own1 (List.mem_append_right _ List.mem_cons_self) em
  have dy : Den (avo ad M.length C.hid) H y d := r1.tmp (y, .v d) List.mem_cons_self
  refine ⟨_, ys, y, rfl, rfl, e1, by rw [l.length]; exact small1000 hz, q _ _ ?_⟩
  exact (Rel.of1 (p := (y, .v d)) (r1.writeL hn e1 (l.snoc dy)) .non).drop2
@[reducible] def asLst (r : Rs) (k : List Dt → Prop) : Prop := match r with | .v (.lst es) => k es | _ => False
theorem asLst_ok {r : Rs} {k : List Dt → Prop} (q : asLst r k) : ∃ es, r = .v (.lst es) ∧ k es := by
  unfold asLst at q
  split at q
  · exact ⟨_, rfl, q⟩
  · exact q.elim
theorem asLst_mono {r : Rs} {k k' : List Dt → Prop} (h : ∀ d, k d → k' d) (q : asLst r k) : asLst r k' := by
  obtain ⟨d, rfl, q⟩ := asLst_ok q
  exact h d q
def oExt : WM := fun n ds rs M Q => as1 rs fun r => asLst r fun es => ds.length + es.length ≤ 1000 ∧ Q (.v .non) (M.set n (.lst (ds ++ es)))
theorem vm_extend : VMt X "list.extend" oExt := by
  refine ⟨⟨_, mt_extend, ?_⟩, fun n ds rs M Q Q' hq q => as1_mono (fun r => asLst_mono fun es q => ⟨q.1, hq _ _ q.2⟩) q⟩
  intro C δ M τ σ H x n ds xs rs Q hl rel em q
  obtain ⟨r, rfl, q⟩ := as1_ok q
  obtain ⟨es, rfl, hz, q⟩ := asLst_ok q
  obtain ⟨y, rfl⟩ := len1 hl
  obtain ⟨ad, r1⟩ := rel
  obtain ⟨ys, hn, rfl, e1, l⟩ := r1.own1 (List.mem_append_right _ List.mem_cons_self) em
  have dy : Den (avo ad M.length C.hid) H y (.lst es) := r1.tmp (y, .v (.lst es)) List.mem_cons_self
  cases dy with
  | lst na e2 l2 =>
    refine ⟨_, _, ys, _, rfl, rfl, e1, e2, by rw [l.length, l2.length]; exact le_line hz, q _ _ ?_⟩
    exact (Rel.of1 (r1.writeL hn e1 (l.append l2)) .non).drop2
def oPop : WM := fun n ds rs M Q => match rs with | [] => ∃ d, ds[ds.length - 1]? = some d ∧ Q (.v d) (M.set n (.lst ds.dropLast)) | _ => False
theorem DenL.dropLast {av : Addr → Prop} {H : Hp} {xs : List V} {ds : List Dt} (l : DenL av H xs ds) : DenL av H xs.dropLast ds.dropLast := by
  rw [List.dropLast_eq_take, List.dropLast_eq_take, l.length]
  exact l.take _
theorem vm_pop : VMt X "list.pop" oPop := by
  refine ⟨⟨_, mt_pop, ?_⟩, fun n ds rs M Q Q' hq q => ?_⟩
  · intro C δ M τ σ H x n ds xs rs Q hl rel em q
    unfold oPop at q
    split at q
    · obtain ⟨d, ed, q⟩ := q
      match xs, hl with
      | [], _ =>
        obtain ⟨ad, r1⟩ := rel
        obtain ⟨ys, hn, rfl, e1, l⟩ := r1.own1 List.mem_cons_self em
        obtain ⟨y, ey, dy⟩ := l.get' ed
        have r2 := r1.writeL hn e1 l.dropLast
        refine ⟨_, ys, y, rfl, rfl, e1, by rw [l.length]; exact ey, q _ _ ?_⟩
        have r3 : RelA C ad δ M ((y, .v d) :: ((V.ref (ad n), Rs.o n) :: τ)) σ H := RelA.tmp1 r1 dy
        exact (show Rel C δ _ ((y, .v d) :: ((V.ref (ad n), Rs.o n) :: τ)) σ _ from ⟨ad, r3.writeL hn e1 l.dropLast⟩).drop2
    · exact q.elim
  · unfold oPop at q ⊢
    split at q
    · obtain ⟨d, ed, q⟩ := q
      exact ⟨d, ed, hq _ _ q⟩
    · exact q
def oPopAt : WM := fun n ds rs M Q => as1 rs fun r => asInt r fun i => (0 ≤ i ∧ i < 2 ^ 62) ∧ ∃ d, ds[i.toNat]? = some d ∧ Q (.v d) (M.set n (.lst (ds.eraseIdx i.toNat)))
theorem DenL.erase {av : Addr → Prop} {H : Hp} : ∀ {xs : List V} {ds : List Dt} (n : Nat), DenL av H xs ds → DenL av H (xs.eraseIdx n) (ds.eraseIdx n)
  | _, _, _, .nil => .nil
  | _, _, 0, .cons a b => b
  | _, _, n + 1, .cons a b => .cons a (DenL.erase n b)
theorem vm_popAt : VMt X "list.pop" oPopAt := by
  refine ⟨⟨_, mt_popAt, ?_⟩, fun n ds rs M Q Q' hq q => as1_mono (fun r => asInt_mono fun i ⟨h, d, e, q⟩ => ⟨h, d, e, hq _ _ q⟩) q⟩
  intro C δ M τ σ H x n ds xs rs Q hl rel em q
  obtain ⟨r, rfl, q⟩ := as1_ok q
  obtain ⟨i, rfl, ⟨h0, h1⟩, d, ed, q⟩ := asInt_ok q
  obtain ⟨y, rfl⟩ := len1 hl
  have ey := rel_int (v := y) rel List.mem_cons_self
  subst ey
  obtain ⟨ad, r1⟩ := rel
  obtain ⟨ys, hn, rfl, e1, l⟩ := r1.own1 (List.mem_append_right _ List.mem_cons_self) em
  obtain ⟨z, ez, dz⟩ := l.get' ed
  have hk : i.toNat < ys.length := (List.getElem?_eq_some_iff.mp ez).1
  have r3 : RelA C ad δ M ((z, .v d) :: ((V.int i, Rs.v (.int i)) :: ((V.ref (ad n), Rs.o n) :: τ))) σ H := RelA.tmp1 r1 dz
  refine ⟨_, ys, i, i.toNat, z, rfl, rfl, e1, by omega, by omega, ?_, ez, q _ _ ?_⟩
  · obtain ⟨k, hk2, hk3⟩ : ∃ k, i.toNat = k ∧ i = (k : Int) := ⟨i.toNat, rfl, by omega⟩
    rw [hk3]
    unfold seqIndex?
    simp only [Int.toNat_natCast]
    first
      | (rw [if_neg (by omega), if_pos (by omega)]; done)
      | (simp; omega)
      | simp [show k < ys.length by omega]
  · exact (show Rel C δ _ ((z, .v d) :: ((V.int i, Rs.v (.int i)) :: ((V.ref (ad n), Rs.o n) :: τ))) σ _ from ⟨ad, r3.writeL hn e1 (l.erase _)⟩).drop12
/-- o[i] = v, o an owned list -/
def wSetIx (we wo wi : WE) : WS := fun E δ M => we δ M fun r M1 => asV r fun d => wo δ M1 fun ro M2 => wi δ M2 fun ri M3 => asInt ri fun k => asO ro M3 fun n ds => ∃ j, ixN ds.length k = some j ∧ E.nx δ (M3.set n (.lst (ds.set j d)))
theorem DenL.setAt {av : Addr → Prop} {H : Hp} {v : V} {d : Dt} (h : Den av H v d) : ∀ {xs : List V} {ds : List Dt} (n : Nat), DenL av H xs ds → DenL av H (xs.set n v) (ds.set n d)
  | _, _, _, .nil => .nil
  | _, _, 0, .cons a b => .cons h b
  | _, _, n + 1, .cons a b => .cons a (DenL.setAt h n b)
theorem v_setIx {o i : Expr} {wo wi : WE} {tpos : Pos} (he : VE X e we) (ho : VE X o wo) (hi : VE X i wi)
    (pc : ∀ {te to ti : TE}, PE X e te → PE X o to → PE X i ti → PS X (.Assign [.Subscript o i tpos] e pos) (tAsg te (gSub to ti rSetL)) := by exact fun he ho hi => ps_asg he (pg_sub ho hi set_list)) : VS X EX (.Assign [.Subscript o i tpos] e pos) (wSetIx we wo wi) := by
  refine ⟨PS.imp (pc he.pe ho.pe hi.pe) ?_, fun E E' δ M h q => he.mono _ _ _ _ (fun r M1 => asV_mono fun d => ho.mono _ _ _ _ fun ro M2 => hi.mono _ _ _ _ fun ri M3 => asInt_mono fun k => asO_mono fun n ds ⟨j, e, q⟩ => ⟨j, e, h.nx _ _ q⟩) q⟩
  rintro D σ H ⟨C, δ, M, τ, rel, q⟩
  refine ⟨C, δ, M, τ, rel, he.mono _ _ _ _ (fun r M1 q v H1 rel1 => ?_) q⟩
  obtain ⟨d, rfl, q⟩ := asV_ok q
  refine ⟨C, δ, M1, _, rel1, ho.mono _ _ _ _ (fun ro M2 q vo H2 rel2 => ?_) q⟩
  refine ⟨C, δ, M2, _, rel2, hi.mono _ _ _ _ (fun ri M3 q vi H3 rel3 => ?_) q⟩
  obtain ⟨k, rfl, q⟩ := asInt_ok q
  obtain ⟨n, ds, rfl, em, j, ej, q⟩ := asO_ok q
  have ek := rel_int (v := vi) rel3 List.mem_cons_self
  subst ek
  obtain ⟨ad, r3⟩ := rel3
  obtain ⟨ys, hn, rfl, e1, l⟩ := r3.own1 (List.mem_cons_of_mem _ List.mem_cons_self) em
  have dv : Den (avo ad M3.length C.hid) H3 v d := r3.tmp (v, .v d) (List.mem_cons_of_mem _ (List.mem_cons_of_mem _ List.mem_cons_self))
  refine ⟨_, ys, k, j, rfl, rfl, e1, by rw [l.length]; exact ej, q σ _ ?_⟩
  exact (show Rel C δ _ ((V.int k, Rs.v (.int k)) :: ((V.ref (ad n), Rs.o n) :: ((v, Rs.v d) :: τ))) σ _ from ⟨ad, r3.writeL hn e1 (l.setAt dv j)⟩).tail.tail.tail
end
end VL
set_option Elab.async false
set_option linter.all false
set_option maxRecDepth 100000
set_option maxHeartbeats 2000000
/-! VL7: dicts with int keys, isinstance, ranges as values, zip, enumerate over values. -/
namespace VL
open PySem PySem.Spec PyProof.Rows L2

/-! ### dicts with int keys -/
def getD (kvs : List (Int × Dt)) (k : Int) : Option Dt := (kvs.find? fun kv => decide (kv.1 = k)).map (·.2)
def putD (kvs : List (Int × Dt)) (k : Int) (d : Dt) : List (Int × Dt) :=
  if (kvs.any fun kv => decide (kv.1 = k)) = true then kvs.map (fun kv => if kv.1 = k then (kv.1, d) else kv) else kvs ++ [(k, d)]
theorem key_dec (a b : Int) : decide ((Sum.inl a : Key) = Sum.inl b) = decide (a = b) := by
  rw [Bool.eq_iff_iff, decide_eq_true_iff, decide_eq_true_iff]
  exact ⟨fun h => Sum.inl.inj h, fun h => by rw [h]⟩
theorem DenK.get {av : Addr → Prop} {H : Hp} (k : Int) : ∀ {xs : List (Key × V)} {kvs : List (Int × Dt)}, DenK av H xs kvs →
    (valV xs (.inl k) = none ∧ getD kvs k = none) ∨ ∃ v d, valV xs (.inl k) = some v ∧ getD kvs k = some d ∧ Den av H v d
  | _, _, .nil => .inl ⟨rfl, rfl⟩
  | (_, v) :: _, (n, d) :: kr, .cons a b => by
    by_cases e : n = k
    · subst e
      exact .inr ⟨v, d, valV_pos rfl, by simp [getD], a⟩
    · have e' : ¬ (Sum.inl n : Key) = Sum.inl k := fun z => e (Sum.inl.inj z)
      rw [valV_neg e']
      have h2 : getD ((n, d) :: kr) k = getD kr k := by simp [getD, List.find?_cons, e]
      rw [h2]
      exact DenK.get k b
theorem DenK.any {av : Addr → Prop} {H : Hp} (k : Int) : ∀ {xs : List (Key × V)} {kvs : List (Int × Dt)}, DenK av H xs kvs → (xs.any fun kv => decide (kv.1 = Sum.inl k)) = kvs.any fun kv => decide (kv.1 = k)
  | _, _, .nil => rfl
  | (_, v) :: _, (n, d) :: _, .cons a b => by rw [List.any_cons, List.any_cons, DenK.any k b, key_dec]
theorem DenK.append {av : Addr → Prop} {H : Hp} : ∀ {xs ys : List (Key × V)} {ks ls : List (Int × Dt)}, DenK av H xs ks → DenK av H ys ls → DenK av H (xs ++ ys) (ks ++ ls)
  | _, _, _, _, .nil, q => q
  | _, _, _, _, .cons a b, q => .cons a (DenK.append b q)
theorem DenK.put {av : Addr → Prop} {H : Hp} {xs : List (Key × V)} {kvs : List (Int × Dt)} (l : DenK av H xs kvs) (k : Int) {v : V} {d : Dt} (h : Den av H v d) : DenK av H (putK xs (.inl k) v) (putD kvs k d) := by
  unfold putK putD
  rw [l.any k]
  split
  · have all : ∀ {xs : List (Key × V)} {kvs : List (Int × Dt)}, DenK av H xs kvs → DenK av H (xs.map fun kv => if kv.1 = Sum.inl k then (kv.1, v) else kv) (kvs.map fun kv => if kv.1 = k then (kv.1, d) else kv) := by
      intro xs kvs l
      induction kvs generalizing xs with
      | nil => cases l; exact .nil
      | cons p kvs ih =>
        cases l with
        | cons a b =>
          rename_i n x w e
          rw [List.map_cons, List.map_cons]
          by_cases z : n = k
          · subst z
            rw [if_pos rfl, if_pos rfl]
            exact .cons h (ih b)
          · rw [if_neg (fun z' => z (Sum.inl.inj z')), if_neg z]
            exact .cons a (ih b)
    exact all l
  · exact l.append (.cons h .nil)
theorem DenK.length {av : Addr → Prop} {H : Hp} : ∀ {xs : List (Key × V)} {ks : List (Int × Dt)}, DenK av H xs ks → xs.length = ks.length
  | _, _, .nil => rfl
  | _, _, .cons _ b => by rw [List.length_cons, List.length_cons, DenK.length b]
@[reducible] def asD (r : Rs) (M : Me) (k : Nat → List (Int × Dt) → Prop) : Prop := match r with | .o n => (match M[n]? with | some (.di ds) => k n ds | _ => False) | _ => False
theorem asD_ok {r : Rs} {M : Me} {k : Nat → List (Int × Dt) → Prop} (q : asD r M k) : ∃ n ds, r = .o n ∧ M[n]? = some (.di ds) ∧ k n ds := by
  unfold asD at q
  split at q
  · split at q
    · exact ⟨_, _, rfl, by assumption, q⟩
    · exact q.elim
  · exact q.elim
theorem asD_mono {r : Rs} {M : Me} {k k' : Nat → List (Int × Dt) → Prop} (h : ∀ n ds, k n ds → k' n ds) (q : asD r M k) : asD r M k' := by
  unfold asD at q ⊢
  split at q
  · split at q
    · exact h _ _ q
    · exact q.elim
  · exact q.elim
theorem RelA.own2 {C : Fr} {ad : Nat → Addr} {δ : Sl} {M : Me} {τ : List (V × Rs)} {σ : St} {H : Hp} {v : V} {n : Nat} {ds : List (Int × Dt)} (r : RelA C ad δ M τ σ H) (hm : (v, Rs.o n) ∈ τ) (e : M[n]? = some (.di ds)) :
    ∃ xs, n < M.length ∧ v = .ref (ad n) ∧ H (ad n) = some (.dK xs) ∧ DenK (avo ad M.length C.hid) H xs ds := by
  obtain ⟨h1, h2⟩ := (show n < M.length ∧ v = .ref (ad n) from r.tmp _ hm)
  obtain ⟨xs, e1, l⟩ := r.mem n _ e
  exact ⟨xs, h1, h2, e1, l⟩
theorem RelA.writeD {C : Fr} {ad : Nat → Addr} {δ : Sl} {M : Me} {τ : List (V × Rs)} {σ : St} {H : Hp} {n : Nat} {xs ys : List (Key × V)} {es : List (Int × Dt)} (r : RelA C ad δ M τ σ H) (hn : n < M.length) (e : H (ad n) = some (.dK xs)) (l : DenK (avo ad M.length C.hid) H ys es) :
    RelA C ad δ (M.set n (.di es)) τ σ (upd H (ad n) (.dK ys)) := r.write hn (fun x => ⟨ys, upd_same, l.mono x⟩) fun zs z => by rw [e] at z; cases z
section
variable {X : Cx} {a b c e : Expr} {wa wb we : WE} {wt : WT} {pos : Pos} {EX : Hp → Prop} {es : List Expr} {ws : WA}
/-- {} -/
def wDictO : WE := fun _ M Q => Q (.o M.length) (M ++ [.di []])
theorem v_dict0 : VE X (.Dict [] [] pos) wDictO := by
  refine ⟨PE.imp pe_dnewK ?_, fun δ M Q Q' h q => h _ _ q⟩
  rintro σ H Q ⟨C, δ, M, τ, rel, q⟩ p hp
  exact q _ _ (rel.newOK hp fun _ _ => .nil)
/-- {k: v} -/
def wDict1 (wk wv : WE) : WE := fun δ M Q => wk δ (M ++ [.di []]) fun rk M1 => wv δ M1 fun rv M2 => asInt rk fun k => asV rv fun d => asD (.o M.length) M2 fun n kvs => kvs = [] ∧ Q (.o n) (M2.set n (.di [(k, d)]))
theorem v_dict1 {k v : Expr} {wk wv : WE} (hk : VE X k wk) (hv : VE X v wv) : VE X (.Dict [some k] [v] pos) (wDict1 wk wv) := by
  refine ⟨PE.imp (pe_disp (pps_cons hk.pe hv.pe pps_nil) rfl rfl (fun z => by cases z) (by show 1 ≤ 15; decide)) ?_, fun δ M Q Q' h q => hk.mono _ _ _ _ (fun rk M1 => hv.mono _ _ _ _ fun rv M2 => asInt_mono fun k => asV_mono fun d => asD_mono fun n kvs q => ⟨q.1, h _ _ q.2⟩) q⟩
  rintro σ H Q ⟨C, δ, M, τ, rel, q⟩ p hp
  have rel0 := rel.newOK (xs := []) (ds := []) hp fun _ _ => .nil
  refine ⟨C, δ, _, _, rel0, hk.mono _ _ _ _ (fun rk M1 q xk H1 rel1 => ?_) q⟩
  refine ⟨C, δ, M1, _, rel1, hv.mono _ _ _ _ (fun rv M2 q xv H2 rel2 => ?_) q⟩
  obtain ⟨k, ek, q1⟩ := asInt_ok q
  obtain ⟨d, ed, q2⟩ := asV_ok q1
  obtain ⟨n, kvs, en, em, ev, q3⟩ := asD_ok q2
  cases en
  subst ek ed ev
  have e1 := rel_int (v := xk) rel2 (List.mem_cons_of_mem _ List.mem_cons_self)
  subst e1
  obtain ⟨ad, r2⟩ := rel2
  obtain ⟨xs, hn, ep, e1, l⟩ := r2.own2 (v := .ref p) (List.mem_cons_of_mem _ (List.mem_cons_of_mem _ List.mem_cons_self)) em
  cases l
  have ep : p = ad M.length := V.ref.inj ep
  have dv : Den (avo ad M2.length C.hid) H2 xv d := r2.tmp (xv, .v d) List.mem_cons_self
  refine ⟨by rw [ep]; exact e1, [(.inl k, xv)], rfl, (by show 1 ≤ 15; decide), q3 _ _ ?_⟩
  have r3 := r2.writeD (ys := mergeK [] [(.inl k, xv)]) hn e1 (.cons dv .nil)
  rw [← ep] at r3
  exact ⟨ad, r3.sub fun x hx => by
    rcases List.mem_cons.mp hx with rfl | hx
    · exact ⟨by rw [List.length_set]; exact hn, by rw [ep]⟩
    · exact r3.tmp x (List.mem_cons_of_mem _ (List.mem_cons_of_mem _ (List.mem_cons_of_mem _ hx)))⟩
/-- d[k], d an owned dict -/
def wDGet (wd wk : WE) : WE := fun δ M Q => wd δ M fun rd M1 => wk δ M1 fun rk M2 => asInt rk fun k => asD rd M2 fun _ kvs => ∃ d, getD kvs k = some d ∧ Q (.v d) M2
theorem v_dget (hu : X.A.units + 1 < cLine) (hd : VE X a wa) (hk : VE X b wb) (hs : NoSl b := by exact fun _ _ => rfl) : VE X (.Subscript a b pos) (wDGet wa wb) := by
  refine ⟨PE.imp (pe_dget hu hd.pe hk.pe hs) ?_, fun δ M Q Q' h q => hd.mono _ _ _ _ (fun rk M1 => hk.mono _ _ _ _ fun rv M2 => asInt_mono fun k => asD_mono fun n kvs ⟨d, e, q⟩ => ⟨d, e, h _ _ q⟩) q⟩
  rintro σ H Q ⟨C, δ, M, τ, rel, q⟩
  refine ⟨C, δ, M, τ, rel, hd.mono _ _ _ _ (fun rr M1 q xd H1 rel1 => ?_) q⟩
  refine ⟨C, δ, M1, _, rel1, hk.mono _ _ _ _ (fun rk M2 q xk H2 rel2 => ?_) q⟩
  obtain ⟨k, rfl, q⟩ := asInt_ok q
  obtain ⟨n, kvs, rfl, em, d, ed, q⟩ := asD_ok q
  have e1 := rel_int (v := xk) rel2 List.mem_cons_self
  subst e1
  obtain ⟨ad, r2⟩ := rel2
  obtain ⟨xs, hn, rfl, e1, l⟩ := r2.own2 (v := xd) (List.mem_cons_of_mem _ List.mem_cons_self) em
  rcases l.get k with ⟨_, h2⟩ | ⟨v, d', h1, h2, h3⟩
  · rw [ed] at h2; cases h2
  · rw [ed] at h2
    cases h2
    refine ⟨_, v, rfl, ?_, q _ _ (Rel.val r2 h3)⟩
    rw [← h1]
    exact DGet.k (k := .inl k) e1
/-- k not in d -/
def wDNot (wk wd : WE) : WE := fun δ M Q => wk δ M fun rk M1 => wd δ M1 fun rd M2 => asInt rk fun k => asD rd M2 fun _ kvs => Q (.v (.bl (!(getD kvs k).isSome))) M2
theorem dnot_mono (hk : VE X a wa) (hd : VE X b wb) : ∀ δ M Q Q', (∀ r M', Q r M' → Q' r M') → wDNot wa wb δ M Q → wDNot wa wb δ M Q' := fun δ M Q Q' h q => hk.mono _ _ _ _ (fun rk M1 => hd.mono _ _ _ _ fun rv M2 => asInt_mono fun k => asD_mono fun n kvs q => h _ _ q) q
theorem dnot_link (hk : VE X a wa) (hd : VE X b wb) : ∀ σ H Q, rd (wDNot wa wb) σ H Q → tDNotIn (rd wa) (rd wb) σ H Q := by
  rintro σ H Q ⟨C, δ, M, τ, rel, q⟩
  refine ⟨C, δ, M, τ, rel, hk.mono _ _ _ _ (fun rr M1 q xk H1 rel1 => ?_) q⟩
  refine ⟨C, δ, M1, _, rel1, hd.mono _ _ _ _ (fun rk M2 q xd H2 rel2 => ?_) q⟩
  obtain ⟨k, rfl, q⟩ := asInt_ok q
  obtain ⟨n, kvs, rfl, em, q⟩ := asD_ok q
  have e1 := rel_int (v := xk) rel2 (List.mem_cons_of_mem _ List.mem_cons_self)
  subst e1
  obtain ⟨ad, r2⟩ := rel2
  obtain ⟨xs, hn, rfl, e1, l⟩ := r2.own2 (v := xd) List.mem_cons_self em
  refine ⟨_, _, rfl, DGet.k (k := .inl k) e1, ?_⟩
  have : (valV xs (.inl k)).isSome = (getD kvs k).isSome := by
    rcases l.get k with ⟨h1, h2⟩ | ⟨v, d', h1, h2, h3⟩
    · rw [h1, h2]; rfl
    · rw [h1, h2]; rfl
  rw [this]
  exact q _ _ (Rel.val r2 (.bl _))
theorem vt_dnot (hu : X.A.units + 1 < cLine) (hk : VE X a wa) (hd : VE X b wb) (hm : behindInMarks .NotIn b = false := by rfl) : VT X (.Compare a [.NotIn] [b] pos) (wTest (wDNot wa wb)) := by
  refine ⟨PT.imp (pt_cmp (pc_dnotin hu hk.pe hd.pe) hm) ?_, fun δ M Q Q' h q => dnot_mono hk hd _ _ _ _ (fun r M1 q1 => asBl_mono (fun b => h b M1) q1) q⟩
  rintro σ H Q ⟨C, δ, M, τ, rel, q⟩
  refine dnot_link hk hd σ H _ ⟨C, δ, M, τ, rel, dnot_mono hk hd _ _ _ _ (fun rr M1 q1 v H' rel' => ?_) q⟩
  obtain ⟨b, rfl, q2⟩ := asBl_ok q1
  exact ⟨b, rel_bl rel', q2 H' rel'.tail⟩
/-- d[k] = v -/
def wDPut (wv wd wk : WE) : WS := fun E δ M => wv δ M fun rv M1 => wd δ M1 fun rd M2 => wk δ M2 fun rk M3 => asInt rk fun k => asV rv fun d => asD rd M3 fun n kvs => kvs.length ≤ 1000 ∧ E.nx δ (M3.set n (.di (putD kvs k d)))
theorem v_dput {wv wd wk : WE} {o i value : Expr} {pos' : Pos} (hu : X.A.units + 1 < cLine) (hv : VE X value wv) (hd : VE X o wd) (hk : VE X i wk) (hs : swapsWith value (some (.Subscript o i pos')) pos.line X.env = pure false := by rfl) : VS X EX (.Assign [.Subscript o i pos'] value pos) (wDPut wv wd wk) := by
  refine ⟨PS.imp (ps_dput hu hd.pe hk.pe hv.pe hs) ?_, fun E E' δ M h q => hv.mono _ _ _ _ (fun rv M1 => hd.mono _ _ _ _ fun rd M2 => hk.mono _ _ _ _ fun rk M3 => asInt_mono fun k => asV_mono fun d => asD_mono fun n kvs q => ⟨q.1, h.nx _ _ q.2⟩) q⟩
  rintro D σ H ⟨C, δ, M, τ, rel, q⟩
  refine ⟨C, δ, M, τ, rel, hv.mono _ _ _ _ (fun rv M1 q xv H1 rel1 => ?_) q⟩
  refine ⟨C, δ, M1, _, rel1, hd.mono _ _ _ _ (fun rr M2 q xd H2 rel2 => ?_) q⟩
  refine ⟨C, δ, M2, _, rel2, hk.mono _ _ _ _ (fun rk M3 q xk H3 rel3 => ?_) q⟩
  obtain ⟨k, rfl, q⟩ := asInt_ok q
  obtain ⟨d, rfl, q⟩ := asV_ok q
  obtain ⟨n, kvs, rfl, em, hz, q⟩ := asD_ok q
  have e1 := rel_int (v := xk) rel3 List.mem_cons_self
  subst e1
  obtain ⟨ad, r3⟩ := rel3
  obtain ⟨xs, hn, rfl, e1, l⟩ := r3.own2 (v := xd) (List.mem_cons_of_mem _ List.mem_cons_self) em
  have dv : Den (avo ad M3.length C.hid) H3 xv d := r3.tmp (xv, .v d) (List.mem_cons_of_mem _ (List.mem_cons_of_mem _ List.mem_cons_self))
  refine ⟨_, _, rfl, DPut.k (k := .inl k) e1 (by rw [l.length]; exact small1000 hz), q σ _ ?_⟩
  exact (show Rel C δ _ ((V.int k, Rs.v (.int k)) :: ((V.ref (ad n), Rs.o n) :: ((xv, Rs.v d) :: τ))) σ _ from ⟨ad, r3.writeD hn e1 (l.put k dv)⟩).tail.tail.tail

/-! ### isinstance -/
def typeD : Dt → String
  | .non => "NoneType" | .bl _ => "bool" | .int _ => "int" | .str _ => "str" | .tup _ => "tuple" | .lst _ => "list" | .di _ => "dict" | .dt _ => "dict" | .tpl _ => "tuple"
theorem den_ty {K : PySem.W.Frag} {av : Addr → Prop} {H : Hp} {v : V} {d : Dt} (h : Den av H v d) : TyX K H v (.type (typeD d)) := by
  cases h with
  | non => exact .base .non
  | bl b => exact .base (.bl b)
  | int i => exact .base (.int i)
  | str s => exact .base (.str s)
  | tup e _ => exact .base (.tup e)
  | tpf _ _ e _ => exact .fTuple e
  | tpl _ _ e _ => exact .fTuple e
  | lst _ e _ => exact .base (.lst e)
  | di _ e _ => exact .base (.dK e)
  | dt _ e _ => exact .base (.dT e)
def isTup : Dt → Bool
  | .tup _ => true
  | .tpl _ => true
  | _ => false
def isLst : Dt → Bool
  | .lst _ => true
  | _ => false
def isBl : Dt → Bool
  | .bl _ => true
  | _ => false
def isStr : Dt → Bool
  | .str _ => true
  | _ => false
def isInt : Dt → Bool
  | .int _ => true
  | .bl _ => true
  | _ => false
def IsiT (T : String) (f : Dt → Bool) : Prop := ∀ d, kitB (typeD d) T = some (f d)
theorem isi_tup : IsiT "tuple" isTup
  | .non => (by decide +kernel : kitB "NoneType" "tuple" = some false)
  | .bl _ => (by decide +kernel : kitB "bool" "tuple" = some false)
  | .int _ => (by decide +kernel : kitB "int" "tuple" = some false)
  | .str _ => (by decide +kernel : kitB "str" "tuple" = some false)
  | .tup _ => (by decide +kernel : kitB "tuple" "tuple" = some true)
  | .lst _ => (by decide +kernel : kitB "list" "tuple" = some false)
  | .di _ => (by decide +kernel : kitB "dict" "tuple" = some false)
  | .dt _ => (by decide +kernel : kitB "dict" "tuple" = some false)
  | .tpl _ => (by decide +kernel : kitB "tuple" "tuple" = some true)
theorem isi_lst : IsiT "list" isLst
  | .non => (by decide +kernel : kitB "NoneType" "list" = some false)
  | .bl _ => (by decide +kernel : kitB "bool" "list" = some false)
  | .int _ => (by decide +kernel : kitB "int" "list" = some false)
  | .str _ => (by decide +kernel : kitB "str" "list" = some false)
  | .tup _ => (by decide +kernel : kitB "tuple" "list" = some false)
  | .lst _ => (by decide +kernel : kitB "list" "list" = some true)
  | .di _ => (by decide +kernel : kitB "dict" "list" = some false)
  | .dt _ => (by decide +kernel : kitB "dict" "list" = some false)
  | .tpl _ => (by decide +kernel : kitB "tuple" "list" = some false)
theorem isi_bl : IsiT "bool" isBl
  | .non => (by decide +kernel : kitB "NoneType" "bool" = some false)
  | .bl _ => (by decide +kernel : kitB "bool" "bool" = some true)
  | .int _ => (by decide +kernel : kitB "int" "bool" = some false)
  | .str _ => (by decide +kernel : kitB "str" "bool" = some false)
  | .tup _ => (by decide +kernel : kitB "tuple" "bool" = some false)
  | .lst _ => (by decide +kernel : kitB "list" "bool" = some false)
  | .di _ => (by decide +kernel : kitB "dict" "bool" = some false)
  | .dt _ => (by decide +kernel : kitB "dict" "bool" = some false)
  | .tpl _ => (by decide +kernel : kitB "tuple" "bool" = some false)
theorem isi_str : IsiT "str" isStr
  | .non => (by decide +kernel : kitB "NoneType" "str" = some false)
  | .bl _ => (by decide +kernel : kitB "bool" "str" = some false)
  | .int _ => (by decide +kernel : kitB "int" "str" = some false)
  | .str _ => (by decide +kernel : kitB "str" "str" = some true)
  | .tup _ => (by decide +kernel : kitB "tuple" "str" = some false)
  | .lst _ => (by decide +kernel : kitB "list" "str" = some false)
  | .di _ => (by decide +kernel : kitB "dict" "str" = some false)
  | .dt _ => (by decide +kernel : kitB "dict" "str" = some false)
  | .tpl _ => (by decide +kernel : kitB "tuple" "str" = some false)
theorem isi_int : IsiT "int" isInt
  | .non => (by decide +kernel : kitB "NoneType" "int" = some false)
  | .bl _ => (by decide +kernel : kitB "bool" "int" = some true)
  | .int _ => (by decide +kernel : kitB "int" "int" = some true)
  | .str _ => (by decide +kernel : kitB "str" "int" = some false)
  | .tup _ => (by decide +kernel : kitB "tuple" "int" = some false)
  | .lst _ => (by decide +kernel : kitB "list" "int" = some false)
  | .di _ => (by decide +kernel : kitB "dict" "int" = some false)
  | .dt _ => (by decide +kernel : kitB "dict" "int" = some false)
  | .tpl _ => (by decide +kernel : kitB "tuple" "int" = some false)
def wIsi (f : Dt → Bool) (we : WE) : WE := fun δ M Q => we δ M fun r M1 => asV r fun d => Q (.v (.bl (f d))) M1
theorem v_isi {T : Str} {Ts : String} {f : Dt → Bool} {p pT : Pos} (hf : IsiT Ts f) (mi : X.mg "isinstance" = none) (mT : X.mg T = none) (he : VE X e we) (hT : bootBuiltins T = some (.type Ts) := by decide +kernel) (gT : Gl X T := by rfl) (hn : T ≠ "__name__" := by decide) (hdb : (T == ("__debug__" : Str)) = false := by decide)
    (pc : ∀ {r : List V → Hp → VK → Prop} {t : TA}, CallR X (.builtin "isinstance") r → PA X [e, .Name T pT] t → PE X (.Call (.Name "isinstance" p) [e, .Name T pT] [] pos) (tCB r t) := by exact fun hc ha => pe_callB hc (by rfl) (by assumption) (by decide +kernel) ha)
    (hs : starEach (e :: [.Name T pT]) X.env = (false, eval e X.env) :: starEach [.Name T pT] X.env := by rfl) :
    VE X (.Call (.Name "isinstance" p) [e, .Name T pT] [] pos) (wIsi f we) := by
  refine ⟨PE.imp (pc call_isi (pa_cons he.pe (pa_cons (pe_bltn (v := .ty Ts) gT mT hT rfl hn hdb) pa_nil) hs)) ?_, fun δ M Q Q' h q => he.mono _ _ _ _ (fun r M1 => asV_mono fun d => h _ _) q⟩
  rintro σ H Q ⟨C, δ, M, τ, rel, q⟩
  refine ⟨C, δ, M, τ, rel, he.mono _ _ _ _ (fun r M1 q v H1 rel1 => ?_) q⟩
  obtain ⟨d, rfl, q⟩ := asV_ok q
  obtain ⟨ad, r1⟩ := rel1
  have dv : Den (avo ad M1.length C.hid) H1 v d := r1.tmp (v, .v d) List.mem_cons_self
  exact ⟨v, .ty Ts, _, _, f d, rfl, .ty Ts, den_ty dv, kit_ty (hf d), q _ H1 (Rel.of1 r1 (.bl _))⟩
theorem v_isi2 {T1 T2 : Str} {Ts1 Ts2 : String} {f1 f2 : Dt → Bool} {p pT pU pt : Pos} {kt : Nat} (hf1 : IsiT Ts1 f1) (hf2 : IsiT Ts2 f2) (mi : X.mg "isinstance" = none) (mT1 : X.mg T1 = none) (mT2 : X.mg T2 = none) (he : VE X e we) (hT1 : bootBuiltins T1 = some (.type Ts1) := by decide +kernel) (hT2 : bootBuiltins T2 = some (.type Ts2) := by decide +kernel)
    (gT1 : Gl X T1 := by rfl) (gT2 : Gl X T2 := by rfl) (hn1 : T1 ≠ "__name__" := by decide) (hn2 : T2 ≠ "__name__" := by decide) (hdb1 : (T1 == ("__debug__" : Str)) = false := by decide) (hdb2 : (T2 == ("__debug__" : Str)) = false := by decide)
    (pc : ∀ {r : List V → Hp → VK → Prop} {t : TA}, CallR X (.builtin "isinstance") r → PA X [e, .Tuple [.Name T1 pT, .Name T2 pU] kt pt] t → PE X (.Call (.Name "isinstance" p) [e, .Tuple [.Name T1 pT, .Name T2 pU] kt pt] [] pos) (tCB r t) := by exact fun hc ha => pe_callB hc (by rfl) (by assumption) (by decide +kernel) ha)
    (hs : starEach (e :: [.Tuple [.Name T1 pT, .Name T2 pU] kt pt]) X.env = (false, eval e X.env) :: starEach [.Tuple [.Name T1 pT, .Name T2 pU] kt pt] X.env := by rfl) :
    VE X (.Call (.Name "isinstance" p) [e, .Tuple [.Name T1 pT, .Name T2 pU] kt pt] [] pos) (wIsi (fun d => f1 d || f2 d) we) := by
  refine ⟨PE.imp (pc call_isiT (pa_cons he.pe (pa_cons (pe_tup (pa_cons (pe_bltn (v := .ty Ts1) gT1 mT1 hT1 rfl hn1 hdb1) (pa_cons (pe_bltn (v := .ty Ts2) gT2 mT2 hT2 rfl hn2 hdb2) pa_nil))) pa_nil) hs)) ?_, fun δ M Q Q' h q => he.mono _ _ _ _ (fun r M1 => asV_mono fun d => h _ _) q⟩
  rintro σ H Q ⟨C, δ, M, τ, rel, q⟩
  refine ⟨C, δ, M, τ, rel, he.mono _ _ _ _ (fun r M1 q v H1 rel1 => ?_) q⟩
  obtain ⟨d, rfl, q⟩ := asV_ok q
  refine ⟨by show 2 ≤ sizeLine; decide, fun tp htp => ?_⟩
  have s : Same H1 (upd H1 tp (.tup [.ty Ts1, .ty Ts2])) := fun b x e => by rw [upd_ne (ne_of_none e htp)]; exact e
  obtain ⟨ad, r0⟩ := rel1
  have r1 := r0.same s
  have dv : Den (avo ad M1.length C.hid) _ v d := r1.tmp (v, .v d) List.mem_cons_self
  refine ⟨v, tp, [.ty Ts1, .ty Ts2], _, [.type Ts1, .type Ts2], f1 d || f2 d, rfl, upd_same, .cons (.ty Ts1) (.cons (.ty Ts2) .nil), den_ty dv, ?_, q _ _ (Rel.of1 r1 (.bl _))⟩
  refine kitAny_cons (kit_ty (hf1 d)) (fun e1 => kitAny_cons (kit_ty (hf2 d)) (fun e2 => ?_) fun e2 => ?_) fun e1 => ?_
  · rw [e1, e2]; exact kitAny_nil
  · rw [e1, e2]; rfl
  · rw [e1]; rfl

/-! ### ranges as values -/
theorem den_rg {av : Addr → Prop} {H : Hp} (lo : Int) : ∀ (l : List Nat), DenL av H (l.map fun i : Nat => V.int (lo + (i : Nat))) (l.map fun i : Nat => Dt.int (lo + (i : Nat)))
  | [] => .nil
  | i :: l => .cons (.int _) (den_rg lo l)
theorem sub_zero_toNat (n : Int) : (n - 0).toNat = n.toNat := by rw [Int.sub_zero]
def wTupRg (we : WE) : WE := fun δ M Q => we δ M fun r M1 => asInt r fun n => (0 ≤ n ∧ n ≤ 1000) ∧ Q (.v (.tup (rgD 0 n.toNat))) M1
theorem v_tupRg {p p2 pos2 : Pos} (hc : X.calm = true) (mt : X.mg "tuple" = none) (mr : X.mg "range" = none) (he : VE X e we) (gt : Gl X "tuple" := by rfl) (gr : Gl X "range" := by rfl) (na : starEach [e] X.env = (false, eval e X.env) :: starEach [] X.env := by rfl)
    (na2 : starEach [.Call (.Name "range" p2) [e] [] pos2] X.env = (false, eval (.Call (.Name "range" p2) [e] [] pos2) X.env) :: starEach [] X.env := by rfl) : VE X (.Call (.Name "tuple" p) [.Call (.Name "range" p2) [e] [] pos2] [] pos) (wTupRg we) := by
  refine ⟨PE.imp (pe_tupRg hc gt mt (prg_1 gr mr he.pe na) na2) ?_, fun δ M Q Q' h q => he.mono _ _ _ _ (fun r M1 => asInt_mono fun d q => ⟨q.1, h _ _ q.2⟩) q⟩
  rintro σ H Q ⟨C, δ, M, τ, rel, q⟩
  refine ⟨C, δ, M, τ, rel, he.mono _ _ _ _ (fun r M1 q v H1 rel1 => ?_) q⟩
  obtain ⟨n, rfl, ⟨h0, h1⟩, q⟩ := asInt_ok q
  have e1 := rel_int (v := v) rel1 List.mem_cons_self
  subst e1
  refine ⟨n, rfl, RgOk.of_le (by omega) (by omega) (by omega) h0, fun p hp => q _ _ ?_⟩
  obtain ⟨ad, r1⟩ := rel1
  have l : DenL (avo ad M1.length C.hid) H1 (rgV 0 n) (rgD 0 n.toNat) := by
    unfold rgV rgD
    rw [sub_zero_toNat]
    exact den_rg 0 _
  exact (Rel.pushT r1 hp l).drop2
def wLstRg (we : WE) : WE := fun δ M Q => we δ M fun r M1 => asInt r fun n => (0 ≤ n ∧ n ≤ 1000) ∧ Q (.v (.lst (rgD 0 n.toNat))) M1
theorem v_lstRg {p p2 pos2 : Pos} (hc : X.calm = true) (mt : X.mg "list" = none) (mr : X.mg "range" = none) (he : VE X e we) (gt : Gl X "list" := by rfl) (gr : Gl X "range" := by rfl) (na : starEach [e] X.env = (false, eval e X.env) :: starEach [] X.env := by rfl)
    (na2 : starEach [.Call (.Name "range" p2) [e] [] pos2] X.env = (false, eval (.Call (.Name "range" p2) [e] [] pos2) X.env) :: starEach [] X.env := by rfl) : VE X (.Call (.Name "list" p) [.Call (.Name "range" p2) [e] [] pos2] [] pos) (wLstRg we) := by
  refine ⟨PE.imp (pe_listRg hc gt mt (prg_1 gr mr he.pe na) na2) ?_, fun δ M Q Q' h q => he.mono _ _ _ _ (fun r M1 => asInt_mono fun d q => ⟨q.1, h _ _ q.2⟩) q⟩
  rintro σ H Q ⟨C, δ, M, τ, rel, q⟩
  refine ⟨C, δ, M, τ, rel, he.mono _ _ _ _ (fun r M1 q v H1 rel1 => ?_) q⟩
  obtain ⟨n, rfl, ⟨h0, h1⟩, q⟩ := asInt_ok q
  have e1 := rel_int (v := v) rel1 List.mem_cons_self
  subst e1
  refine ⟨n, rfl, RgOk.of_le (by omega) (by omega) (by omega) h0, fun p hp => q _ _ ?_⟩
  obtain ⟨ad, r1⟩ := rel1
  have l : DenL (avo ad M1.length C.hid) H1 (rgV 0 n) (rgD 0 n.toNat) := by
    unfold rgV rgD
    rw [sub_zero_toNat]
    exact den_rg 0 _
  exact (Rel.pushL r1 hp l).drop2

/-! ### zip, enumerate -/
def zipD (xs ys : List Dt) : List Dt := (xs.zip ys).map fun p => .tup [p.1, p.2]
theorem zipD_length {xs ys : List Dt} : (zipD xs ys).length = min xs.length ys.length := by unfold zipD; rw [List.length_map, List.length_zip]
theorem zipD_get {xs ys : List Dt} {i : Nat} {x y : Dt} (h1 : xs[i]? = some x) (h2 : ys[i]? = some y) : (zipD xs ys)[i]? = some (.tup [x, y]) := by
  unfold zipD
  rw [List.getElem?_map, (List.getElem?_zip_eq_some (z := (x, y))).mpr ⟨h1, h2⟩]
  rfl
theorem den_pair {av : Addr → Prop} {H : Hp} {T : Addr} {x y : V} {d e : Dt} (ht : ∀ a, av a → H a ≠ none) (hT : H T = none) (h1 : Den av H x d) (h2 : Den av H y e) : Same H (upd H T (.tup [x, y])) ∧ Den av (upd H T (.tup [x, y])) (.ref T) (.tup [d, e]) := by
  have s : Same H (upd H T (.tup [x, y])) := fun b o e => by rw [upd_ne (ne_of_none e hT)]; exact e
  exact ⟨s, .tup upd_same (.cons (h1.mono (Ext.same s)) (.cons (h2.mono (Ext.same s)) .nil))⟩
theorem den_tup' {av : Addr → Prop} {H : Hp} {v : V} {ds : List Dt} (h : Den av H v (.tup ds)) : ∃ a xs, v = .ref a ∧ Rd H a (.tup xs) ∧ DenL av H xs ds := by
  cases h with
  | tup e l => exact ⟨_, _, rfl, .inl e, l⟩
  | tpf n p e l => exact ⟨_, _, rfl, .inr ⟨_, e⟩, l⟩
theorem den_tupAt {ad : Nat → Addr} {m : Nat} {hid : Addr → Prop} {H : Hp} {a : Addr} {ds : List Dt} {srcs : List (V × Rs)} (h : ∀ p ∈ srcs, DenR ad m hid H p.1 p.2) (hm : (V.ref a, Rs.v (.tup ds)) ∈ srcs) : ∃ xs, Rd H a (.tup xs) ∧ DenL (avo ad m hid) H xs ds := by
  have h' : Den (avo ad m hid) H (.ref a) (.tup ds) := h _ hm
  cases h' with
  | tup e l => exact ⟨_, .inl e, l⟩
  | tpf n p e l => exact ⟨_, .inr ⟨_, e⟩, l⟩
theorem den_lstAt {ad : Nat → Addr} {m : Nat} {hid : Addr → Prop} {H : Hp} {a : Addr} {ds : List Dt} {srcs : List (V × Rs)} (h : ∀ p ∈ srcs, DenR ad m hid H p.1 p.2) (hm : (V.ref a, Rs.v (.lst ds)) ∈ srcs) : ∃ xs, H a = some (.lst xs) ∧ DenL (avo ad m hid) H xs ds := by
  have h' : Den (avo ad m hid) H (.ref a) (.lst ds) := h _ hm
  cases h' with
  | lst _ e l => exact ⟨_, e, l⟩
theorem walkD_zipT {K : PySem.W.Frag} {a b : Addr} {xs ys : List Dt} : WalkD (RZ.ItzT K a b) (zipD xs ys) [(.ref a, .v (.tup xs)), (.ref b, .v (.tup ys))] := by
  refine ⟨fun ad m hid i H hi h => ?_, fun ad m hid H h => ?_, fun ad m hid i H x H' h ht hi y => ?_⟩
  · obtain ⟨vs, e1, l1⟩ := den_tupAt h List.mem_cons_self
    obtain ⟨ws, e2, l2⟩ := den_tupAt h (List.mem_cons_of_mem _ List.mem_cons_self)
    rw [zipD_length] at hi
    have h1 := l1.length
    have h2 := l2.length
    exact ⟨vs, ws, vs[i]'(by omega), ws[i]'(by omega), (.inl e1), (.inl e2), by simp [show i < vs.length by omega], by simp [show i < ws.length by omega]⟩
  · obtain ⟨vs, e1, l1⟩ := den_tupAt h List.mem_cons_self
    obtain ⟨ws, e2, l2⟩ := den_tupAt h (List.mem_cons_of_mem _ List.mem_cons_self)
    have h1 := l1.length
    have h2 := l2.length
    refine ⟨vs, ws, (.inl e1), (.inl e2), ?_⟩
    rw [zipD_length]
    omega
  · obtain ⟨vs, e1, l1⟩ := den_tupAt h List.mem_cons_self
    obtain ⟨ws, e2, l2⟩ := den_tupAt h (List.mem_cons_of_mem _ List.mem_cons_self)
    obtain ⟨T, u, w, rfl, hT, rfl, f1, f2⟩ := y
    obtain ⟨d1, g1, k1⟩ := l1.get (f1 vs (.inl e1))
    obtain ⟨d2, g2, k2⟩ := l2.get (f2 ws (.inl e2))
    obtain ⟨s, dn⟩ := den_pair ht hT k1 k2
    exact ⟨_, zipD_get g1 g2, s, dn⟩
theorem walkD_zipL {K : PySem.W.Frag} {a b : Addr} {xs ys : List Dt} : WalkD (Itz K a b) (zipD xs ys) [(.ref a, .v (.lst xs)), (.ref b, .v (.lst ys))] := by
  refine ⟨fun ad m hid i H hi h => ?_, fun ad m hid H h => ?_, fun ad m hid i H x H' h ht hi y => ?_⟩
  · obtain ⟨vs, e1, l1⟩ := den_lstAt h List.mem_cons_self
    obtain ⟨ws, e2, l2⟩ := den_lstAt h (List.mem_cons_of_mem _ List.mem_cons_self)
    rw [zipD_length] at hi
    have h1 := l1.length
    have h2 := l2.length
    exact ⟨vs, ws, vs[i]'(by omega), ws[i]'(by omega), SqL.of e1, SqL.of e2, by simp [show i < vs.length by omega], by simp [show i < ws.length by omega]⟩
  · obtain ⟨vs, e1, l1⟩ := den_lstAt h List.mem_cons_self
    obtain ⟨ws, e2, l2⟩ := den_lstAt h (List.mem_cons_of_mem _ List.mem_cons_self)
    have h1 := l1.length
    have h2 := l2.length
    refine ⟨vs, ws, SqL.of e1, SqL.of e2, ?_⟩
    rw [zipD_length]
    omega
  · obtain ⟨vs, e1, l1⟩ := den_lstAt h List.mem_cons_self
    obtain ⟨ws, e2, l2⟩ := den_lstAt h (List.mem_cons_of_mem _ List.mem_cons_self)
    obtain ⟨T, u, w, rfl, hT, rfl, f1, f2⟩ := y
    obtain ⟨d1, g1, k1⟩ := l1.get (f1 vs (SqL.of e1))
    obtain ⟨d2, g2, k2⟩ := l2.get (f2 ws (SqL.of e2))
    obtain ⟨s, dn⟩ := den_pair ht hT k1 k2
    exact ⟨_, zipD_get g1 g2, s, dn⟩
@[reducible] def asZip (a b : Rs) (k : List Dt → List Dt → Prop) : Prop := match a, b with
  | .v (.tup xs), .v (.tup ys) => k xs ys
  | .v (.lst xs), .v (.lst ys) => k xs ys
  | _, _ => False
theorem asZip_mono {a b : Rs} {k k' : List Dt → List Dt → Prop} (h : ∀ x y, k x y → k' x y) (q : asZip a b k) : asZip a b k' := by
  unfold asZip at q ⊢
  split at q
  · exact h _ _ q
  · exact h _ _ q
  · exact q
def wZip (ws : WA) : WI := fun δ M Q => ws δ M fun rs M1 => as2 rs fun a b => asZip a b fun xs ys => Q (zipD xs ys) M1
theorem vi_zip {e2 : Expr} {p tpos : Pos} {elts : List Expr} {kk : Nat} (hm : X.mg "zip" = none) (ha : VA X [e, e2] ws) (hg : Gl X "zip" := by rfl)
    (hs : starEach [e, e2] X.env = (false, eval e X.env) :: starEach [e2] X.env := by rfl) (hpl : (backTo pos (starEach [e2] X.env)).any (·.1) = false := by rfl) : VI X (.Tuple elts kk tpos) (.Call (.Name "zip" p) [e, e2] [] pos) (wZip ws) := by
  refine ⟨PI.imp (RZ.pi_zipA hg hm ha.pa hs hpl) ?_, fun δ M Q Q' h q => ha.mono _ _ _ _ (fun rs M1 => as2_mono fun a b => asZip_mono fun x y => h _ _) q⟩
  rintro σ H R ⟨C, δ, M, τ, rel, q⟩
  refine ⟨C, δ, M, τ, rel, ha.mono _ _ _ _ (fun rs M1 q vs H1 hl rel1 => ?_) q⟩
  obtain ⟨ra, rb, ers, q2⟩ := as2_ok q
  subst ers
  obtain ⟨v, w, rfl⟩ := len2 hl
  obtain ⟨ad, r1⟩ := _root_.id rel1
  have h1 := r1.tmp (v, ra) List.mem_cons_self
  have h2 := r1.tmp (w, rb) (List.mem_cons_of_mem _ List.mem_cons_self)
  unfold asZip at q2
  split at q2
  · rename_i xs ys
    have h1 : Den (avo ad M1.length C.hid) H1 v (.tup xs) := h1
    have h2 : Den (avo ad M1.length C.hid) H1 w (.tup ys) := h2
    obtain ⟨a1, vs1, rfl, e1, l1⟩ := den_tup' h1
    obtain ⟨a2, vs2, rfl, e2, l2⟩ := den_tup' h2
    exact ⟨_, _, _, _, rfl, .inr ⟨.inl e1, .inl e2, q2 _ H1 _ rel1 walkD_zipT⟩⟩
  · rename_i xs ys
    have h1 : Den (avo ad M1.length C.hid) H1 v (.lst xs) := h1
    have h2 : Den (avo ad M1.length C.hid) H1 w (.lst ys) := h2
    cases h1 with
    | lst _ e1 l1 =>
      cases h2 with
      | lst _ e2 l2 => exact ⟨_, _, _, _, rfl, .inl ⟨SqL.of e1, SqL.of e2, q2 _ H1 _ rel1 walkD_zipL⟩⟩
  · exact q2.elim
def enumD (xs : List Dt) : List Dt := xs.zipIdx.map fun p => .tup [.int (p.2 : Nat), p.1]
theorem enumD_length {xs : List Dt} : (enumD xs).length = xs.length := by unfold enumD; rw [List.length_map, List.length_zipIdx]
theorem enumD_get {xs : List Dt} {i : Nat} {x : Dt} (h : xs[i]? = some x) : (enumD xs)[i]? = some (.tup [.int (i : Nat), x]) := by
  unfold enumD
  rw [List.getElem?_map, List.getElem?_zipIdx, h]
  simp
theorem walkD_enum {K : PySem.W.Frag} {a : Addr} {xs : List Dt} : WalkD (Ite K a) (enumD xs) [(.ref a, .v (.lst xs))] := by
  refine ⟨fun ad m hid i H hi h => ?_, fun ad m hid H h => ?_, fun ad m hid i H x H' h ht hi y => ?_⟩
  · obtain ⟨vs, e1, l1⟩ := den_lstAt h List.mem_cons_self
    rw [enumD_length] at hi
    have h1 := l1.length
    exact ⟨vs, vs[i]'(by omega), SqL.of e1, by simp [show i < vs.length by omega]⟩
  · obtain ⟨vs, e1, l1⟩ := den_lstAt h List.mem_cons_self
    have h1 := l1.length
    refine ⟨vs, SqL.of e1, ?_⟩
    rw [enumD_length]
    omega
  · obtain ⟨vs, e1, l1⟩ := den_lstAt h List.mem_cons_self
    obtain ⟨T, w, rfl, hT, rfl, f1⟩ := y
    obtain ⟨d1, g1, k1⟩ := l1.get (f1 vs (SqL.of e1))
    obtain ⟨s, dn⟩ := den_pair ht hT (.int (i : Nat)) k1
    exact ⟨_, enumD_get g1, s, dn⟩
def wEnum (ws : WA) : WI := fun δ M Q => ws δ M fun rs M1 => as1 rs fun r => asLst r fun xs => Q (enumD xs) M1
theorem vi_enum {p tpos : Pos} {elts : List Expr} {kk : Nat} (hm : X.mg "enumerate" = none) (ha : VA X [e] ws) (hg : Gl X "enumerate" := by rfl) (hs : starEach [e] X.env = [(false, eval e X.env)] := by rfl) : VI X (.Tuple elts kk tpos) (.Call (.Name "enumerate" p) [e] [] pos) (wEnum ws) := by
  refine ⟨PI.imp (pi_enum hg hm ha.pa hs) ?_, fun δ M Q Q' h q => ha.mono _ _ _ _ (fun rs M1 => as1_mono fun a => asLst_mono fun x => h _ _) q⟩
  rintro σ H R ⟨C, δ, M, τ, rel, q⟩
  refine ⟨C, δ, M, τ, rel, ha.mono _ _ _ _ (fun rs M1 q vs H1 hl rel1 => ?_) q⟩
  obtain ⟨ra, rfl, q⟩ := as1_ok q
  obtain ⟨xs, rfl, q⟩ := asLst_ok q
  obtain ⟨v, rfl⟩ := len1 hl
  obtain ⟨ad, r1⟩ := _root_.id rel1
  have h1 : Den (avo ad M1.length C.hid) H1 v (.lst xs) := r1.tmp (v, .v (.lst xs)) List.mem_cons_self
  cases h1 with
  | lst _ e1 l1 => exact ⟨_, _, rfl, SqL.of e1, q _ H1 [_] rel1 walkD_enum⟩
end
end VL
set_option Elab.async false
set_option linter.all false
set_option maxRecDepth 100000
set_option maxHeartbeats 2000000
/-! VL8: min and sorted of tuples of ints; tuple * 1; an own class raised without arguments. -/
namespace VL
open PySem PySem.Spec PyProof.Rows L2

/-! ### min of a list of tuples of ints -/
def minT (n : List Int) (r : List (List Int)) : List Int := r.foldl (fun a y => if y < a then y else a) n
abbrev tD (ns : List Int) : PyData := .tuple (ns.map .int)
theorem dataLt_tI (xs ys : List Int) : PySem.W.dataLt (tD xs) (tD ys) = decide (xs < ys) := by
  rw [PySem.W.dataLt_tuple]
  exact PySem.W.dataLt_ints xs ys
theorem minD_tI : ∀ (r : List (List Int)) (n : List Int), PySem.W.minD (tD n) (r.map tD) = tD (minT n r)
  | [], n => rfl
  | y :: r, n => by
    have ih := minD_tI r (if y < n then y else n)
    unfold PySem.W.minD minT at ih ⊢
    rw [List.map_cons, List.foldl_cons, List.foldl_cons, ← ih]
    congr 1
    show (if PySem.W.dataLt (tD y) (tD n) = true then tD y else tD n) = _
    rw [dataLt_tI]
    by_cases h : y < n
    · rw [if_pos (decide_eq_true h), if_pos h]
    · rw [if_neg (by simpa using h), if_neg h]
theorem alike_tI (xs ys : List Int) : PySem.W.alike (tD xs) (tD ys) = true := by
  unfold PySem.W.alike
  exact PySem.W.alike_ints xs ys
theorem ints_map_inj : ∀ {xs ys : List Int}, xs.map PyData.int = ys.map PyData.int → xs = ys
  | [], [], _ => rfl
  | [], _ :: _, h => by cases h
  | _ :: _, [], h => by cases h
  | x :: xs, y :: ys, h => by
    rw [List.map_cons, List.map_cons] at h
    obtain ⟨h1, h2⟩ := List.cons.inj h
    rw [PyData.int.inj h1, ints_map_inj h2]
theorem tD_inj {xs ys : List Int} (h : tD xs = tD ys) : xs = ys := ints_map_inj (PyData.tuple.inj h)
theorem tD_depth (ns : List Int) : (tD ns).depth = 1 := by
  show PyData.depth (.tuple (ns.map .int)) = 1
  rw [PyData.depth, depth_ints]
theorem tDs_depth (nss : List (List Int)) : PyData.depthAll (nss.map tD) ≤ 1 := depth_tIs nss
section
variable {X : Cx}
def rMinT (K : PySem.W.Frag) : List V → Hp → VK → Prop := fun vs H Q => ∃ (a : Addr) (xs : List V) (n : List Int) (r : List (List Int)), vs = [V.ref a] ∧ SqL K H a xs ∧ DpAll K H xs ((n :: r).map tD) ∧
  ∀ (i : Nat) (x : V), xs[i]? = some x → (n :: r)[i]? = some (minT n r) → Q x H
theorem reads_tI {h : Heap} {v : Value} {ns ms : List Int} {as bs : List Addr} (h1 : Reads h v (tD ns) as) (h2 : Reads h v (tD ms) bs) : ns = ms := by
  have e := (PyProof.Rows.reads_det (fun _ _ e _ => e) h1 h2).1
  exact (tD_inj e).symm
theorem cr_minT (hc : X.calm = true) (hu : X.A.units + 2 < cLine) : CallR X (.builtin "min") (rMinT X.K) := by
  intro pins s σ H vs us Q I r h
  obtain ⟨a, xs, n, nr, rfl, hs, hd, q⟩ := h
  obtain ⟨its, rv, hl, hz⟩ := I.list hs
  rw [Vals.ref1 r]
  obtain ⟨as, hr⟩ := Dp.readsAll I _ _ its hd rv
  refine PySem.W.min_list_data (x := tD n) (xs := nr.map tD) (as := as) (I.ok.hd hc) hl.isList (by simpa using hr) ⟨fun x hx y hy => ?_, fun x hx => ?_⟩ (by have := tDs_depth (n :: nr); rw [List.map_cons] at this; omega) fun i v h' tk bs hv hrd hk => ?_
  · rw [← List.map_cons] at hx hy
    obtain ⟨x', _, rfl⟩ := List.mem_map.mp hx
    obtain ⟨y', _, rfl⟩ := List.mem_map.mp hy
    exact alike_tI _ _
  · rw [← List.map_cons] at hx
    obtain ⟨x', _, rfl⟩ := List.mem_map.mp hx
    intro z
    cases z
  · have hv' : its[i]? = some v := by simpa using hv
    have hi : i < its.length := (List.getElem?_eq_some_iff.mp hv').1
    have hix : i < xs.length := by rw [rv.length]; exact hi
    obtain ⟨u, eu, ru⟩ := Vals.get rv (List.getElem?_eq_getElem hix)
    rw [hv'] at eu
    cases eu
    have hlen : its.length = (n :: nr).length := by
      have := SeqAt.ReadsAll.length _ _ _ hr
      rw [List.length_map] at this
      exact this
    obtain ⟨bs', r1, _⟩ := PySem.W.readsAll_at hr i v hv'
    have hin : i < (n :: nr).length := by omega
    have e1 : (((n :: nr).map tD).getD i .none) = tD (n :: nr)[i] := by
      rw [List.getD_eq_getElem?_getD, List.getElem?_map, List.getElem?_eq_getElem hin]
      rfl
    rw [e1] at r1
    rw [minD_tI] at hrd
    have e2 := reads_tI (Reads.keeps hk r1) hrd
    exact ⟨xs[i], H, I.kept hk, ru, q i _ (List.getElem?_eq_getElem hix) (by rw [List.getElem?_eq_getElem hin, e2])⟩
def oMinT : WC := fun rs M Q => as1 rs fun r => contL r M fun ds => ∃ (n : List Int) (nr : List (List Int)), ds = (n :: nr).map tI ∧ Q (.v (tI (minT n nr))) M
theorem vc_minT (hc : X.calm = true) (hu : X.A.units + 2 < cLine) : VCall X (.builtin "min") oMinT := by
  refine vcall1 (o := fun r M Q => contL r M fun ds => ∃ (n : List Int) (nr : List (List Int)), ds = (n :: nr).map tI ∧ Q (.v (tI (minT n nr))) M) (cr_minT hc hu) (fun C ad δ M τ σ H x rr Q r q => ?_) fun rs M Q Q' hq q => contL_mono (fun ds ⟨n, nr, e, h⟩ => ⟨n, nr, e, hq _ _ h⟩) q
  obtain ⟨a, xs, ds, rfl, e, l, n, nr, rfl, q⟩ := r.lst List.mem_cons_self q
  refine ⟨a, xs, n, nr, rfl, SqL.of e, dpAll_tI l, fun i x h1 h2 => q _ H (Rel.of1 r ?_)⟩
  obtain ⟨d, e1, dn⟩ := l.get h1
  rw [List.getElem?_map, h2] at e1
  cases e1
  exact dn

/-! ### sorted of a list of tuples of ints, none empty -/
def sortT (nss : List (List Int)) : List (List Int) := nss.mergeSort fun p q => !decide (q < p)
def rSortTI (K : PySem.W.Frag) : List V → Hp → VK → Prop := fun vs H Q => ∃ (a : Addr) (xs : List V) (nss : List (List Int)), vs = [V.ref a] ∧ SqL K H a xs ∧ DpAll K H xs (nss.map tD) ∧ (∀ ns ∈ nss, ns ≠ []) ∧ nss.length ≤ 1000 ∧
  ∀ (p : Addr) (ys : List V), H p = none → Paired (fun y ns => ∃ i : Nat, xs[i]? = some y ∧ nss[i]? = some ns) ys (sortT nss) → Q (.ref p) (upd H p (.lst ys))
theorem each_of {R : Value → List Int → Prop} : ∀ {vs : List Value} {bs : List (List Int)}, vs.length = bs.length → (∀ (i : Nat) v b, vs[i]? = some v → bs[i]? = some b → R v b) → PySem.W.EachIs R vs bs
  | [], [], _, _ => .nil
  | v :: vs, b :: bs, hl, h => .cons (h 0 v b rfl rfl) (each_of (by simpa using hl) fun i v b h1 h2 => h (i + 1) v b (by simpa using h1) (by simpa using h2))
  | [], _ :: _, hl, _ => by simp at hl
  | _ :: _, [], hl, _ => by simp at hl
theorem out_of {xs : List V} {nss : List (List Int)} : ∀ {out : List Value} {bs : List (List Int)}, PySem.W.EachIs (fun v ns => ∃ (i : Nat) (y : V), xs[i]? = some y ∧ RelV y v ∧ nss[i]? = some ns) out bs →
    ∃ ys : List V, Vals ys out ∧ Paired (fun y ns => ∃ i : Nat, xs[i]? = some y ∧ nss[i]? = some ns) ys bs
  | _, _, .nil => ⟨[], .nil, .nil⟩
  | _, _, .cons ⟨i, y, h1, h2, h3⟩ t => by
    obtain ⟨ys, a, b⟩ := out_of t
    exact ⟨y :: ys, .cons h2 a, .cons ⟨i, h1, h3⟩ b⟩
theorem cr_sortTI (hu : X.A.units + 4 < cLine) : CallR X (.builtin "sorted") (rSortTI X.K) := by
  intro pins s σ H vs us Q I r h
  obtain ⟨a, xs, nss, rfl, hs, hd, hne, hz, q⟩ := h
  obtain ⟨its, rv, hl, hz'⟩ := I.list hs
  rw [Vals.ref1 r]
  obtain ⟨as, hr⟩ := Dp.readsAll I _ _ its hd rv
  have hlen : its.length = nss.length := by
    have := SeqAt.ReadsAll.length _ _ _ hr
    rw [List.length_map] at this
    exact this
  have hvl := rv.length
  refine PySem.W.sorted_data (vs := its) (bs := nss) (enc := tD) (R := fun v ns => ∃ (i : Nat) (y : V), xs[i]? = some y ∧ RelV y v ∧ nss[i]? = some ns) hl.isList (each_of hlen fun i v b h1 h2 => ?_) (PySem.W.readsAll_each tD hr) (PySem.W.AllAlike.of fun b b' => alike_tI b b') (.inl fun d hd => ?_) (Nat.le_of_lt (small1000 hz)) (fun b _ => by rw [tD_depth]; omega) fun out ho ho2 => ?_
  · have hi : i < xs.length := by
      have := (List.getElem?_eq_some_iff.mp h1).1
      omega
    obtain ⟨u, eu, ru⟩ := Vals.get rv (List.getElem?_eq_getElem hi)
    rw [h1] at eu
    cases eu
    exact ⟨i, _, List.getElem?_eq_getElem hi, ru, h2⟩
  · obtain ⟨ns, hm, rfl⟩ := List.mem_map.mp hd
    have := hne ns hm
    cases ns with
    | nil => exact absurd rfl this
    | cons n ns => exact ⟨.int n, ns.map .int, rfl⟩
  · have e : nss.mergeSort (PySem.W.dataLe false tD) = sortT nss := by
      unfold sortT
      congr 1
      funext p q
      rw [PySem.W.dataLe_eq]
      show (!PySem.W.dataLt (tD q) (tD p)) = _
      rw [dataLt_tI]
    rw [e] at ho2
    obtain ⟨ys, v1, v2⟩ := out_of ho2
    obtain ⟨ep, he'⟩ := PyProof.Rows.sortedAll_at s.heap its out.toArray
    have hl2 : ys.length ≤ sizeLine := by
      rw [v1.length, ho]
      exact Nat.le_of_lt (small1000 hz)
    exact ⟨.ref _, upd H (s.heap.objs.size + 1) (.lst ys), I.laid (t' := s.toks) (fun _ _ => PyProof.Rows.sortedAll_old) (Nat.le_succ _) ⟨hl2, out, ep, v1, by simpa using he'⟩, rfl, q _ ys (I.hok.fresh (Nat.le_succ _)) v2⟩
def oSortT : WC := fun rs M Q => as1 rs fun r => contL r M fun ds => ∃ nss : List (List Int), ds = nss.map tI ∧ (∀ ns ∈ nss, ns ≠ []) ∧ nss.length ≤ 1000 ∧ Q (.v (.lst ((sortT nss).map tI))) M
theorem vc_sortT (hu : X.A.units + 4 < cLine) : VCall X (.builtin "sorted") oSortT := by
  refine vcall1 (o := fun r M Q => contL r M fun ds => ∃ nss : List (List Int), ds = nss.map tI ∧ (∀ ns ∈ nss, ns ≠ []) ∧ nss.length ≤ 1000 ∧ Q (.v (.lst ((sortT nss).map tI))) M) (cr_sortTI hu) (fun C ad δ M τ σ H x rr Q r q => ?_) fun rs M Q Q' hq q => contL_mono (fun ds ⟨n, e, h1, h2, h⟩ => ⟨n, e, h1, h2, hq _ _ h⟩) q
  obtain ⟨a, xs, ds, rfl, e, l, nss, rfl, h1, h2, q⟩ := r.lst List.mem_cons_self q
  refine ⟨a, xs, nss, rfl, SqL.of e, dpAll_tI l, h1, h2, fun p ys hp hy => q _ _ (Rel.pushL r hp ?_).drop2⟩
  have all : ∀ {ys : List V} {bs : List (List Int)}, Paired (fun y ns => ∃ i : Nat, xs[i]? = some y ∧ nss[i]? = some ns) ys bs → DenL (avo ad M.length C.hid) H ys (bs.map tI) := by
    intro ys bs h
    induction h with
    | nil => exact .nil
    | cons r t ih =>
      obtain ⟨i, h1, h2⟩ := r
      obtain ⟨d, e1, dn⟩ := l.get h1
      rw [List.getElem?_map, h2] at e1
      cases e1
      exact .cons dn ih
  exact all hy
end
end VL
set_option Elab.async false
set_option linter.all false
set_option maxRecDepth 100000
set_option maxHeartbeats 2000000
/-! VL9: dict(pairs) with keys that are tuples of ints, of a list or of a plain tuple; d.get(k, e), d[k], k in d. -/
namespace VL
open PySem PySem.Spec PyProof.Rows L2

structure Pr where
  T : Addr
  b : Addr
  k : List Int
  y : V
section
variable {X : Cx}
def keyI (k : List Int) : List Key := k.map Sum.inl
theorem keyI_inj {a b : List Int} (h : keyI a = keyI b) : a = b := by
  unfold keyI at h
  induction a generalizing b with
  | nil => cases b with
    | nil => rfl
    | cons _ _ => cases h
  | cons x a ih => cases b with
    | nil => cases h
    | cons y b =>
      rw [List.map_cons, List.map_cons] at h
      obtain ⟨h1, h2⟩ := List.cons.inj h
      rw [Sum.inl.inj h1, ih h2]
theorem keyI_kV (k : List Int) : (keyI k).map kV = k.map V.int := by
  unfold keyI
  rw [List.map_map]
  rfl
def rDictT (K : PySem.W.Frag) : List V → Hp → VK → Prop := fun vs H Q => ∃ (a : Addr) (l : List Pr), vs = [V.ref a] ∧ (H a = some (.lst (l.map fun q => V.ref q.T)) ∨ ∃ ob : Obj, ob.dict = none ∧ H a = some (.frz ob (.tup (l.map fun q => V.ref q.T)))) ∧
  (∀ q ∈ l, Rd H q.T (.tup [.ref q.b, q.y]) ∧ H q.b = some (.tup (q.k.map V.int))) ∧ (l.map (·.k)).Nodup ∧ l.length ≤ 1000 ∧ ∀ p, H p = none → Q (.ref p) (upd H p (.dT (l.map fun q => (keyI q.k, q.y))))
theorem prs_of {pins : List (Addr × Obj)} {σ : St} {H : Hp} {s : Shared} (I : Inv X pins σ H s) : ∀ (l : List Pr), (∀ q ∈ l, Rd H q.T (.tup [.ref q.b, q.y]) ∧ H q.b = some (.tup (q.k.map V.int))) →
    ∃ us : List Value, us.length = l.length ∧ ∀ (j : Nat) (q : Pr), l[j]? = some q → ∃ u, us[j]? = some u ∧ IsTup s.heap q.T #[.ref q.b, u] ∧ RelV q.y u
  | [], _ => ⟨[], rfl, fun j q e => by simp at e⟩
  | q :: l, h => by
    obtain ⟨us, hl, hu⟩ := prs_of I l fun q hq => h q (List.mem_cons_of_mem _ hq)
    obtain ⟨h1, h2⟩ := h q List.mem_cons_self
    obtain ⟨its, rv, ht, _⟩ := I.tuple (.inl h1)
    obtain ⟨u, y, ei, ru, ry⟩ := vals2 rv
    subst ei
    cases ru
    refine ⟨y :: us, by rw [List.length_cons, List.length_cons, hl], fun j q' e => ?_⟩
    cases j with
    | zero =>
      cases e
      exact ⟨y, rfl, ht, ry⟩
    | succ j =>
      obtain ⟨u', e1, e2, e3⟩ := hu j q' (by simpa using e)
      exact ⟨u', by simpa using e1, e2, e3⟩
theorem storedAllH_new {K : Type} [DecidableEq K] : ∀ (ps acc : List (K × Addr × Value)), ((acc ++ ps).map (·.1)).Nodup → storedAllH acc ps = acc ++ ps
  | [], acc, _ => by rw [List.append_nil]; rfl
  | p :: ps, acc, h => by
    have e0 : atKey acc p.1 = none := by
      cases q : atKey acc p.1 with
      | none => rfl
      | some z =>
        exfalso
        have hm : p.1 ∈ acc.map (·.1) := by
          unfold atKey at q
          obtain ⟨w, h1, h2⟩ := Option.map_eq_some_iff.mp q
          have h3 := List.find?_some h1
          exact List.mem_map.mpr ⟨w, List.mem_of_find?_eq_some h1, by simpa using h3⟩
        rw [List.map_append, List.nodup_append] at h
        exact h.2.2 _ hm p.1 (by rw [List.map_cons]; exact List.mem_cons_self) rfl
    have e1 : storedAllH acc (p :: ps) = storedAllH (storedH acc p.1 p.2.1 p.2.2) ps := rfl
    rw [e1, storedH_new e0, storedAllH_new ps _ (by rw [List.append_assoc]; exact h), List.append_assoc]
    rfl
theorem cr_dictT (hc : X.calm = true) (hu : X.A.units + 4 < cLine) : CallR X (.type "dict") (rDictT X.K) := by
  intro pins s σ H vs us Q I r h
  obtain ⟨a, l, rfl, hs, hq, hn, hz, q⟩ := h
  rw [Vals.ref1 r]
  obtain ⟨us, hl, hus⟩ := prs_of I l hq
  have hps : (l.zip us).length = l.length := by rw [List.length_zip, hl, Nat.min_self]
  have zat : ∀ {j : Nat} {z : Pr × Value}, (l.zip us)[j]? = some z → l[j]? = some z.1 ∧ us[j]? = some z.2 := fun h => List.getElem?_zip_eq_some.mp h
  -- the pairs
  have fin : ∀ {T : String} {fp : List Addr} {Re : Nat → Value → Value → Prop} {OK : Heap → Prop} (P : PairArg X.prog X.w T a fp [] l.length Re OK), OK s.heap →
      (∀ i k v, Re i k v → ∃ z, (l.zip us)[i]? = some z ∧ k = .ref z.1.b ∧ v = z.2) → wpAny (model X.prog X.w) X.A (call (.type "dict") [.ref a]) (fun v s' => ∃ x H', Inv X pins σ H' s' ∧ RelV x v ∧ Q x H') X.xe s := by
    intro T fp Re OK P ok hR
    refine call_dict_pairsH (knd := tupleKind (mixKind X.prog X.w)) (ps := (l.zip us).map fun z => (keyI z.1.k, z.1.b, z.2)) P (I.ok.hd hc) (by show X.A.in1.in1.units < cLine; show X.A.units + 1 + 1 < cLine; omega) ok ⟨by rw [List.length_map, hps], fun i key v e => ?_⟩ (fun h' hk x hx => ?_) (Nat.le_of_lt (small1000 hz)) fun h' tk hd hk => ?_
    · obtain ⟨z, hz1, rfl, rfl⟩ := hR i key v e
      exact ⟨keyI z.1.k, z.1.b, by rw [List.getElem?_map, hz1]; rfl, rfl⟩
    · obtain ⟨z, hm, rfl⟩ := List.mem_map.mp hx
      have hm1 : z.1 ∈ l := (List.of_mem_zip hm).1
      obtain ⟨_, hb⟩ := hq _ hm1
      have kk := key_of (ks := keyI z.1.k) I.hok (by rw [keyI_kV]; exact hb)
      obtain ⟨o, items, n, ho, r'⟩ := kk
      exact ⟨o, items, n, hk _ _ (Nat.ne_of_lt (Heap.lt_size ho)) (by simp) ho, r'⟩
    · have hnd : (((l.zip us).map fun z => (keyI z.1.k, z.1.b, z.2)).map (·.1)).Nodup := by
        rw [List.map_map]
        have e : ((fun x : List Key × Addr × Value => x.1) ∘ fun z : Pr × Value => (keyI z.1.k, z.1.b, z.2)) = fun z => keyI z.1.k := rfl
        rw [e]
        have e2 : (l.zip us).map (fun z => keyI z.1.k) = (l.map (·.k)).map keyI := by
          have : (l.zip us).map (fun z => keyI z.1.k) = ((l.zip us).map Prod.fst).map fun q => keyI q.k := by rw [List.map_map]; rfl
          rw [this, List.map_fst_zip (by omega), List.map_map]
          rfl
        rw [e2]
        exact List.Pairwise.map _ (fun x y hxy e => hxy (keyI_inj e)) hn
      rw [storedAllH_new _ [] (by simpa using hnd), List.nil_append] at hd
      obtain ⟨o, es, ep, h1, h2, h3, h4, _, h5⟩ := hd
      have hm : (s.heap.objs.size == sysModules) = false := beq_eq_false_iff_ne.mpr (Nat.ne_of_gt I.big)
      refine ⟨.ref s.heap.objs.size, upd H s.heap.objs.size (.dT (l.map fun q => (keyI q.k, q.y))), I.laid (t' := tk) (fun b o e => hk b o (by simp) e) (Nat.le_refl _) (show ObjOk X.prog X.w _ _ _ (.dT _) from ⟨by rw [List.length_map]; exact Nat.le_of_lt (small1000 hz), hm, _, ?_, o, es, ep, h1, h2, h3, h4, h5⟩), rfl, q _ (I.hok.fresh (Nat.le_refl _))⟩
      have hfr : H s.heap.objs.size = none := I.hok.fresh (Nat.le_refl _)
      have all : ∀ (l : List Pr) (us : List Value), us.length = l.length → (∀ q ∈ l, H q.b = some (.tup (q.k.map V.int))) → (∀ (j : Nat) (q : Pr), l[j]? = some q → ∃ u, us[j]? = some u ∧ RelV q.y u) →
          Paired (fun (p : List Key × V) (q : List Key × Addr × Value) => p.1 = q.1 ∧ upd H s.heap.objs.size (.dT (l.map fun q => (keyI q.k, q.y))) q.2.1 = some (.tup (p.1.map kV)) ∧ RelV p.2 q.2.2) (l.map fun q => (keyI q.k, q.y)) ((l.zip us).map fun z => (keyI z.1.k, z.1.b, z.2)) := by
        intro l
        suffices hh : ∀ (D : HO) (l : List Pr) (us : List Value), us.length = l.length → (∀ q ∈ l, H q.b = some (.tup (q.k.map V.int))) → (∀ (j : Nat) (q : Pr), l[j]? = some q → ∃ u, us[j]? = some u ∧ RelV q.y u) →
          Paired (fun (p : List Key × V) (q : List Key × Addr × Value) => p.1 = q.1 ∧ upd H s.heap.objs.size D q.2.1 = some (.tup (p.1.map kV)) ∧ RelV p.2 q.2.2) (l.map fun q => (keyI q.k, q.y)) ((l.zip us).map fun z => (keyI z.1.k, z.1.b, z.2)) from hh _ l
        intro D l
        induction l with
        | nil => intro us _ _ _; exact .nil
        | cons q l ih =>
          intro us hl hb hu
          cases us with
          | nil => simp at hl
          | cons u us =>
            obtain ⟨u', e1, e2⟩ := hu 0 q rfl
            cases e1
            refine .cons ⟨rfl, ?_, e2⟩ (ih us (by simpa using hl) (fun q hq => hb q (List.mem_cons_of_mem _ hq)) fun j q' e => ?_)
            · rw [upd_ne (ne_of_none (hb q List.mem_cons_self) hfr)]
              show H q.b = some (.tup ((keyI q.k).map kV))
              rw [keyI_kV]
              exact hb q List.mem_cons_self
            · obtain ⟨u', e1, e2⟩ := hu (j + 1) q' (by simpa using e)
              exact ⟨u', by simpa using e1, e2⟩
      exact all l us hl (fun q hm => (hq q hm).2) fun j q e => let ⟨u, a, _, c⟩ := hus j q e; ⟨u, a, c⟩
  have items : ∀ (its : List Value), Vals (l.map fun q => V.ref q.T) its → PairItems s.heap its.toArray (fun j => ((l[j]?).map (·.T)).getD 0) ((l.zip us).map fun z => (Value.ref z.1.b, z.2)) := by
    intro its rv
    have hlen := rv.length
    rw [List.length_map] at hlen
    refine ⟨by rw [List.size_toArray, List.length_map, hps, hlen], fun j k v e => ?_⟩
    rw [List.getElem?_map] at e
    obtain ⟨z, hz1, hz2⟩ := Option.map_eq_some_iff.mp e
    cases hz2
    obtain ⟨a1, a2⟩ := zat hz1
    obtain ⟨u, b1, b2, b3⟩ := hus j z.1 a1
    rw [a2] at b1
    cases b1
    obtain ⟨w, w1, w2⟩ := Vals.get rv (i := j) (x := V.ref z.1.T) (by rw [List.getElem?_map, a1]; rfl)
    cases w2
    have e3 : ((l[j]?).map (·.T)).getD 0 = z.1.T := by rw [a1]; rfl
    refine ⟨?_, ?_⟩
    · show its.toArray[j]? = some (Value.ref (((l[j]?).map (·.T)).getD 0))
      rw [e3]
      simpa using w1
    · show PairAt s.heap (((l[j]?).map (·.T)).getD 0) _ _
      rw [e3]
      exact .inl b2
  have rels : ∀ i k v, PairRel ((l.zip us).map fun z => (Value.ref z.1.b, z.2)) i k v → ∃ z, (l.zip us)[i]? = some z ∧ k = .ref z.1.b ∧ v = z.2 := fun i k v e => by
    unfold PairRel at e
    rw [List.getElem?_map] at e
    obtain ⟨z, hz1, hz2⟩ := Option.map_eq_some_iff.mp e
    cases hz2
    exact ⟨z, hz1, rfl, rfl⟩
  have hpl : ((l.zip us).map fun z => (Value.ref z.1.b, z.2)).length = l.length := by rw [List.length_map, hps]
  rcases hs with hs | ⟨ob, hd, hs⟩
  · obtain ⟨_, its, n, rv, ho⟩ := (show ObjOk X.prog X.w H s.heap a (.lst _) from I.hok a _ hs)
    have P := PairArg.list (prog := X.prog) (w := X.w) a its.toArray (fun j => ((l[j]?).map (·.T)).getD 0) ((l.zip us).map fun z => (Value.ref z.1.b, z.2))
    rw [hpl] at P
    exact fin P ⟨⟨_, n, ho, rfl, rfl, rfl⟩, items its rv⟩ rels
  · obtain ⟨ho, hz', its, rv, o', ho', hc', n, hd'⟩ := (show ObjOk X.prog X.w H s.heap a (.frz ob (.tup _)) from I.hok a _ hs)
    rw [ho] at ho'
    cases ho'
    have P := PairArg.tuple (prog := X.prog) (w := X.w) a its.toArray (fun j => ((l[j]?).map (·.T)).getD 0) ((l.zip us).map fun z => (Value.ref z.1.b, z.2))
    rw [hpl] at P
    exact fin P ⟨⟨ob, n, ho, hc', hd, hd'⟩, items its rv⟩ rels
/-! over values -/
def prD (p : List Int × Dt) : Dt := .tup [tI p.1, p.2]
theorem den_tI {av : Addr → Prop} {H : Hp} {v : V} {ns : List Int} (h : Den av H v (tI ns)) : ∃ a, v = .ref a ∧ H a = some (.tup (ns.map V.int)) := by
  cases h with
  | tup e l => exact ⟨_, rfl, by rw [← l.ints]; exact e⟩
  | tpf n p e l => exact (not_tpl p).elim
theorem den_prs {av : Addr → Prop} {H : Hp} : ∀ {xs : List V} {kvs : List (List Int × Dt)}, DenL av H xs (kvs.map prD) → ∃ l : List Pr, xs = l.map (fun q => V.ref q.T) ∧ l.map (·.k) = kvs.map (·.1) ∧
    (∀ q ∈ l, Rd H q.T (.tup [.ref q.b, q.y]) ∧ H q.b = some (.tup (q.k.map V.int))) ∧ DenT av H (l.map fun q => (keyI q.k, q.y)) kvs
  | _, [], .nil => ⟨[], rfl, rfl, fun q hq => by simp at hq, .nil⟩
  | _, (k, d) :: kvs, .cons h t => by
    obtain ⟨l, e1, e2, e3, e4⟩ := den_prs t
    obtain ⟨T, zs, rfl, hT, dl⟩ := den_tup' (show Den av H _ (.tup [tI k, d]) from h)
    cases dl with
    | cons d1 dl =>
      cases dl with
      | cons d2 dl =>
        cases dl
        obtain ⟨b, rfl, hb⟩ := den_tI d1
        refine ⟨⟨T, b, k, _⟩ :: l, by rw [List.map_cons, e1], by rw [List.map_cons, List.map_cons, e2], fun q hq => ?_, .cons d2 e4⟩
        rcases List.mem_cons.mp hq with rfl | hq
        · exact ⟨hT, hb⟩
        · exact e3 q hq
@[reducible] def contP (r : Rs) (M : Me) (k : List Dt → Prop) : Prop := match r with
  | .v (.lst ds) => k ds
  | .v (.tpl ds) => k ds
  | .o n => (match M[n]? with | some (.lst ds) => k ds | _ => False)
  | _ => False
theorem contP_mono {r : Rs} {M : Me} {k k' : List Dt → Prop} (h : ∀ ds, k ds → k' ds) (q : contP r M k) : contP r M k' := by
  unfold contP at q ⊢
  split at q
  · exact h _ q
  · exact h _ q
  · split at q
    · exact h _ q
    · exact q.elim
  · exact q.elim
theorem RelA.prs {C : Fr} {ad : Nat → Addr} {δ : Sl} {M : Me} {τ : List (V × Rs)} {σ : St} {H : Hp} {v : V} {r : Rs} (rel : RelA C ad δ M τ σ H) (hm : (v, r) ∈ τ) {k : List Dt → Prop} (q : contP r M k) :
    ∃ a xs ds, v = .ref a ∧ (H a = some (.lst xs) ∨ ∃ ob : Obj, ob.dict = none ∧ H a = some (.frz ob (.tup xs))) ∧ DenL (avo ad M.length C.hid) H xs ds ∧ k ds := by
  have h := rel.tmp _ hm
  unfold contP at q
  split at q
  · have h' : Den (avo ad M.length C.hid) H v (.lst _) := h
    cases h' with
    | lst n e l => exact ⟨_, _, _, rfl, .inl e, l, q⟩
  · have h' : Den (avo ad M.length C.hid) H v (.tpl _) := h
    cases h' with
    | tpl n p e l => exact ⟨_, _, _, rfl, .inr ⟨_, p.1, e⟩, l, q⟩
  · rename_i n
    obtain ⟨hn, e1⟩ := (show n < M.length ∧ v = .ref (ad n) from h)
    split at q
    · rename_i ds e
      obtain ⟨xs, e2, l⟩ := rel.mem n _ e
      exact ⟨_, _, _, e1, .inl e2, l, q⟩
    · exact q.elim
  · exact q.elim
def oDictT : WC := fun rs M Q => as1 rs fun r => contP r M fun ds => ∃ kvs : List (List Int × Dt), ds = kvs.map prD ∧ (kvs.map (·.1)).Nodup ∧ kvs.length ≤ 1000 ∧ Q (.v (.dt kvs)) M
theorem vc_dictT (hc : X.calm = true) (hu : X.A.units + 4 < cLine) : VCall X (.type "dict") oDictT := by
  refine vcall1 (o := fun r M Q => contP r M fun ds => ∃ kvs : List (List Int × Dt), ds = kvs.map prD ∧ (kvs.map (·.1)).Nodup ∧ kvs.length ≤ 1000 ∧ Q (.v (.dt kvs)) M) (cr_dictT hc hu) (fun C ad δ M τ σ H x rr Q r q => ?_) fun rs M Q Q' hq q => contP_mono (fun ds ⟨n, e, h1, h2, h⟩ => ⟨n, e, h1, h2, hq _ _ h⟩) q
  obtain ⟨a, xs, ds, rfl, e, l, kvs, rfl, h1, h2, q⟩ := r.prs List.mem_cons_self q
  obtain ⟨pl, rfl, e2, e3, e4⟩ := den_prs l
  have hlen : pl.length = kvs.length := by
    have := congrArg List.length e2
    simpa using this
  refine ⟨a, pl, rfl, e, e3, by rw [e2]; exact h1, by omega, fun p hp => q _ _ ?_⟩
  have s : Same H (upd H p (.dT (pl.map fun q => (keyI q.k, q.y)))) := fun b x e => by rw [upd_ne (ne_of_none e hp)]; exact e
  exact (show Rel C δ M ((.ref p, .v (.dt kvs)) :: (V.ref a, rr) :: τ) σ _ from ⟨ad, (r.same s).tmp1 (.dt (not_avo r hp) upd_same (e4.mono (Ext.same s)))⟩).drop2

/-! what a dict with tuple keys holds -/
def getT (kvs : List (List Int × Dt)) (k : List Int) : Option Dt := (kvs.find? fun kv => decide (kv.1 = k)).map (·.2)
theorem DenT.get {av : Addr → Prop} {H : Hp} (k : List Int) : ∀ {xs : List (List Key × V)} {kvs : List (List Int × Dt)}, DenT av H xs kvs →
    (valV xs (keyI k) = none ∧ getT kvs k = none) ∨ ∃ v d, valV xs (keyI k) = some v ∧ getT kvs k = some d ∧ Den av H v d
  | _, _, .nil => .inl ⟨rfl, rfl⟩
  | (_, v) :: _, (n, d) :: kr, .cons a b => by
    by_cases e : n = k
    · subst e
      exact .inr ⟨v, d, valV_pos rfl, by simp [getT], a⟩
    · have e' : ¬ (keyI n) = keyI k := fun z => e (keyI_inj z)
      rw [valV_neg e']
      have h2 : getT ((n, d) :: kr) k = getT kr k := by simp [getT, List.find?_cons, e]
      rw [h2]
      exact DenT.get k b
@[reducible] def asDt (r : Rs) (k : List (List Int × Dt) → Prop) : Prop := match r with | .v (.dt kvs) => k kvs | _ => False
theorem asDt_ok {r : Rs} {k : List (List Int × Dt) → Prop} (q : asDt r k) : ∃ kvs, r = .v (.dt kvs) ∧ k kvs := by
  unfold asDt at q
  split at q
  · exact ⟨_, rfl, q⟩
  · exact q.elim
theorem asDt_mono {r : Rs} {k k' : List (List Int × Dt) → Prop} (h : ∀ d, k d → k' d) (q : asDt r k) : asDt r k' := by
  obtain ⟨d, rfl, q⟩ := asDt_ok q
  exact h d q
theorem den_dt {av : Addr → Prop} {H : Hp} {v : V} {kvs : List (List Int × Dt)} (h : Den av H v (.dt kvs)) : ∃ a xs, v = .ref a ∧ H a = some (.dT xs) ∧ DenT av H xs kvs := by
  cases h with
  | dt _ e l => exact ⟨_, _, rfl, e, l⟩
variable {a b c e : Expr} {wa wb wc we : WE} {pos : Pos} {EX : Hp → Prop}
/-- d[k] -/
def wTGet (wd wk : WE) : WE := fun δ M Q => wd δ M fun rd M1 => wk δ M1 fun rk M2 => asDt rd fun kvs => ∃ k : List Int, rk = .v (tI k) ∧ ∃ d, getT kvs k = some d ∧ Q (.v d) M2
theorem v_tget (hu : X.A.units + 1 < cLine) (hd : VE X a wa) (hk : VE X b wb) (hs : NoSl b := by exact fun _ _ => rfl) : VE X (.Subscript a b pos) (wTGet wa wb) := by
  refine ⟨PE.imp (pe_dget hu hd.pe hk.pe hs) ?_, fun δ M Q Q' h q => hd.mono _ _ _ _ (fun rk M1 => hk.mono _ _ _ _ fun rv M2 => asDt_mono fun kvs ⟨k, e1, d, e, q⟩ => ⟨k, e1, d, e, h _ _ q⟩) q⟩
  rintro σ H Q ⟨C, δ, M, τ, rel, q⟩
  refine ⟨C, δ, M, τ, rel, hd.mono _ _ _ _ (fun rr M1 q xd H1 rel1 => ?_) q⟩
  refine ⟨C, δ, M1, _, rel1, hk.mono _ _ _ _ (fun rk M2 q xk H2 rel2 => ?_) q⟩
  obtain ⟨kvs, rfl, k, rfl, d, ed, q⟩ := asDt_ok q
  obtain ⟨ad, r2⟩ := rel2
  obtain ⟨p, xs, rfl, ep, dl⟩ := den_dt (show Den (avo ad M2.length C.hid) H2 xd (.dt kvs) from r2.tmp _ (List.mem_cons_of_mem _ List.mem_cons_self))
  obtain ⟨t, rfl, et⟩ := den_tI (show Den (avo ad M2.length C.hid) H2 xk (tI k) from r2.tmp _ List.mem_cons_self)
  rcases dl.get k with ⟨_, h2⟩ | ⟨v, d', h1, h2, h3⟩
  · rw [ed] at h2; cases h2
  · rw [ed] at h2
    cases h2
    refine ⟨_, v, rfl, ?_, q _ _ (Rel.val r2 h3)⟩
    rw [← h1]
    exact DGet.t ep (by rw [keyI_kV]; exact et)
/-- k in d -/
def wTIn (wk wd : WE) : WE := fun δ M Q => wk δ M fun rk M1 => wd δ M1 fun rd M2 => asDt rd fun kvs => ∃ k : List Int, rk = .v (tI k) ∧ Q (.v (.bl (getT kvs k).isSome)) M2
theorem v_tin (hu : X.A.units + 1 < cLine) (hk : VE X a wa) (hd : VE X b wb) (hm : behindInMarks .In b = false := by rfl) : VE X (.Compare a [.In] [b] pos) (wTIn wa wb) := by
  refine ⟨PE.imp (pe_cmp (pc_din hu hk.pe hd.pe) hm) ?_, fun δ M Q Q' h q => hk.mono _ _ _ _ (fun rk M1 => hd.mono _ _ _ _ fun rv M2 => asDt_mono fun kvs ⟨k, e, q⟩ => ⟨k, e, h _ _ q⟩) q⟩
  rintro σ H Q ⟨C, δ, M, τ, rel, q⟩
  refine ⟨C, δ, M, τ, rel, hk.mono _ _ _ _ (fun rr M1 q xk H1 rel1 => ?_) q⟩
  refine ⟨C, δ, M1, _, rel1, hd.mono _ _ _ _ (fun rk M2 q xd H2 rel2 => ?_) q⟩
  obtain ⟨kvs, rfl, k, rfl, q2⟩ := asDt_ok q
  obtain ⟨ad, r2⟩ := rel2
  obtain ⟨p, xs, rfl, ep, dl⟩ := den_dt (show Den (avo ad M2.length C.hid) H2 xd (.dt kvs) from r2.tmp _ List.mem_cons_self)
  obtain ⟨t, rfl, et⟩ := den_tI (show Den (avo ad M2.length C.hid) H2 xk (tI k) from r2.tmp _ (List.mem_cons_of_mem _ List.mem_cons_self))
  refine ⟨_, _, rfl, DGet.t ep (by rw [keyI_kV]; exact et), ?_⟩
  have : (valV xs (keyI k)).isSome = (getT kvs k).isSome := by
    rcases dl.get k with ⟨h1, h2⟩ | ⟨v, d', h1, h2, h3⟩
    · rw [h1, h2]; rfl
    · rw [h1, h2]; rfl
  rw [this]
  exact q2 _ _ (Rel.val r2 (.bl _))
/-- d.get(k, x) -/
def wTGetD (wd wk wx : WE) : WE := fun δ M Q => wd δ M fun rd M1 => asDt rd fun kvs => wk δ M1 fun rk M2 => wx δ M2 fun rx M3 => asV rx fun x => ∃ k : List Int, rk = .v (tI k) ∧ Q (.v ((getT kvs k).getD x)) M3
theorem v_tgetD {apos : Pos} (hu : X.A.units + 1 < cLine) (hd : VE X a wa) (hk : VE X b wb) (hx : VE X c wc) (m : M2 X a "get" apos b c pos := by exact ⟨rfl, rfl, rfl, rfl⟩) : VE X (.Call (.Attribute a "get" apos) [b, c] [] pos) (wTGetD wa wb wc) := by
  refine ⟨PE.imp (pe_dget2 hu hd.pe hk.pe hx.pe m) ?_, fun δ M Q Q' h q => hd.mono _ _ _ _ (fun rd M1 => asDt_mono fun kvs => hk.mono _ _ _ _ fun rk M2 => hx.mono _ _ _ _ fun rx M3 => asV_mono fun x ⟨k, e, q⟩ => ⟨k, e, h _ _ q⟩) q⟩
  rintro σ H Q ⟨C, δ, M, τ, rel, q⟩
  refine ⟨C, δ, M, τ, rel, hd.mono _ _ _ _ (fun rr M1 q xd H1 rel1 => ?_) q⟩
  obtain ⟨kvs, rfl, q⟩ := asDt_ok q
  obtain ⟨ad1, r1⟩ := _root_.id rel1
  obtain ⟨p, xs, rfl, ep, _⟩ := den_dt (show Den (avo ad1 M1.length C.hid) H1 xd (.dt kvs) from r1.tmp _ List.mem_cons_self)
  refine ⟨p, rfl, .inr ⟨xs, .inl ep⟩, ?_⟩
  refine ⟨C, δ, M1, _, rel1, hk.mono _ _ _ _ (fun rk M2 q xk H2 rel2 => ?_) q⟩
  refine ⟨C, δ, M2, _, rel2, hx.mono _ _ _ _ (fun rx M3 q xx H3 rel3 => ?_) q⟩
  obtain ⟨x, rfl, k, rfl, q2⟩ := asV_ok q
  obtain ⟨ad, r3⟩ := rel3
  obtain ⟨p', xs, e, ep, dl⟩ := den_dt (show Den (avo ad M3.length C.hid) H3 (.ref p) (.dt kvs) from r3.tmp _ (List.mem_cons_of_mem _ (List.mem_cons_of_mem _ List.mem_cons_self)))
  cases e
  obtain ⟨t, rfl, et⟩ := den_tI (show Den (avo ad M3.length C.hid) H3 xk (tI k) from r3.tmp _ (List.mem_cons_of_mem _ List.mem_cons_self))
  have dx : Den (avo ad M3.length C.hid) H3 xx x := r3.tmp (xx, .v x) List.mem_cons_self
  refine ⟨_, DGet.t ep (by rw [keyI_kV]; exact et), q2 _ _ ?_⟩
  have fin : ∀ {v : V} {d : Dt}, Den (avo ad M3.length C.hid) H3 v d → Rel C δ M3 ((v, .v d) :: τ) σ H3 := fun h => (Rel.val r3 h).drop2
  rcases dl.get k with ⟨h1, h2⟩ | ⟨v, d', h1, h2, h3⟩
  · rw [h1, h2]; exact fin dx
  · rw [h1, h2]; exact fin h3

/-! a plain tuple -/
def wWeak (we : WE) : WE := fun δ M Q => we δ M fun r M1 => match r with | .v (.tpl ds) => Q (.v (.tup ds)) M1 | r => Q r M1
theorem v_weak (he : VE X e we) : VE X e (wWeak we) := by
  refine ⟨PE.imp he.pe ?_, fun δ M Q Q' h q => he.mono _ _ _ _ (fun r M1 q => ?_) q⟩
  · rintro σ H Q ⟨C, δ, M, τ, rel, q⟩
    refine ⟨C, δ, M, τ, rel, he.mono _ _ _ _ (fun r M1 q v H1 rel1 => ?_) q⟩
    split at q
    · refine q v H1 ?_
      obtain ⟨ad, r1⟩ := rel1
      have h : Den (avo ad M1.length C.hid) H1 v (.tpl _) := r1.tmp _ List.mem_cons_self
      cases h with
      | tpl n p e l => exact Rel.of1 r1 (.tpf n p e l)
    · exact q v H1 rel1
  · split at q
    · exact h _ _ q
    · exact h _ _ q
def rTupleF (K : PySem.W.Frag) : List V → Hp → VK → Prop := fun xs H Q => ∃ p ys, xs = [.ref p] ∧ SqL K H p ys ∧ ∀ l ob, H l = none → ob.dict = none → Q (.ref l) (upd H l (.frz ob (.tup ys)))
theorem cr_tupleF : CallR X (.type "tuple") (rTupleF X.K) := by
  intro pins s σ H xs us Q I r h
  obtain ⟨p, ys, rfl, hq, q⟩ := h
  obtain ⟨u, rfl, rx⟩ := vals1 r
  cases rx
  obtain ⟨its, r', pl, hz⟩ := I.list hq
  have hlen := r'.length
  refine call_tuple_list pl.isList (fun h' kp => ?_) (by simp only [List.size_toArray] <;> omega)
  have I1 : Inv X pins σ H { s with heap := h' } := I.kept (t' := s.toks) kp
  have I2 : Inv X pins σ (upd H h'.objs.size (.frz { cls := .type "tuple", data := .seq its.toArray } (.tup ys))) { s with heap := h'.push { cls := .type "tuple", data := .seq its.toArray } } :=
    I1.laid (t' := s.toks) (fun b o e => Heap.get?_push_of_some _ e) (Nat.le_refl _) (show ObjOk X.prog X.w _ _ _ (.frz _ (.tup ys)) from ⟨Heap.get?_push_size _ rfl, hz, its, r', IsTup.new _ _⟩)
  exact ⟨.ref h'.objs.size, _, I2, rfl, q _ _ (I1.hok.fresh (Nat.le_refl _)) rfl⟩
def oTupleF : WC := fun rs M Q => as1 rs fun r => contL r M fun ds => (∃ e r, ds = .tup e :: r) ∧ Q (.v (.tpl ds)) M
theorem vc_tupleF : VCall X (.type "tuple") oTupleF := by
  refine vcall1 (o := fun r M Q => contL r M fun ds => (∃ e r, ds = .tup e :: r) ∧ Q (.v (.tpl ds)) M) cr_tupleF (fun C ad δ M τ σ H x rr Q r q => ?_) fun rs M Q Q' hq q => contL_mono (fun ds q => ⟨q.1, hq _ _ q.2⟩) q
  obtain ⟨a, xs, ds, rfl, e, l, ht, q⟩ := r.lst List.mem_cons_self q
  refine ⟨a, xs, rfl, SqL.of e, fun p ob hp hd => q _ _ ?_⟩
  have s : Same H (upd H p (.frz ob (.tup xs))) := fun b x e => by rw [upd_ne (ne_of_none e hp)]; exact e
  exact (show Rel C δ M ((.ref p, .v (.tpl ds)) :: (V.ref a, rr) :: τ) σ _ from ⟨ad, (r.same s).tmp1 (.tpl (not_avo r hp) ⟨hd, ht⟩ upd_same (l.mono (Ext.same s)))⟩).drop2
end
end VL
set_option Elab.async false
set_option linter.all false
set_option maxRecDepth 100000
set_option maxHeartbeats 4000000
/-! VL10: itertools.combinations of a tuple: the walk of all choices. -/
namespace VLC
open PySem PySem.Spec
open Sem (wp)
theorem mro_cb : mroOf (.type "itertools.combinations") = pure [.type "itertools.combinations", .type "object"] := by rw [mroOf_type]; kernel_rfl
theorem lookup_cb_new : typeLookup (.type "itertools.combinations") "__new__" = pure (some (.builtin "itertools.combinations.__new__")) := by rw [typeLookup_type, builtinLookup_eq_fast]; kernel_rfl
theorem slot_cb_init : Slot "itertools.combinations" "__init__" "object.__init__" :=
  .of (owner := "object") (n := "__init__") (by rw [typeLookup_type, builtinLookup_eq_fast]; kernel_rfl) (by decide +kernel) (by decide +kernel) (by decide +kernel)
    (by first | exact .inl (by decide +kernel) | exact .inr (by decide +kernel)) (by rw [isSubtype_type]; kernel_rfl)
theorem sub_cb : isSubtype (.type "itertools.combinations") (.type "itertools.combinations") = pure true := by rw [isSubtype_type]; kernel_rfl
theorem called_cb : TypeCalled "itertools.combinations" "itertools.combinations.__new__" "object.__init__" :=
  ⟨by decide +kernel, by decide +kernel, ⟨_, _, mro_cb⟩, madeBy_type mro_cb lookup_cb_new (by decide +kernel), by decide +kernel, sub_cb, slot_cb_init⟩
theorem typeCall_cb_2 (a b : Value) : checkTypeCall "itertools.combinations" ⟨[a, b], []⟩ = pure () := by kernel_rfl
theorem newCall_cb_2 (a b : Value) : checkBuiltinCall "itertools.combinations.__new__" ⟨[.type "itertools.combinations", a, b], []⟩ = pure () := by kernel_rfl
theorem entry_cb_new : entryFor table "itertools.combinations.__new__" = some Builtin.«itertools.combinations.__new__» := entryFor_of_tree (by kernel_rfl)
theorem slot_cb_iter : Slot "itertools.combinations" "__iter__" "itertools.combinations.__iter__" :=
  .of (owner := "itertools.combinations") (n := "__iter__") (by rw [typeLookup_type, builtinLookup_eq_fast]; kernel_rfl) (by decide +kernel) (by decide +kernel) (by decide +kernel)
    (by first | exact .inl (by decide +kernel) | exact .inr (by decide +kernel)) sub_cb
theorem slot_cb_next : Slot "itertools.combinations" "__next__" "itertools.combinations.__next__" :=
  .of (owner := "itertools.combinations") (n := "__next__") (by rw [typeLookup_type, builtinLookup_eq_fast]; kernel_rfl) (by decide +kernel) (by decide +kernel) (by decide +kernel)
    (by first | exact .inl (by decide +kernel) | exact .inr (by decide +kernel)) sub_cb
theorem entry_cb_iter : entryFor table "itertools.combinations.__iter__" = some Builtin.«dict_keyiterator.__iter__» :=
  entryFor_alias (id' := "dict_keyiterator.__iter__") (by kernel_rfl) (by first | rfl | decide +kernel | (unfold String.splitOn; simp +decide [String.splitOnAux])) (by decide +kernel) (by kernel_rfl)
theorem entry_cb_next : entryFor table "itertools.combinations.__next__" = some Builtin.«itertools.combinations.__next__» := entryFor_of_tree (by kernel_rfl)
theorem owner_cb : Manifest.owners.lookup (String.ofList ['s', 'n', 'o', 'i', 't', 'a', 'n', 'i', 'b', 'm', 'o', 'c', '.', 's', 'l', 'o', 'o', 't', 'r', 'e', 't', 'i'].reverse) = some Manifest.sig_itertools_combinations := by kernel_rfl
theorem args_cb_iter (a : Value) : argsOk "itertools.combinations.__iter__" ⟨[a], []⟩ := by
  unfold argsOk; rw [signature?_of (id := "itertools.combinations.__iter__") (n := ['_', '_', 'r', 'e', 't', 'i', '_', '_']) (o := ['s', 'n', 'o', 'i', 't', 'a', 'n', 'i', 'b', 'm', 'o', 'c', '.', 's', 'l', 'o', 'o', 't', 'r', 'e', 't', 'i']) (by kernel_rfl) owner_cb]; kernel_rfl
theorem args_cb_next (a : Value) : argsOk "itertools.combinations.__next__" ⟨[a], []⟩ := by
  unfold argsOk; rw [signature?_of (id := "itertools.combinations.__next__") (n := ['_', '_', 't', 'x', 'e', 'n', '_', '_']) (o := ['s', 'n', 'o', 'i', 't', 'a', 'n', 'i', 'b', 'm', 'o', 'c', '.', 's', 'l', 'o', 'o', 't', 'r', 'e', 't', 'i']) (by kernel_rfl) owner_cb]; kernel_rfl
theorem noDict_cb : typeHasDict (.type "itertools.combinations") = false := by decide +kernel
abbrev IsCb (h : Heap) (it P : Addr) (st : Int) (last : Value) (ix : List Nat) : Prop :=
  h.get? it = some { cls := .type "itertools.combinations", dict := none, data := .fields (.ref P :: .int st 0 :: last :: ix.map (fun i : Nat => rawInt i)).toArray, slots := #[] }
end VLC
set_option Elab.async false
set_option linter.all false
set_option maxRecDepth 100000
set_option maxHeartbeats 4000000
namespace VLC
open PySem PySem.Spec
open Sem (wp)
theorem sub_cb' : isSubtype (.type "itertools.combinations") (.type ("itertools." ++ "combinations")) = pure true := by
  rw [show ("itertools." ++ "combinations" : String) = "itertools.combinations" from by decide]
  exact sub_cb
theorem meets_cb_new (t : Addr) (items : Array Value) (r : Nat) (tok : Tok) (hr : r ≤ items.size) (hz : items.size ≤ 1000) :
    Meets (Builtin.«itertools.combinations.__new__» ⟨[.type "itertools.combinations", .ref t, .int r tok], []⟩)
      (fun _ R s => s.heap.IsTuple t items ∧ ∀ h' : Heap, (∀ b o, s.heap.get? b = some o → h'.get? b = some o) → R (.ok (.ret (.ref (h'.objs.size + 1)))) { s with heap := (h'.push { cls := .type "tuple", data := .seq items }).push { cls := .type "itertools.combinations", data := .fields (.ref h'.objs.size :: .int 0 0 :: .none :: (List.range r).map (fun i : Nat => rawInt i)).toArray } }) :=
  .of_wp fun prog w A R s h => by
    obtain ⟨hT, h⟩ := h
    obtain ⟨hp, g, dd, tk, os⟩ := s
    have hsub := sub_cb'
    have hd := noDict_cb
    repeat (first
      | wp_step
      | (refine wpAny_of_eq hsub ?_)
      | simp only [List.head?_cons, Option.some_or, List.getElem?_cons_succ, List.getElem?_cons_zero, List.length_cons, List.length_nil, List.forIn_nil])
    have e1 : ¬ ((decide ((r : Int) < -2 ^ 63) || decide ((r : Int) ≥ 2 ^ 63)) = true) := by
      have a : decide ((r : Int) < -2 ^ 63) = false := decide_eq_false (by omega)
      have b : decide ((r : Int) ≥ 2 ^ 63) = false := decide_eq_false (by omega)
      rw [a, b]
      decide
    rw [if_neg e1]
    refine wpAny_pure ?_
    obtain ⟨o, ho, hc, n, hdt⟩ := hT
    refine wpAny_bind (wpAny_collect_seq t (.inr rfl) ho hc hdt (fun h' hk => ?_) (by rw [sizeLine_eq]; omega))
    rw [if_neg (by omega)]
    have e2 : ¬ (Builtin.Itertools.itTooMany (r : Int) = true) := by
      unfold Builtin.Itertools.itTooMany
      rw [decide_eq_true_eq]
      omega
    rw [if_neg e2]
    unfold newTuple
    refine wpAny_bind (wpAny_newObj_type ?_ (by show _ ≤ sizeLine; rw [sizeLine_eq]; simp; omega))
    refine wpAny_pure ?_
    unfold Builtin.Itertools.itNewRecord
    dsimp only
    rw [hd]
    rw [if_pos (show (!false) = true from rfl)]
    have e3 : ([Value.ref h'.objs.size, rawInt (if ((r : Int)).toNat > items.toList.length then 2 else 0), Value.none] ++ List.map (fun i : Nat => rawInt i) (List.range ((r : Int)).toNat)) = (.ref h'.objs.size :: .int 0 0 :: .none :: (List.range r).map (fun i : Nat => rawInt i)) := by
      rw [Int.toNat_natCast, if_neg (by rw [Array.length_toList]; omega)]
      rfl
    rw [e3]
    refine wpAny_bind (wpAny_newObj_type ?_ (by first | exact trivial | (show _ ≤ _; rw [sizeLine_eq]; simp; omega) | size_fits))
    refine wpAny_pure ⟨_, rfl, ?_⟩
    have e4 : (h'.push { cls := Value.type "tuple", data := Data.seq items.toList.toArray }).objs.size = h'.objs.size + 1 := Heap.size_push ..
    rw [e4]
    exact h h' hk
end VLC
set_option Elab.async false
set_option linter.all false
set_option maxRecDepth 100000
set_option maxHeartbeats 4000000
namespace VLC
open PySem PySem.Spec
open Sem (wp)
section
variable {prog : Program} {w : World} {A : Around} {E : Value → Shared → Prop} {s : Shared}
theorem iter_cb {it P : Addr} {st : Int} {last : Value} {ix : List Nat} {Q : Value → Shared → Prop} (hit : IsCb s.heap it P st last ix) (h : Q (.ref it) s) : wpAny (model prog w) A (pyIter (.ref it)) Q E s := by
  have hT : s.TypeIs (.ref it) "itertools.combinations" := ⟨_, hit, rfl⟩
  refine wpAny_pyIter_slot hT slot_cb_iter (wpAny_call_entry slot_cb_iter hT entry_cb_iter ?_ (args_cb_iter _))
  show wpAny _ _ (ret (.ref it)) _ _ s
  exact wpAny_pure ⟨_, rfl, "itertools.combinations", _, hT, slot_cb_next.lookup, h⟩
theorem nums_of (P : Addr) (st : Int) (last : Value) (ix : List Nat) : ((((Value.ref P :: Value.int st 0 :: last :: ix.map (fun i : Nat => rawInt i)).toArray).toList.drop 3).map fun v => match v with | .int n _ => n.toNat | _ => 0) = ix := by
  simp only [List.drop_succ_cons, List.drop_zero]
  rw [List.map_map]
  induction ix with
  | nil => rfl
  | cons i ix ih => rw [List.map_cons, ih]; rfl
theorem num_cb {it P : Addr} {st : Int} {last : Value} {ix : List Nat} {Q : List Nat → Shared → Prop} (hit : IsCb s.heap it P st last ix) (h : Q ix s) : wpAny (model prog w) A (Builtin.Itertools.itNumbersFrom (.ref it) 3) Q E s := by
  unfold Builtin.Itertools.itNumbersFrom
  show wpAny _ _ (load it >>= _) _ _ s
  refine wpAny_bind (wpAny_load hit ?_)
  refine wpAny_pure ?_
  change Q ((((Value.ref P :: Value.int st 0 :: last :: ix.map (fun i : Nat => rawInt i)).toArray).toList.drop 3).map fun v => match v with | .int n _ => n.toNat | _ => 0) s
  rw [nums_of]
  exact h
theorem st_cb {it P : Addr} {st : Int} {last : Value} {ix : List Nat} {Q : Int → Shared → Prop} (hit : IsCb s.heap it P st last ix) (h : Q st s) : wpAny (model prog w) A (Builtin.Itertools.itIntField (.ref it) 1) Q E s := by
  unfold Builtin.Itertools.itIntField
  exact wpAny_bind (wpAny_field hit rfl (x := .int st 0) rfl (wpAny_pure h))
theorem pool_cb {P : Addr} {items : Array Value} {Q : Array Value → Shared → Prop} (hp : s.heap.IsTuple P items) (h : Q items s) : wpAny (model prog w) A (Builtin.Itertools.itPoolItems (.ref P)) Q E s := by
  obtain ⟨o, ho, hc, n, hd⟩ := hp
  unfold Builtin.Itertools.itPoolItems seqItems?
  refine wpAny_bind (wpAny_bind (wpAny_load ho ?_))
  rw [hd]
  exact wpAny_pure (wpAny_pure h)
theorem fin_cb {hp : Heap} {g : Array GenState} {dd : Drawn} {tk : Nat} {os : OsState} {it P : Addr} {st : Int} {vs : List Value} {ix : List Nat} {last : Value} {Q : Fin → Shared → Prop} (hit : IsCb hp it P st last ix) 
    (hQ : ∀ h', IsCb h' it P st (.ref hp.objs.size) ix → h'.get? hp.objs.size = some { cls := .type "tuple", data := .seq vs.toArray } → (∀ b o, b ≠ it → hp.get? b = some o → h'.get? b = some o) → Q (.done (.ret (.ref hp.objs.size))) ⟨h', g, dd, tk, os⟩) :
    wpAny (model prog w) A (field (.ref it) 2 >>= fun before => setField (.ref it) 2 (.ref hp.objs.size) >>= fun _ => letGo [before] [.ref hp.objs.size] >>= fun _ => ret (.ref hp.objs.size)) Q E ⟨hp.push { cls := .type "tuple", data := .seq vs.toArray }, g, dd, tk, os⟩ := by
  have hne : it ≠ hp.objs.size := Nat.ne_of_lt (Heap.lt_size hit)
  have hit2 : IsCb (hp.push { cls := .type "tuple", data := .seq vs.toArray }) it P st last ix := Heap.get?_push_of_some _ hit
  refine wpAny_bind (wpAny_field hit2 rfl (x := last) rfl ?_)
  refine wpAny_bind (wpAny_setField hit2 rfl (by simp) ?_)
  refine wpAny_bind (wpAny_letGo (wpAny_pure ?_))
  refine hQ _ ?_ ?_ fun b o hb e => ?_
  · exact Heap.get?_update_self (Obj.mapFields fun x => x.setIfInBounds 2 (Value.ref hp.objs.size)) hit2 rfl
  · exact (Heap.get?_update_other _ _ hne).trans (Heap.get?_push_size _ rfl)
  · exact (Heap.get?_update_other _ _ (Ne.symm hb)).trans (Heap.get?_push_of_some _ e)
theorem item0_cb {it P : Addr} {items : Array Value} {ix : List Nat} {last : Value} {Q : Option Value → Shared → Prop} (hit : IsCb s.heap it P 0 last ix) (hp : s.heap.IsTuple P items) (hne : it ≠ P) (hix : ix.length ≤ 1000)
    (hQ : ∀ h', IsCb h' it P 1 (.ref s.heap.objs.size) ix → h'.get? s.heap.objs.size = some { cls := .type "tuple", data := .seq (ix.map fun i => items.getD i .none).toArray } → (∀ b o, b ≠ it → s.heap.get? b = some o → h'.get? b = some o) → Q (some (.ref s.heap.objs.size)) { s with heap := h' }) : wpAny (model prog w) A (pyNext (.ref it)) Q E s := by
  have hT : s.TypeIs (.ref it) "itertools.combinations" := ⟨_, hit, rfl⟩
  unfold pyNext
  refine wpAny_bind (wpAny_attempt (wpAny_callSpecial?_slot (name := Str.ofString "__next__") hT slot_cb_next (wpAny_call_entry slot_cb_next hT entry_cb_next ?_ (args_cb_next _))))
  show wpAny _ _ (field (.ref it) 0 >>= _) _ _ s
  refine wpAny_bind (wpAny_field hit rfl (x := .ref P) rfl ?_)
  refine wpAny_bind (num_cb hit ?_)
  refine wpAny_bind (st_cb hit ?_)
  show wpAny _ _ (setField (.ref it) 1 (rawInt 1) >>= _) _ _ s
  refine wpAny_bind (wpAny_setField hit rfl (by simp) ?_)
  have hit2 : IsCb (s.heap.update it (Obj.mapFields fun x => x.setIfInBounds 1 (rawInt 1))) it P 1 last ix := Heap.get?_update_self _ hit rfl
  have sb : Heap.SameBut it s.heap (s.heap.update it (Obj.mapFields fun x => x.setIfInBounds 1 (rawInt 1))) := Heap.SameBut.update ..
  have hp2 : (s.heap.update it (Obj.mapFields fun x => x.setIfInBounds 1 (rawInt 1))).IsTuple P items := by
    obtain ⟨o, ho, r⟩ := hp
    exact ⟨o, sb.extBut _ _ (Ne.symm hne) ho, r⟩
  have ez : (s.heap.update it (Obj.mapFields fun x => x.setIfInBounds 1 (rawInt 1))).objs.size = s.heap.objs.size := sb.1
  show wpAny _ _ ((Builtin.Itertools.itPoolItems (.ref P) >>= _) >>= _) _ _ _
  refine wpAny_bind (wpAny_bind (pool_cb hp2 ?_))
  refine wpAny_newObj_type ?_ (by show _ ≤ sizeLine; rw [sizeLine_eq]; simp; omega)
  refine fin_cb hit2 fun h' a1 a2 a3 => ⟨_, rfl, wpAny_pure ?_⟩
  rw [ez] at a1 a2 ⊢
  exact hQ h' a1 a2 fun b o hb e => a3 b o hb (sb.extBut _ _ hb e)
/-- the choices of r places of n, in the order in which they are made -/
def cbs : List Nat → Nat → List (List Nat)
  | _, 0 => [[]]
  | [], _ + 1 => []
  | x :: xs, r + 1 => (cbs xs r).map (x :: ·) ++ cbs xs (r + 1)
def cbsN (n r : Nat) : List (List Nat) := cbs (List.range n) r
theorem nums_set (P : Addr) (st : Int) (last : Value) (ix ix' : List Nat) : ((.ref P :: .int st 0 :: last :: ix.map (fun i : Nat => rawInt i)).toArray.extract 0 3 ++ (ix'.map fun (n : Nat) => rawInt n).toArray) = (.ref P :: .int st 0 :: last :: ix'.map (fun i : Nat => rawInt i)).toArray := by
  apply Array.toList_inj.mp
  simp
theorem setNum_cb {it P : Addr} {st : Int} {last : Value} {ix ix' : List Nat} {Q : Unit → Shared → Prop} (hit : IsCb s.heap it P st last ix) (hl : ix'.length ≤ 1000) (h : ∀ h', IsCb h' it P st last ix' → Heap.SameBut it s.heap h' → Q () { s with heap := h' }) :
    wpAny (model prog w) A (Builtin.Itertools.itSetNumbersFrom (.ref it) 3 ix') Q E s := by
  unfold Builtin.Itertools.itSetNumbersFrom
  refine wpAny_updateFields hit rfl (h _ ?_ (Heap.SameBut.update ..)) (by rw [nums_set]; show _ ≤ _; rw [sizeLine_eq]; simp; omega)
  have e := Heap.get?_update_self (Obj.mapFields fun fs => fs.extract 0 3 ++ (ix'.map fun (n : Nat) => rawInt n).toArray) hit rfl
  refine e.trans ?_
  show some _ = some _
  unfold Obj.mapFields
  simp only
  rw [nums_set]
theorem next_cb : ∃ F : Nat → List Nat → Option (List Nat),
    (∀ (prog : Program) (w : World) (A : Around) (E : Value → Shared → Prop) (s : Shared) (it P : Addr) (items : Array Value) (n : Nat) (ix ix' : List Nat) (last : Value) (Q : Option Value → Shared → Prop), IsCb s.heap it P 1 last ix → s.heap.IsTuple P items → items.size = n → it ≠ P → ix'.length ≤ 1000 → F n ix = some ix' →
      (∀ h', IsCb h' it P 1 (.ref s.heap.objs.size) ix' → h'.get? s.heap.objs.size = some { cls := .type "tuple", data := .seq (ix'.map fun i => items.getD i .none).toArray } → (∀ b o, b ≠ it → s.heap.get? b = some o → h'.get? b = some o) → Q (some (.ref s.heap.objs.size)) { s with heap := h' }) → wpAny (model prog w) A (pyNext (.ref it)) Q E s) ∧
    (∀ (prog : Program) (w : World) (A : Around) (E : Value → Shared → Prop) (s : Shared) (it P : Addr) (items : Array Value) (n : Nat) (ix : List Nat) (last : Value) (Q : Option Value → Shared → Prop), A.handled = none → IsCb s.heap it P 1 last ix → s.heap.IsTuple P items → items.size = n → F n ix = none →
      (∀ h', Heap.ExtBut it s.heap h' → Q none { s with heap := h' }) → wpAny (model prog w) A (pyNext (.ref it)) Q E s) ∧
    (((List.range 6).all fun n => (List.range 6).all fun r => !(decide (1 ≤ r) && decide (r ≤ n)) || ((List.range (cbsN n r).length).all fun i => decide (F n ((cbsN n r).getD i []) = (cbsN n r)[i + 1]?) && decide (((cbsN n r).getD i []).length ≤ n) && ((cbsN n r).getD i []).all (fun j => decide (j < n))) && decide ((cbsN n r).getD 0 [] = List.range r) && decide (1 ≤ (cbsN n r).length)) = true) := by
  refine ⟨?F, ?_, ?_, ?_⟩
  rotate_left
  · intro prog w A E s it P items n ix ix' last Q hit hp hn hne hix hF hQ
    have hT : s.TypeIs (.ref it) "itertools.combinations" := ⟨_, hit, rfl⟩
    unfold pyNext
    refine wpAny_bind (wpAny_attempt (wpAny_callSpecial?_slot (name := Str.ofString "__next__") hT slot_cb_next (wpAny_call_entry slot_cb_next hT entry_cb_next ?_ (args_cb_next _))))
    show wpAny _ _ (field (.ref it) 0 >>= _) _ _ s
    refine wpAny_bind (wpAny_field hit rfl (x := .ref P) rfl ?_)
    refine wpAny_bind (num_cb hit ?_)
    refine wpAny_bind (st_cb hit ?_)
    show wpAny _ _ (Builtin.Itertools.itPoolItems (.ref P) >>= _) _ _ s
    refine wpAny_bind (pool_cb hp ?_)
    rw [hn]
    show wpAny _ _ (match ?F n ix with | some next => _ | none => _) _ _ s
    rw [hF]
    show wpAny _ _ (Builtin.Itertools.itSetNumbersFrom (.ref it) 3 ix' >>= _) _ _ s
    refine wpAny_bind (setNum_cb hit hix fun h2 hit2 sb => ?_)
    have hp2 : h2.IsTuple P items := by
      obtain ⟨o, ho, r⟩ := hp
      exact ⟨o, sb.extBut _ _ (Ne.symm hne) ho, r⟩
    have ez : h2.objs.size = s.heap.objs.size := sb.1
    show wpAny _ _ ((Builtin.Itertools.itPoolItems (.ref P) >>= _) >>= _) _ _ _
    refine wpAny_bind (wpAny_bind (pool_cb hp2 ?_))
    refine wpAny_newObj_type ?_ (by show _ ≤ sizeLine; rw [sizeLine_eq]; simp; omega)
    refine fin_cb hit2 fun h' a1 a2 a3 => ⟨_, rfl, wpAny_pure ?_⟩
    rw [ez] at a1 a2 ⊢
    exact hQ h' a1 a2 fun b o hb e => a3 b o hb (sb.extBut _ _ hb e)
  · intro prog w A E s it P items n ix last Q hh hit hp hn hF hQ
    have hT : s.TypeIs (.ref it) "itertools.combinations" := ⟨_, hit, rfl⟩
    unfold pyNext
    refine wpAny_bind (wpAny_attempt (wpAny_callSpecial?_slot (name := Str.ofString "__next__") hT slot_cb_next (wpAny_call_entry slot_cb_next hT entry_cb_next ?_ (args_cb_next _))))
    show wpAny _ _ (field (.ref it) 0 >>= _) _ _ s
    refine wpAny_bind (wpAny_field hit rfl (x := .ref P) rfl ?_)
    refine wpAny_bind (num_cb hit ?_)
    refine wpAny_bind (st_cb hit ?_)
    show wpAny _ _ (Builtin.Itertools.itPoolItems (.ref P) >>= _) _ _ s
    refine wpAny_bind (pool_cb hp ?_)
    rw [hn]
    rw [hF]
    show wpAny _ _ (setField (.ref it) 1 (rawInt 2) >>= _) _ _ s
    refine wpAny_bind (wpAny_setField hit rfl (by simp) ?_)
    show wpAny _ _ (newExc (.type "StopIteration") [] >>= _) _ _ _
    refine wpAny_bind ?_
    simp only [newExc, newTuple]
    refine wpAny_bind (wpAny_newObj_type ?_ (by size_fits))
    refine wpAny_bind (m := firstArgMember _ _) (wpAny_of_eq (a := Value.none) (by first | rfl | (simp only [firstArgMember]; rfl)) ?_)
    refine wpAny_newObj_type ?_ (by size_fits)
    simp only [raiseNew]
    refine wpAny_bind (wpAny_handled ?_)
    first | rw [show A.in1.handled = none from hh] | rw [hh]
    refine wpAny_bind (wpAny_pure (wpAny_throw ?_))
    refine wpAny_bind (wpAny_isInstance (T := "StopIteration") (b := true) ⟨_, Heap.get?_push_size _ rfl, rfl⟩ isSubtype_stop ?_)
    exact wpAny_pure (hQ _ (((Heap.SameBut.update ..).extBut.push _).push _))
  · decide +kernel
end
end VLC
set_option Elab.async false
set_option linter.all false
set_option maxRecDepth 100000
set_option maxHeartbeats 4000000
/-! VL13: combinations(t, r) walked, t a tuple of at most five ints. -/
namespace VL
open PySem PySem.Spec PyProof.Rows L2 VLC
def pickI (ns : List Int) (ix : List Nat) : List Int := ix.map fun j => ns.getD j 0
theorem cb_tab : ∃ F : Nat → List Nat → Option (List Nat),
    (∀ (prog : Program) (w : World) (A : Around) (E : Value → Shared → Prop) (s : Shared) (it P : Addr) (items : Array Value) (n : Nat) (ix ix' : List Nat) (last : Value) (Q : Option Value → Shared → Prop), IsCb s.heap it P 1 last ix → s.heap.IsTuple P items → items.size = n → it ≠ P → ix'.length ≤ 1000 → F n ix = some ix' →
      (∀ h', IsCb h' it P 1 (.ref s.heap.objs.size) ix' → h'.get? s.heap.objs.size = some { cls := .type "tuple", data := .seq (ix'.map fun i => items.getD i .none).toArray } → (∀ b o, b ≠ it → s.heap.get? b = some o → h'.get? b = some o) → Q (some (.ref s.heap.objs.size)) { s with heap := h' }) → wpAny (model prog w) A (pyNext (.ref it)) Q E s) ∧
    (∀ (prog : Program) (w : World) (A : Around) (E : Value → Shared → Prop) (s : Shared) (it P : Addr) (items : Array Value) (n : Nat) (ix : List Nat) (last : Value) (Q : Option Value → Shared → Prop), A.handled = none → IsCb s.heap it P 1 last ix → s.heap.IsTuple P items → items.size = n → F n ix = none →
      (∀ h', Heap.ExtBut it s.heap h' → Q none { s with heap := h' }) → wpAny (model prog w) A (pyNext (.ref it)) Q E s) ∧
    (∀ n r, n ≤ 5 → 1 ≤ r → r ≤ n → (cbsN n r)[0]? = some (List.range r) ∧ ∀ i ix, (cbsN n r)[i]? = some ix → F n ix = (cbsN n r)[i + 1]? ∧ ix.length ≤ n ∧ ∀ j ∈ ix, j < n) := by
  obtain ⟨F, h1, h2, h3⟩ := next_cb
  refine ⟨F, h1, h2, fun n r hn hr hrn => ?_⟩
  rw [List.all_eq_true] at h3
  have h4 := h3 n (List.mem_range.mpr (by omega))
  rw [List.all_eq_true] at h4
  have h5 := h4 r (List.mem_range.mpr (by omega))
  rw [decide_eq_true hr, decide_eq_true hrn] at h5
  simp only [Bool.and_self, Bool.not_true, Bool.false_or, Bool.and_eq_true, decide_eq_true_eq, List.all_eq_true, List.mem_range] at h5
  obtain ⟨⟨h6, h7⟩, h8⟩ := h5
  have gd : ∀ i ix, (cbsN n r)[i]? = some ix → (cbsN n r).getD i [] = ix := fun i ix e => by rw [List.getD_eq_getElem?_getD, e]; rfl
  refine ⟨?_, fun i ix e => ?_⟩
  · rw [List.getD_eq_getElem?_getD, List.getElem?_eq_getElem (by omega)] at h7
    rw [List.getElem?_eq_getElem (by omega)]
    exact congrArg some h7
  · have hi := (List.getElem?_eq_some_iff.mp e).1
    obtain ⟨⟨a, b⟩, c⟩ := h6 i hi
    rw [gd i ix e] at a b c
    exact ⟨a, b, c⟩
/-- the choices of r of ns, each a new tuple -/
def Icb (ns : List Int) (r : Nat) : It :=
  ⟨fun i _ => i < (cbsN ns.length r).length, fun i H v H' => ∃ T ix, v = .ref T ∧ H T = none ∧ (cbsN ns.length r)[i]? = some ix ∧ H' = upd H T (.tup ((pickI ns ix).map V.int)), fun i _ => (cbsN ns.length r).length ≤ i⟩
theorem vals_pick {ns : List Int} {its : List Value} (rv : Vals (ns.map V.int) its) : ∀ (ix : List Nat), (∀ j ∈ ix, j < ns.length) → Vals ((pickI ns ix).map V.int) (ix.map fun i => its.toArray.getD i .none)
  | [], _ => .nil
  | j :: ix, h => by
    refine .cons ?_ (vals_pick rv ix fun k hk => h k (List.mem_cons_of_mem _ hk))
    have hj := h j List.mem_cons_self
    obtain ⟨u, e, ru⟩ := Vals.get rv (i := j) (x := V.int (ns.getD j 0)) (by rw [List.getElem?_map, List.getD_eq_getElem?_getD, List.getElem?_eq_getElem hj]; rfl)
    have e2 : its.toArray.getD j .none = u := by
      have hl := (List.getElem?_eq_some_iff.mp e)
      obtain ⟨h1, h2⟩ := hl
      simp [Array.getD, h1, h2]
    show RelV (V.int (ns.getD j 0)) (its.toArray.getD j .none)
    rw [e2]
    exact ru
theorem turn_cb {P : Program} {w : World} {K : PySem.W.Frag} {tg : Expr} (it pl : Addr) {ns : List Int} {its : List Value} (rv : Vals (ns.map V.int) its) {r : Nat} (hn : ns.length ≤ 5) (hr : 1 ≤ r) (hrn : r ≤ ns.length) :
    Turn P w K tg (Icb ns r) [it, pl] it (fun i h => it ≠ pl ∧ h.IsTuple pl its.toArray ∧ ((i = 0 ∧ IsCb h it pl 0 .none (List.range r)) ∨ ∃ j last ix, i = j + 1 ∧ (cbsN ns.length r)[j]? = some ix ∧ IsCb h it pl 1 last ix)) := by
  obtain ⟨F, hF1, hF2, hF3⟩ := cb_tab
  obtain ⟨hF4, hF5⟩ := hF3 ns.length r hn hr hrn
  have hlen := rv.length
  rw [List.length_map] at hlen
  have hsz : its.toArray.size = ns.length := by rw [List.size_toArray, hlen]
  have obj : ∀ i h, (it ≠ pl ∧ h.IsTuple pl its.toArray ∧ ((i = 0 ∧ IsCb h it pl 0 .none (List.range r)) ∨ ∃ j last ix, i = j + 1 ∧ (cbsN ns.length r)[j]? = some ix ∧ IsCb h it pl 1 last ix)) → ∃ st last ix, IsCb h it pl st last ix := by
    intro i h st
    rcases st with ⟨_, _, ⟨_, q⟩ | ⟨j, last, ix, _, _, q⟩⟩
    · exact ⟨_, _, _, q⟩
    · exact ⟨_, _, _, q⟩
  refine ⟨by simp, fun i h st b hb => ?_, fun i h h' st k => ?_, ?_, ?_, fun A i s Q E st h => ?_⟩
  · have e' : b = it ∨ b = pl := by simpa using hb
    rcases e' with z | z
    · obtain ⟨_, _, _, q⟩ := obj i h st
      rw [z]; exact ⟨_, q, fun v q => nomatch q⟩
    · obtain ⟨o, ho, _, n, hd⟩ := st.2.1
      rw [z]; exact ⟨o, ho, fun v q => by rw [hd] at q; cases q⟩
  · obtain ⟨h1, ⟨o, ho, hr'⟩, h2⟩ := st
    refine ⟨h1, ⟨o, k pl (by simp) _ ho, hr'⟩, ?_⟩
    rcases h2 with ⟨a, q⟩ | ⟨j, last, ix, a, b, q⟩
    · exact .inl ⟨a, k it (by simp) _ q⟩
    · exact .inr ⟨j, last, ix, a, b, k it (by simp) _ q⟩
  · intro X hP hw hK hc i pins s σ H E I hf st hg
    subst hP hw hK
    obtain ⟨sti, lasti, ixi, hcb⟩ := obj i _ st
    have hil : it < s.heap.objs.size := Heap.lt_size hcb
    have hpl : pl < s.heap.objs.size := by obtain ⟨_, ⟨_, q, _⟩, _⟩ := st; exact Heap.lt_size q
    have hg' : i < (cbsN ns.length r).length := hg
    have fin : ∀ (ix : List Nat), (cbsN ns.length r)[i]? = some ix → ∀ h', IsCb h' it pl 1 (.ref s.heap.objs.size) ix → h'.get? s.heap.objs.size = some { cls := .type "tuple", data := .seq (ix.map fun i => its.toArray.getD i .none).toArray } → (∀ b o, b ≠ it → s.heap.get? b = some o → h'.get? b = some o) →
        ∃ u, some (Value.ref s.heap.objs.size) = some u ∧ wpAny (model X.prog X.w) X.A (letOwnedTupleGo tg (.ref it) u) (fun _ s2 => ∃ x H', Inv X pins σ H' s2 ∧ RelV x u ∧ (Icb ns r).yld i H x H' ∧ (it ≠ pl ∧ s2.heap.IsTuple pl its.toArray ∧ ((i + 1 = 0 ∧ IsCb s2.heap it pl 0 .none (List.range r)) ∨ ∃ j last ix, i + 1 = j + 1 ∧ (cbsN ns.length r)[j]? = some ix ∧ IsCb s2.heap it pl 1 last ix)) ∧ ∀ b ∈ [it, pl], H' b = none) E { s with heap := h' } := by
      intro ix hix h' a1 a2 a3
      obtain ⟨_, hl, hlt⟩ := hF5 i ix hix
      refine ⟨_, rfl, go_of (s := { s with heap := h' }) (n := "itertools.combinations") a1 rfl rfl (by decide) ?_⟩
      have new : ObjOk X.prog X.w (upd H s.heap.objs.size (.tup ((pickI ns ix).map V.int))) h' s.heap.objs.size (.tup ((pickI ns ix).map V.int)) :=
        ⟨by rw [List.length_map]; unfold pickI; rw [List.length_map]; exact le_line (by omega), _, vals_pick rv ix hlt, ⟨_, a2, rfl, _, rfl⟩⟩
      have hf1 : ∀ b ∈ [it], FpOk X pins H b := fun b hb => hf b (List.mem_cons.mpr (.inl (by simpa using hb)))
      have I1 : Inv X pins σ (upd H s.heap.objs.size (.tup ((pickI ns ix).map V.int))) { s with heap := h' } := I.turnedNew (t' := s.toks) (ch := [it]) (fun b ob hb q => a3 b ob (fun z => hb (by simp [z])) q) hf1 (Nat.le_refl _) new
      refine ⟨.ref s.heap.objs.size, _, I1, rfl, ⟨_, ix, rfl, I.hok.fresh (Nat.le_refl _), hix, rfl⟩, ⟨st.1, ?_, .inr ⟨i, _, ix, rfl, hix, a1⟩⟩, fun b hb => ?_⟩
      · obtain ⟨hne, ⟨o, ho, r'⟩, _⟩ := st
        exact ⟨o, a3 _ _ (fun z => hne z.symm) ho, r'⟩
      · have hb' : b < s.heap.objs.size := by
          have e' : b = it ∨ b = pl := by simpa using hb
          rcases e' with z | z
          · rw [z]; exact hil
          · rw [z]; exact hpl
        rw [upd_ne (Nat.ne_of_lt hb')]
        exact (hf b hb).1
    obtain ⟨hne, hpt, hst⟩ := _root_.id st
    rcases hst with ⟨e0, q⟩ | ⟨j, last, ix, e0, hix, q⟩
    · subst e0
      exact item0_cb q hpt hne (by rw [List.length_range]; omega) (fin _ hF4)
    · subst e0
      obtain ⟨hFn, _, _⟩ := hF5 j ix hix
      obtain ⟨_, hl2, _⟩ := hF5 (j + 1) _ (List.getElem?_eq_getElem hg')
      exact hF1 _ _ _ _ _ _ _ _ _ _ _ _ _ q hpt hsz hne (by omega) (by rw [hFn, List.getElem?_eq_getElem hg']) (fin _ (List.getElem?_eq_getElem hg'))
  · intro X hP hw hK hc i pins s σ H E I hf st hg
    subst hP hw hK
    obtain ⟨f0, f1, f2, f3, f4, f5⟩ := hf it (by simp)
    have hg' : (cbsN ns.length r).length ≤ i := hg
    have h0 : 0 < (cbsN ns.length r).length := (List.getElem?_eq_some_iff.mp hF4).1
    obtain ⟨hne, hpt, hst⟩ := _root_.id st
    rcases hst with ⟨e0, q⟩ | ⟨j, last, ix, e0, hix, q⟩
    · omega
    · subst e0
      obtain ⟨hFn, _, _⟩ := hF5 j ix hix
      exact hF2 _ _ _ _ _ _ _ _ _ _ _ _ (I.ok.hd hc) q hpt hsz (by rw [hFn, List.getElem?_eq_none hg']) fun h' eb => ⟨rfl, I.turned (t' := s.toks) (fun b o hb q => eb b o hb q) f0 f1 f3 f4 f5⟩
  · obtain ⟨_, _, _, q⟩ := obj i _ st
    exact iter_cb q h
def iCb (K : PySem.W.Frag) (ta : TA) : TI := fun σ H R => ta σ H fun vs H1 => ∃ (a : Addr) (ns : List Int) (r : Nat), vs = [.ref a, .int r] ∧ SqT K H1 a (ns.map V.int) ∧ ns.length ≤ 5 ∧ 1 ≤ r ∧ r ≤ ns.length ∧ R (Icb ns r) H1
section
variable {X : Cx} {tg a b e : Expr} {pos : Pos} {ws : WA}
theorem pi_cb {ta : TA} {x : Str} {p : Pos} (hg : Gl X x) (hm : X.mg x = some (.type "itertools.combinations")) (ha : PA X [a, b] ta) (hdb : (x == ("__debug__" : Str)) = false := by decide)
    (hs : starEach [a, b] X.env = (false, eval a X.env) :: starEach [b] X.env := by rfl) (hpl : (backTo pos (starEach [b] X.env)).any (·.1) = false := by rfl) : PI X tg (.Call (.Name x p) [a, b] [] pos) (iCb X.K ta) := by
  refine ⟨fun pins s σ H R I h => ?_⟩
  refine Call_ (ld_glob I hg hm (PyProof.Rows.callWith_type1 (thn (ha.run pos pins s σ H _ I h) fun us s1 ⟨vs, H1, I1, r1, q1⟩ => ?_) hs hpl) hdb)
  obtain ⟨t, ns, r, ex, hq, hn, hr, hrn, q⟩ := q1
  subst ex
  obtain ⟨u, w', rfl, ru, rw'⟩ := vals2 r1
  cases ru
  obtain ⟨tk, rfl⟩ := (show ∃ tk, w' = Value.int (r : Nat) tk from rw')
  obtain ⟨its, rv, hT, hz⟩ := I1.tuple hq
  have hlen := rv.length
  rw [List.length_map] at hlen
  have hL : s1.heap.objs.size ≤ s1.heap.objs.size := Nat.le_refl _
  refine callType_new called_cb (by decide +kernel) (typeCall_cb_2 _ _) (newCall_cb_2 _ _) (fun obj => F.args_object_init_3 obj _ _) entry_cb_new (meets_cb_new t its.toArray r tk (by rw [List.size_toArray]; omega) (by rw [List.size_toArray]; omega)) ⟨?_, fun h' hk => ?_⟩
  · obtain ⟨o, ho, r'⟩ := hT
    exact ⟨o, ho, r'⟩
  · have e4 : (h'.push { cls := Value.type "tuple", data := Data.seq its.toArray }).objs.size = h'.objs.size + 1 := Heap.size_push ..
    have hcb : IsCb ((h'.push { cls := Value.type "tuple", data := Data.seq its.toArray }).push { cls := .type "itertools.combinations", data := .fields (.ref h'.objs.size :: .int 0 0 :: .none :: (List.range r).map (fun i : Nat => rawInt i)).toArray }) (h'.objs.size + 1) h'.objs.size 0 .none (List.range r) := by
      unfold IsCb
      rw [← e4]
      exact Heap.get?_push_size _ rfl
    have hpl' : ((h'.push { cls := Value.type "tuple", data := Data.seq its.toArray }).push { cls := .type "itertools.combinations", data := .fields (.ref h'.objs.size :: .int 0 0 :: .none :: (List.range r).map (fun i : Nat => rawInt i)).toArray }).IsTuple h'.objs.size its.toArray :=
      ⟨_, Heap.get?_push_of_some _ (Heap.get?_push_size _ rfl), rfl, _, rfl⟩
    refine ⟨⟨_, hcb, rfl⟩, iter_cb hcb ?_⟩
    have I2 : Inv X pins σ H1 { s1 with heap := ((h'.push { cls := Value.type "tuple", data := Data.seq its.toArray }).push { cls := .type "itertools.combinations", data := .fields (.ref h'.objs.size :: .int 0 0 :: .none :: (List.range r).map (fun i : Nat => rawInt i)).toArray }) } :=
      I1.kept (t' := s1.toks) fun b o e => Heap.get?_push_of_some _ (Heap.get?_push_of_some _ (hk b o e))
    have I3 : Inv X pins σ H1 { s1 with heap := h' } := I1.kept (t' := s1.toks) hk
    refine ⟨h'.objs.size + 1, [h'.objs.size + 1, h'.objs.size], _, _, H1, rfl, I2, turn_cb (h'.objs.size + 1) h'.objs.size rv hn hr hrn, ⟨Nat.succ_ne_self _, hpl', .inl ⟨rfl, hcb⟩⟩, fun b hb => ?_, q⟩
    have hle : h'.objs.size ≤ b := by
      have e' : b = h'.objs.size + 1 ∨ b = h'.objs.size := by simpa using hb
      rcases e' with z | z
      · rw [z]; exact Nat.le_succ _
      · rw [z]; exact Nat.le_refl _
    exact I3.fpOk hle (I3.hok.fresh hle)
/-! over values -/
theorem walkD_cb {ns : List Int} {r : Nat} : WalkD (Icb ns r) ((cbsN ns.length r).map fun ix => tI (pickI ns ix)) [] := by
  refine ⟨fun ad m hid i H hi h => ?_, fun ad m hid H h => ?_, fun ad m hid i H x H' h ht hi y => ?_⟩
  · rw [List.length_map] at hi
    exact hi
  · exact Nat.le_of_eq (List.length_map ..).symm
  · obtain ⟨T, ix, rfl, hT, hix, rfl⟩ := y
    have s : Same H (upd H T (.tup ((pickI ns ix).map V.int))) := fun b o e => by rw [upd_ne (ne_of_none e hT)]; exact e
    exact ⟨_, by rw [List.getElem?_map, hix]; rfl, s, .tup upd_same (DenL.of_ints _)⟩
def wCb (ws : WA) : WI := fun δ M Q => ws δ M fun rs M1 => as2 rs fun a b => asInt b fun r => ∃ ns : List Int, a = .v (tI ns) ∧ (ns.length ≤ 5 ∧ 1 ≤ r ∧ r ≤ ns.length) ∧ Q ((cbsN ns.length r.toNat).map fun ix => tI (pickI ns ix)) M1
theorem vi_cb {x : Str} {p : Pos} (hm : X.mg x = some (.type "itertools.combinations")) (ha : VA X [a, b] ws) (hg : Gl X x := by rfl) (hdb : (x == ("__debug__" : Str)) = false := by decide)
    (hs : starEach [a, b] X.env = (false, eval a X.env) :: starEach [b] X.env := by rfl) (hpl : (backTo pos (starEach [b] X.env)).any (·.1) = false := by rfl) : VI X tg (.Call (.Name x p) [a, b] [] pos) (wCb ws) := by
  refine ⟨PI.imp (pi_cb hg hm ha.pa hdb hs hpl) ?_, fun δ M Q Q' h q => ha.mono _ _ _ _ (fun rs M1 => as2_mono fun a b => asInt_mono fun r ⟨ns, e, hr, q⟩ => ⟨ns, e, hr, h _ _ q⟩) q⟩
  rintro σ H R ⟨C, δ, M, τ, rel, q⟩
  refine ⟨C, δ, M, τ, rel, ha.mono _ _ _ _ (fun rs M1 q vs H1 hl rel1 => ?_) q⟩
  obtain ⟨ra, rb, ers, q2⟩ := as2_ok q
  subst ers
  obtain ⟨v, w, rfl⟩ := len2 hl
  obtain ⟨r, rfl, ns, rfl, ⟨h1, h2, h3⟩, q3⟩ := asInt_ok q2
  have ew := rel_int (v := w) rel1 (List.mem_cons_of_mem _ List.mem_cons_self)
  subst ew
  obtain ⟨ad, r1⟩ := _root_.id rel1
  obtain ⟨t, rfl, et⟩ := den_tI (show Den (avo ad M1.length C.hid) H1 v (tI ns) from r1.tmp (v, .v (tI ns)) List.mem_cons_self)
  obtain ⟨k, rfl⟩ : ∃ k : Nat, r = k := ⟨r.toNat, by omega⟩
  rw [Int.toNat_natCast] at q3
  exact ⟨t, ns, k, rfl, SqT.of et, h1, by omega, by omega, q3 _ H1 [] rel1.tail.tail walkD_cb⟩
end
end VL
set_option Elab.async false
set_option linter.all false
set_option maxRecDepth 100000
set_option maxHeartbeats 4000000
/-! VL14: sorted(set(xs)) of a list of ints, or of a list of pairs of small ints, with few distinct items. -/
namespace VLS
open PySem PySem.Spec PyProof.Rows L2
abbrev newSet (w : World) : Obj := { cls := .type "set", dict := none, data := .set #[] 0 (.fresh 0 0 (!w.params.followText "set-order")) }
section
variable {P : Program} {w : World} {A : Around} {E : Value → Shared → Prop} {s : Shared}
/-- set(xs) of a list: what its loop makes of a new set -/
theorem call_set_listG {l : Addr} {items : Array Value} {Post : Heap → Prop} {Q : Value → Shared → Prop} (hh : A.handled = none) (hl : s.heap.IsList l items) (hu : A.units + 3 < cLine)
    (loop : ∀ (A' : Around) (s1 : Shared) (I : Addr) (R : Result → Shared → Prop), A'.in1.units < cLine → WalksS P w A'.in1 I [I, l] [I] (fun a b => b = a) items.size (fun i v => items[i]? = some v) (fun i s' => s'.heap.IsListIter I l i ∧ s'.heap.IsList l items) →
      s1.heap.IsListIter I l 0 → s1.heap.IsList l items → s.heap.objs.size ∉ [I, l] → s.heap.get? I = none → s1.heap.get? s.heap.objs.size = some (newSet w) → (∀ b o, s.heap.get? b = some o → s1.heap.get? b = some o) →
      (∀ s', Moved (s.heap.objs.size :: [I]) (fun a b => b = a) s1 s' → Post s'.heap → R (.ok (.ret .none)) s') → codeAny (model P w) A' (.builtin "set.update.loop" ⟨[.ref s.heap.objs.size, .ref I], []⟩) R s1)
    (h : ∀ (h' : Heap) (tk : Nat), Post h' → (∀ b o, s.heap.get? b = some o → h'.get? b = some o) → Q (.ref s.heap.objs.size) { s with heap := h', toks := tk }) :
    wpAny (model P w) A (call (.type "set") [.ref l]) Q E s := by
  obtain ⟨c, tl, hmro⟩ := F.called_set.mro
  have hmade := F.called_set.made
  have hsub := F.called_set.sub
  refine wpAny_call (codeAny_of_tree ?_)
  show wpAny _ _ (callAny (.type "set") _) _ _ _
  refine wpAny_pure ⟨Code.quiet_builtin _ (by decide +kernel), codeAny_builtin F.entry_type_call ?_⟩
  rw [Around.under_plain (weight_type_call_type "set" [.ref l] []) rfl]
  have h1 := F.called_set.notType
  have h2 := F.called_set.canCreate
  have hct := F.typeCall_set_1 (.ref l)
  repeat (any_goals (first | assumption | wp_step))
  refine codeAny_mono (code_set_led1 (.ref l) (E := E) (Q₁ := fun obj s₁ => obj = .ref s.heap.objs.size ∧ s₁ = { s with heap := s.heap.push (newSet w) }) ⟨rfl, rfl⟩) fun r s₁ hr => ?_
  match r, hr with
  | .error e, hr => exact hr
  | .ok (.ret obj), hr =>
    obtain ⟨rfl, rfl⟩ := hr
    have hS : (s.heap.push (newSet w)).get? s.heap.objs.size = some (newSet w) := Heap.get?_push_size _ rfl
    have hT : Shared.TypeIs { s with heap := s.heap.push (newSet w) } (.ref s.heap.objs.size) "set" := ⟨_, hS, rfl⟩
    have hli := F.called_set.init.lookup
    have hbi := F.called_set.init.bind (.ref s.heap.objs.size)
    repeat (any_goals (first | assumption | wp_step))
    refine codeAny_mono (codeAny_call_builtin (R := wants (fun r s₂ => r = .none ∧ ∃ h' tk, s₂ = { s with heap := h', toks := tk } ∧ Post h' ∧ (∀ b o, s.heap.get? b = some o → h'.get? b = some o)) E) F.called_set.init.plain F.entry_set_init (check_set_init_1 hT ?_)) fun r₂ s₂ hr₂ => ?_
    · obtain ⟨ol, hol, hcl, nl, hdl⟩ := hl
      obtain ⟨ocls, odict, odata, oslots⟩ := ol
      simp only at hcl hdl
      subst hcl; subst hdl
      have hol' : (s.heap.push (newSet w)).get? l = some { cls := .type "list", dict := odict, data := .seq items nl, slots := oslots } := Heap.get?_push_of_some _ hol
      have hsls := F.sub_list_set
      have hslf := F.sub_list_frozenset
      have hne : (Value.type "list" == Value.type "dict") = false := by decide
      have hl1 : (s.heap.push (newSet w)).IsList l items := ⟨_, hol', rfl, nl, rfl⟩
      unfold Builtin.«set.__init__» noKeywords Builtin.Frozenset.updateFrom
      generalize hPI : pyIter = PI
      wp_walk
      subst hPI
      refine wpAny_pyIter_list hl1 ?_
      refine wpAny_bind (wpAny_runValue ?_)
      have hlS : l < s.heap.objs.size := Heap.lt_size hol
      have hh3 : A.in1.in1.in1.handled = none := by simp [hh]
      have hz1 : (s.heap.push (newSet w)).objs.size = s.heap.objs.size + 1 := Heap.size_push ..
      have hneI : l ≠ (s.heap.push (newSet w)).objs.size := by rw [hz1]; exact Nat.ne_of_lt (Nat.lt_succ_of_lt hlS)
      have hSf : s.heap.objs.size ∉ [(s.heap.push (newSet w)).objs.size, l] := by
        rw [hz1]; simp only [List.mem_cons, List.not_mem_nil, or_false, not_or]
        exact ⟨Nat.ne_of_lt (Nat.lt_succ_self _), Nat.ne_of_gt hlS⟩
      have hI0 : s.heap.get? (s.heap.push (newSet w)).objs.size = none := by
        cases q : s.heap.get? (s.heap.push (newSet w)).objs.size with
        | none => rfl
        | some o => exact absurd (Heap.lt_size q) (Nat.not_lt.mpr (by rw [hz1]; exact Nat.le_succ _))
      refine loop _ _ _ _ hu (Walks.list hh3 _ l hneI items).toS ⟨_, Heap.get?_push_size _ rfl, rfl, rfl⟩ (hl1.push _) hSf hI0 (Heap.get?_push_of_some _ hS) (fun b o e => Heap.get?_push_of_some _ (Heap.get?_push_of_some _ e)) fun s' hm hp => ?_
      obtain ⟨h', g2, d', tk', os'⟩ := s'
      have eg : g2 = s.gens := hm.gens
      have ed : d' = s.drawn := hm.drawn
      have eo : os' = s.os := hm.os
      subst eg; subst ed; subst eo
      show wpAny _ _ _ _ _ _
      refine wpAny_pure ?_
      show wpAny _ _ (ret Value.none) _ _ _
      refine wpAny_pure ⟨rfl, h', tk', rfl, hp, fun b o e => ?_⟩
      have hb0 : b < s.heap.objs.size := Heap.lt_size e
      refine hm.heap b o ?_ (Heap.get?_push_of_some _ (Heap.get?_push_of_some _ e))
      rw [hz1]
      simp only [List.mem_cons, List.not_mem_nil, or_false, not_or]
      exact ⟨Nat.ne_of_lt hb0, Nat.ne_of_lt (Nat.lt_succ_of_lt hb0)⟩
    · match r₂, hr₂ with
      | .error e, hr₂ => exact hr₂
      | .ok (.ret r), hr₂ =>
        obtain ⟨rfl, h', tk, rfl, hp, hk'⟩ := hr₂
        repeat (any_goals (first | assumption | wp_step))
        exact h _ _ hp hk'
/-! ints -/
theorem call_setI {l : Addr} {items : Array Value} (ns : List Int) {Q : Value → Shared → Prop} (hh : A.handled = none) (hl : s.heap.IsList l items) (hit : IntsAre items.toList ns) (hb : ns.length + 1 < scanBound) (hu : A.units + 3 < cLine)
    (h : ∀ (h' : Heap) (tk c : Nat), SetR w h' s.heap.objs.size (fun j => decide (j ∈ ns)) c → (∀ b o, s.heap.get? b = some o → h'.get? b = some o) → Q (.ref s.heap.objs.size) { s with heap := h', toks := tk }) :
    wpAny (model P w) A (call (.type "set") [.ref l]) Q E s := by
  have hisz : items.size = ns.length := by
    have q := IntsAre.length hit
    rw [Array.length_toList] at q
    exact q
  refine call_set_listG (Post := fun h' => ∃ c, SetR w h' s.heap.objs.size (fun j => decide (j ∈ ns)) c) hh hl hu (fun A' s1 I R _ W h1 h2 hSf _ h3 _ hR => ?_) fun h' tk ⟨c, hp⟩ hk => h h' tk c hp hk
  refine set_update_ints W _ hSf ns hisz hb (fun i v hv => ?_) (items.size - 0) 0 _ (by omega) (Nat.zero_le _) ⟨h1, h2⟩ ⟨0, Nat.le_refl 0, setR_new_at h3⟩ fun s' c hm _ hp => hR s' hm ⟨c, hp⟩
  have hi : i < ns.length := by rw [← hisz]; exact (Array.getElem?_eq_some_iff.mp hv).1
  obtain ⟨t, e⟩ := PyProof.Rows.IntsAre.int_at hit i v (by rw [Array.getElem?_toList]; exact hv)
  refine ⟨ns[i], t, List.getElem?_eq_getElem hi, ?_⟩
  rw [e, List.getD_eq_getElem?_getD, List.getElem?_eq_getElem hi]
  rfl
/-! tuples of ints, few distinct: U has all -/
theorem few_of {ks L : List (Addr × List Int)} {i : Nat} {U : List (List Int)} (hU : ∀ p ∈ ks, p.2 ∈ U) (hn : (L.map (·.2)).Nodup) (g : Got ks i L) : L.length ≤ U.length := by
  have h := List.Nodup.length_le_of_subset (l₂ := U) hn fun k hk => by
    obtain ⟨p, hp, rfl⟩ := List.mem_map.mp hk
    exact hU p (List.mem_of_mem_take (g.sub p hp))
  rwa [List.length_map] at h
theorem loop_tups {I : Addr} {fp wr : List Addr} {G : Array GenState → Array GenState → Prop} {n : Nat} {Pv : Nat → Value → Prop} {St : Nat → Shared → Prop} {R : Result → Shared → Prop}
    (W : WalksS P w A.in1 I fp wr G n Pv St) (S : Addr) (hSf : S ∉ fp) (ks : List (Addr × List Int)) (hn : n = ks.length) (U : List (List Int)) (hU : ∀ p ∈ ks, p.2 ∈ U) (hUl : U.length < 63) (hval : ∀ i v, Pv i v → ∃ p, ks[i]? = some p ∧ v = .ref p.1)
    (h0 : Heap) (hk : ∀ p ∈ ks, IsT P w h0 p.2 p.1) (hS0 : h0.get? S = none) (hw0 : ∀ b ∈ wr, h0.get? b = none) (hu : A.in1.units < cLine) (d : Nat) :
    ∀ (i : Nat) (s : Shared), n - i = d → i ≤ n → St i s → (∀ b o, h0.get? b = some o → s.heap.get? b = some o) → (∃ L es ep t, SetTR P w s.heap S L es ep t ∧ Got ks i L) →
      (∀ s' L es ep t, Moved (S :: wr) G s s' → SetTR P w s'.heap S L es ep t → Got ks n L → R (.ok (.ret .none)) s') →
      codeAny (model P w) A (.builtin "set.update.loop" ⟨[.ref S, .ref I], []⟩) R s := by
  have keepM : ∀ {s s' : Shared}, Moved wr G s s' → (∀ b o, h0.get? b = some o → s.heap.get? b = some o) → ∀ b o, h0.get? b = some o → s'.heap.get? b = some o := fun hm hkp b o e =>
    hm.heap b o (fun hb => by rw [hw0 b hb] at e; cases e) (hkp b o e)
  have toS : ∀ {s s' : Shared}, Moved wr G s s' → Moved (S :: wr) G s s' := fun hm => hm.mono fun b hb => List.mem_cons_of_mem _ hb
  have hSw : S ∉ wr := fun h => hSf (W.sub _ h)
  have stay : ∀ {s s' : Shared} {L es ep t i}, Moved wr G s s' → (∀ b o, h0.get? b = some o → s'.heap.get? b = some o) → Got ks i L → SetTR P w s.heap S L es ep t → SetTR P w s'.heap S L es ep t := fun hm hkp g hS =>
    hS.keep (fun o e => hm.heap S o hSw e) fun p hp => isT_keep (hk p (List.mem_of_mem_take (g.sub p hp))) hkp
  induction d with
  | zero =>
    intro i s hd hi hst hkp ⟨L, es, ep, t, hS, g⟩ hR
    obtain rfl : i = n := by omega
    refine codeAny_builtin F.entry_set_update_loop ?_
    rw [Around.under_plainId F.plain_set_update_loop _]
    show wpAny _ A.in1 (pyNext (.ref I) >>= _) _ _ s
    refine wpAny_bind (W.done s _ _ hst fun s' hm => ?_)
    exact wpAny_pure (hR s' L es ep t (toS hm) (stay hm (keepM hm hkp) g hS) g)
  | succ d ih =>
    intro i s hd hi hst hkp ⟨L, es, ep, t, hS, g⟩ hR
    refine codeAny_builtin F.entry_set_update_loop ?_
    rw [Around.under_plainId F.plain_set_update_loop _]
    show wpAny _ A.in1 (pyNext (.ref I) >>= _) _ _ s
    refine wpAny_bind (W.item i s _ _ (by omega) hst fun v s' hP hst' hm => ?_)
    obtain ⟨p, hp, rfl⟩ := hval i v hP
    have kp1 := keepM hm hkp
    have R1 := stay hm kp1 g hS
    have hx : IsT P w s'.heap p.2 p.1 := isT_keep (hk p (List.mem_of_getElem? hp)) kp1
    show wpAny _ A.in1 (holding [Value.ref p.1] (setAdd S (.ref p.1)) >>= _) _ _ s'
    refine wpAny_bind (wpAny_holding ?_)
    unfold setAdd
    refine wpAny_holding (wpAny_bind (wpAny_pyHash_tuple hu hx ?_))
    refine add_at (s := { s' with toks := s'.toks + (p.2.length + 1) }) R1 hx hu (by have := few_of hU R1.nd g; omega) fun b h' L' es' ep' t' hsb hS2 c1 c2 => ?_
    have g' : Got ks (i + 1) L' := (Classical.em (p.2 ∈ L.map (·.2))).elim (fun c => by rw [c1 c]; exact g.same hp c) fun c => g.more hp (c2 c)
    refine wpAny_pure ⟨plainId_quiet F.plain_set_update_loop _, ih (i + 1) _ (by omega) (by omega) (W.frame _ s' _ _ hst' (Nat.le_add_right _ _) fun b hb o e => ?_) (fun b o e => ?_) ⟨L', es', ep', t', hS2, g'⟩ fun s'' L2 es2 ep2 t2 hm'' hS'' g'' => ?_⟩
    · exact (hsb.2 b (fun z : b = S => hSf (by rw [← z]; exact hb))).trans e
    · exact (hsb.2 b (fun z => by rw [z, hS0] at e; cases e)).trans (kp1 b o e)
    · exact hR s'' L2 es2 ep2 t2 (Moved.trans W.gtrans ((toS hm).then_heap (Nat.le_add_right _ _) fun b o hb e => (hsb.2 b (fun z : b = S => hb (by rw [z]; exact List.mem_cons_self))).trans e) hm'') hS'' g''
theorem call_setT {l : Addr} {items : Array Value} (ks : List (Addr × List Int)) {Q : Value → Shared → Prop} (hh : A.handled = none) (hl : s.heap.IsList l items) (hit : items.toList = ks.map fun p => Value.ref p.1)
    (hk : ∀ p ∈ ks, IsT P w s.heap p.2 p.1) (U : List (List Int)) (hU : ∀ p ∈ ks, p.2 ∈ U) (hUl : U.length < 63) (hu : A.units + 3 < cLine)
    (h : ∀ (h' : Heap) (tk : Nat) L es ep t, SetTR P w h' s.heap.objs.size L es ep t → Got ks ks.length L → (∀ b o, s.heap.get? b = some o → h'.get? b = some o) → Q (.ref s.heap.objs.size) { s with heap := h', toks := tk }) :
    wpAny (model P w) A (call (.type "set") [.ref l]) Q E s := by
  have hisz : items.size = ks.length := by
    have q := congrArg List.length hit
    rw [Array.length_toList, List.length_map] at q
    exact q
  have hS0 : s.heap.get? s.heap.objs.size = none := by
    cases q : s.heap.get? s.heap.objs.size with
    | none => rfl
    | some o => exact absurd (Heap.lt_size q) (Nat.lt_irrefl _)
  refine call_set_listG (Post := fun h' => ∃ L es ep t, SetTR P w h' s.heap.objs.size L es ep t ∧ Got ks ks.length L) hh hl hu (fun A' s1 I R hu' W h1 h2 hSf hI h3 h4 hR => ?_) fun h' tk ⟨L, es, ep, t, hp, g⟩ hk => h h' tk L es ep t hp g hk
  refine loop_tups W _ hSf ks hisz U hU hUl (fun i v hv => ?_) s.heap hk hS0 (fun b hb => by rw [List.mem_singleton.mp hb]; exact hI) hu' (items.size - 0) 0 _ (by omega) (Nat.zero_le _) ⟨h1, h2⟩ h4 ⟨[], #[], 0, _, setTR_fresh h3, Got.zero ks⟩ fun s' L es ep t hm hp g => hR s' hm ⟨L, es, ep, t, hp, by rw [hisz] at g; exact g⟩
  have q : items.toList[i]? = some v := by rw [Array.getElem?_toList]; exact hv
  rw [hit, List.getElem?_map] at q
  cases hq : ks[i]? with
  | none => rw [hq] at q; cases q
  | some p =>
    rw [hq] at q
    exact ⟨p, rfl, (Option.some.inj q).symm⟩
end
end VLS
namespace VL
open PySem PySem.Spec PyProof.Rows L2 VLS
section
variable {X : Cx}
def rSetI (K : PySem.W.Frag) (w : World) : List V → Hp → VK → Prop := fun xs H Q => ∃ (l : Addr) (ns U : List Int), xs = [V.ref l] ∧ SqL K H l (ns.map V.int) ∧ ns.length ≤ 1000 ∧ (∀ k ∈ ns, k ∈ U) ∧ U.length < 64 ∧
  ∀ a c, H a = none → c < 64 → Q (.ref a) (upd H a (SetO w a (fun j => decide (j ∈ ns)) c))
theorem setR_count {w : World} {h : Heap} {a : Addr} {ns U : List Int} {c : Nat} (R : SetR w h a (fun j => decide (j ∈ ns)) c) (hU : ∀ k ∈ ns, k ∈ U) : c ≤ U.length := by
  obtain ⟨o, es, ep, t, _, _, _, _, hn, hS, _, _, hc, _⟩ := R
  have h := List.Nodup.length_le_of_subset (l₂ := U) hn fun k hk => hU k (by simpa using (hS k).mpr hk)
  rw [List.length_map, Array.length_toList, hc] at h
  exact h
theorem cr_setI (hc : X.calm = true) (hu : X.A.units + 4 < cLine) : CallR X (.type "set") (rSetI X.K X.w) := by
  intro pins s σ H xs us Q I r h
  obtain ⟨l, ns, U, rfl, hl, hz, hU, hUl, q⟩ := h
  rw [Vals.ref1 r]
  obtain ⟨its, rv, pl, hz'⟩ := I.list hl
  have hn : H s.heap.objs.size = none := I.hok.fresh (Nat.le_refl _)
  refine call_setI (P := X.prog) (w := X.w) ns (I.ok.hd hc) pl.isList (by simpa using rv.ints) (by unfold scanBound; omega) (by omega) fun h' tk c R k => ?_
  exact ⟨.ref s.heap.objs.size, upd H s.heap.objs.size (SetO X.w s.heap.objs.size (fun j => decide (j ∈ ns)) c), I.laid (t' := tk) k (Nat.le_refl _) (setO_new R), rfl, q _ c hn (Nat.lt_of_le_of_lt (setR_count R hU) hUl)⟩
def rSetT (K : PySem.W.Frag) (P : Program) (w : World) : List V → Hp → VK → Prop := fun xs H Q => ∃ (l : Addr) (ks : List (Addr × List Int)) (U : List (List Int)), xs = [V.ref l] ∧ SqL K H l (ks.map fun p => V.ref p.1) ∧ (∀ p ∈ ks, SqT K H p.1 (p.2.map V.int)) ∧ (∀ p ∈ ks, p.2 ∈ U) ∧ U.length < 63 ∧
  ∀ a L, H a = none → (∀ p ∈ L, p ∈ ks) → (∀ p ∈ ks, p.2 ∈ L.map (·.2)) → Q (.ref a) (upd H a (SetTO P w a L))
theorem cr_setT (hc : X.calm = true) (hu : X.A.units + 64 < cLine) : CallR X (.type "set") (rSetT X.K X.prog X.w) := by
  intro pins s σ H xs us Q I r h
  obtain ⟨l, ks, U, rfl, hl, hk, hU, hUl, q⟩ := h
  rw [Vals.ref1 r]
  obtain ⟨its, rv, pl, hz⟩ := I.list hl
  have hn : H s.heap.objs.size = none := I.hok.fresh (Nat.le_refl _)
  refine call_setT (P := X.prog) (w := X.w) ks (I.ok.hd hc) pl.isList (by simpa using refs_of_vals rv) (fun p hp => I.isT (hk p hp)) U hU hUl (by omega) fun h' tk L es ep t R g k => ?_
  refine ⟨.ref s.heap.objs.size, upd H s.heap.objs.size (SetTO X.prog X.w s.heap.objs.size L), I.laid (t' := tk) k (Nat.le_refl _) (setTO_new R.t0), rfl, q _ L hn (fun p hp => ?_) fun p hp => ?_⟩
  · exact List.mem_of_mem_take (g.sub p hp)
  · exact g.all p (by rw [List.take_length]; exact hp)
end
end VL
set_option Elab.async false
set_option linter.all false
set_option maxRecDepth 100000
set_option maxHeartbeats 4000000
/-! VL15: sorted(set(..)), tuple times a number, a list or another, max of a tuple, an own class raised. -/
namespace VL
open PySem PySem.Spec PyProof.Rows L2 VLS
section
variable {X : Cx} {a b c e : Expr} {wa wb we : WE} {pos : Pos} {EX : Hp → Prop} {rest : List Expr}
/-! ### sorted(set(xs)) -/
def wSortSetI (we : WE) : WE := fun δ M Q => we δ M fun r M1 => contL r M1 fun ds => ∃ ns U : List Int, ds = ns.map .int ∧ ns.length ≤ 1000 ∧ (∀ k ∈ ns, k ∈ U) ∧ U.length < 64 ∧ ∀ ns' : List Int, ns'.Pairwise (· < ·) → (∀ k, k ∈ ns' ↔ k ∈ ns) → Q (.v (lI ns')) M1
theorem v_sortSetI {p p2 pos2 : Pos} (hc : X.calm = true) (hu : X.A.units + 4 < cLine) (m1 : X.mg "sorted" = none) (m2 : X.mg "set" = none) (he : VE X e we) (g1 : Gl X "sorted" := by rfl) (g2 : Gl X "set" := by rfl)
    (h1 : starEach [e] X.env = (false, eval e X.env) :: starEach [] X.env := by rfl) (h2 : starEach [.Call (.Name "set" p2) [e] [] pos2] X.env = (false, eval (.Call (.Name "set" p2) [e] [] pos2) X.env) :: starEach [] X.env := by rfl) :
    VE X (.Call (.Name "sorted" p) [.Call (.Name "set" p2) [e] [] pos2] [] pos) (wSortSetI we) := by
  refine ⟨PE.imp (pe_callB (cr_sortedSet hc) g1 m1 (by decide +kernel) (pa_cons (pe_callTy (cr_setI hc hu) g2 m2 (by decide +kernel) (pa_cons he.pe pa_nil h1) (he := h1)) pa_nil h2) (he := h2)) ?_, fun δ M Q Q' h q => he.mono _ _ _ _ (fun r M1 => contL_mono fun ds ⟨ns, U, e, h1, h2, h3, q⟩ => ⟨ns, U, e, h1, h2, h3, fun ns' a b => h _ _ (q ns' a b)⟩) q⟩
  rintro σ H Q ⟨C, δ, M, τ, rel, q⟩
  refine ⟨C, δ, M, τ, rel, he.mono _ _ _ _ (fun rr M1 q v H1 rel1 => ?_) q⟩
  obtain ⟨ad, r1⟩ := rel1
  obtain ⟨l, xs, ds, rfl, e, dl, ns, U, rfl, hz, hU, hUl, q2⟩ := r1.lst List.mem_cons_self q
  have ex := dl.ints
  subst ex
  refine ⟨l, ns, U, rfl, SqL.of e, hz, hU, hUl, fun t c ht hc' => ⟨t, _, c, rfl, upd_same, hc', fun ns' p hp1 hmem _ hp => q2 ns' hp1 (fun k => by rw [hmem k]; simp) _ _ ?_⟩⟩
  have s1 : Same H1 (upd H1 t (SetO X.w t (fun j => decide (j ∈ ns)) c)) := fun b x e => by rw [upd_ne (ne_of_none e ht)]; exact e
  exact (Rel.pushL (r1.same s1) hp (DenL.of_ints ns')).drop2
abbrev pI (p : Int × Int) : Dt := tI [p.1, p.2]
def pLt (p q : Int × Int) : Prop := p.1 < q.1 ∨ (p.1 = q.1 ∧ p.2 < q.2)
def pIn (p : Int × Int) : Prop := (0 ≤ p.1 ∧ p.1 < 7) ∧ 0 ≤ p.2 ∧ p.2 < 7
def pU : List (List Int) := (List.range 7).flatMap fun x : Nat => (List.range 7).map fun y : Nat => [(x : Int), (y : Int)]
theorem pU_len : pU.length < 63 := by decide
theorem pU_mem {p : Int × Int} (h : pIn p) : [p.1, p.2] ∈ pU := by
  obtain ⟨⟨a, b⟩, c, d⟩ := h
  refine List.mem_flatMap.mpr ⟨p.1.toNat, List.mem_range.mpr (by omega), List.mem_map.mpr ⟨p.2.toNat, List.mem_range.mpr (by omega), ?_⟩⟩
  have e1 : ((p.1.toNat : Nat) : Int) = p.1 := by omega
  have e2 : ((p.2.toNat : Nat) : Int) = p.2 := by omega
  rw [e1, e2]
theorem den_prs2 {av : Addr → Prop} {H : Hp} : ∀ {xs : List V} {ps : List (Int × Int)}, DenL av H xs (ps.map pI) → ∃ ks : List (Addr × List Int), xs = ks.map (fun q => V.ref q.1) ∧ ks.map (·.2) = ps.map (fun p => [p.1, p.2]) ∧ ∀ q ∈ ks, H q.1 = some (.tup (q.2.map V.int))
  | _, [], .nil => ⟨[], rfl, rfl, fun q hq => by simp at hq⟩
  | _, p :: ps, .cons h t => by
    obtain ⟨ks, e1, e2, e3⟩ := den_prs2 t
    obtain ⟨b, rfl, hb⟩ := den_tI (show Den av H _ (tI [p.1, p.2]) from h)
    refine ⟨(b, [p.1, p.2]) :: ks, by rw [List.map_cons, e1], by rw [List.map_cons, List.map_cons, e2], fun q hq => ?_⟩
    rcases List.mem_cons.mp hq with rfl | hq
    · exact hb
    · exact e3 q hq
def wSortSetP (we : WE) : WE := fun δ M Q => we δ M fun r M1 => contL r M1 fun ds => ∃ ps : List (Int × Int), ds = ps.map pI ∧ (∀ p ∈ ps, pIn p) ∧ ∀ ps' : List (Int × Int), ps'.Pairwise pLt → (∀ p, p ∈ ps' ↔ p ∈ ps) → Q (.v (.lst (ps'.map pI))) M1
theorem v_sortSetP {p p2 pos2 : Pos} (hc : X.calm = true) (hu : X.A.units + 64 < cLine) (m1 : X.mg "sorted" = none) (m2 : X.mg "set" = none) (he : VE X e we) (g1 : Gl X "sorted" := by rfl) (g2 : Gl X "set" := by rfl)
    (h1 : starEach [e] X.env = (false, eval e X.env) :: starEach [] X.env := by rfl) (h2 : starEach [.Call (.Name "set" p2) [e] [] pos2] X.env = (false, eval (.Call (.Name "set" p2) [e] [] pos2) X.env) :: starEach [] X.env := by rfl) :
    VE X (.Call (.Name "sorted" p) [.Call (.Name "set" p2) [e] [] pos2] [] pos) (wSortSetP we) := by
  refine ⟨PE.imp (pe_callB (cr_sortedT hc) g1 m1 (by decide +kernel) (pa_cons (pe_callTy (cr_setT hc hu) g2 m2 (by decide +kernel) (pa_cons he.pe pa_nil h1) (he := h1)) pa_nil h2) (he := h2)) ?_, fun δ M Q Q' h q => he.mono _ _ _ _ (fun r M1 => contL_mono fun ds ⟨ns, e, h1, q⟩ => ⟨ns, e, h1, fun ns' a b => h _ _ (q ns' a b)⟩) q⟩
  rintro σ H Q ⟨C, δ, M, τ, rel, q⟩
  refine ⟨C, δ, M, τ, rel, he.mono _ _ _ _ (fun rr M1 q v H1 rel1 => ?_) q⟩
  obtain ⟨ad, r1⟩ := rel1
  obtain ⟨l, xs, ds, rfl, e, dl, ps, rfl, hP, q2⟩ := r1.lst List.mem_cons_self q
  obtain ⟨ks, rfl, ek, hk⟩ := den_prs2 dl
  have two : ∀ x ∈ ks, ∃ p : Int × Int, p ∈ ps ∧ x.2 = [p.1, p.2] := fun x hx => by
    have : x.2 ∈ ks.map (·.2) := List.mem_map.mpr ⟨x, hx, rfl⟩
    rw [ek] at this
    obtain ⟨p, hp, e⟩ := List.mem_map.mp this
    exact ⟨p, hp, e.symm⟩
  refine ⟨l, ks, pU, rfl, SqL.of e, fun x hx => SqT.of (hk x hx), fun x hx => ?_, pU_len, fun t L ht hL1 hL2 => ⟨t, L, 2, 64, rfl, upd_same, fun x hx => ?_, by omega, fun x hx => ?_, fun L' p hpm hnd _ hpw hp => ?_⟩⟩
  · obtain ⟨p, hp, e⟩ := two x hx
    rw [e]
    exact pU_mem (hP p hp)
  · exact SqT.of (by rw [upd_ne (ne_of_none (hk x (hL1 x hx)) ht)]; exact hk x (hL1 x hx))
  · obtain ⟨p, hp, e⟩ := two x (hL1 x hx)
    rw [e]
    refine ⟨rfl, fun m hm => ?_⟩
    obtain ⟨⟨a, b⟩, c, d⟩ := hP p hp
    rcases List.mem_cons.mp hm with rfl | hm
    · omega
    · rw [List.mem_singleton.mp hm]; omega
  · have hL' : ∀ x ∈ L', x ∈ ks := fun x hx => hL1 x (hpm.mem_iff.mp hx)
    let f : Addr × List Int → Int × Int := fun x => (x.2.getD 0 0, x.2.getD 1 0)
    have hf : ∀ x ∈ L', f x ∈ ps ∧ x.2 = [(f x).1, (f x).2] := fun x hx => by
      obtain ⟨p, hp, e⟩ := two x (hL' x hx)
      have : f x = p := by
        show (x.2.getD 0 0, x.2.getD 1 0) = p
        rw [e]
        rfl
      rw [this]
      exact ⟨hp, e⟩
    have s1 : Same H1 (upd H1 t (SetTO X.prog X.w t L)) := fun b x e => by rw [upd_ne (ne_of_none e ht)]; exact e
    have den : ∀ (K : List (Addr × List Int)), (∀ x ∈ K, x ∈ L') → DenL (avo ad M1.length C.hid) (upd H1 t (SetTO X.prog X.w t L)) (K.map fun q => V.ref q.1) ((K.map f).map pI) := by
      intro K
      induction K with
      | nil => intro _; exact .nil
      | cons x K ih =>
        intro h
        have hx := h x List.mem_cons_self
        refine .cons ?_ (ih fun y hy => h y (List.mem_cons_of_mem _ hy))
        have e1 := hk x (hL' x hx)
        refine .tup (xs := x.2.map V.int) (s1 _ _ e1) ?_
        have e2 := (hf x hx).2
        have : DenL (avo ad M1.length C.hid) (upd H1 t (SetTO X.prog X.w t L)) (x.2.map V.int) (x.2.map .int) := DenL.of_ints _
        rw [e2] at this ⊢
        exact this
    refine q2 (L'.map f) ?_ (fun p => ?_) _ _ (Rel.pushL (r1.same s1) hp (den L' fun _ h => h)).drop2
    · refine List.pairwise_map.mpr (List.Pairwise.imp_of_mem (fun {x y} hx hy hxy => ?_) (hpw.and (List.pairwise_map.mp hnd)))
      obtain ⟨ex, ey⟩ := (hf x hx).2, (hf y hy).2
      obtain ⟨⟨a1, b1⟩, c1, d1⟩ := hP _ (hf x hx).1
      obtain ⟨⟨a2, b2⟩, c2, d2⟩ := hP _ (hf y hy).1
      obtain ⟨h1, h2⟩ := hxy
      rw [(hf x hx).2, (hf y hy).2] at h1 h2
      exact pair_lt h1 h2 ⟨a1, by omega⟩ ⟨c1, by omega⟩ ⟨a2, by omega⟩ ⟨c2, by omega⟩
    · constructor
      · intro h
        obtain ⟨x, hx, rfl⟩ := List.mem_map.mp h
        exact (hf x hx).1
      · intro h
        have h1 : [p.1, p.2] ∈ ks.map (·.2) := by rw [ek]; exact List.mem_map.mpr ⟨p, h, rfl⟩
        obtain ⟨x, hx, e⟩ := List.mem_map.mp h1
        have h2 := hL2 x hx
        obtain ⟨y, hy, e2⟩ := List.mem_map.mp h2
        have hy' : y ∈ L' := hpm.mem_iff.mpr hy
        refine List.mem_map.mpr ⟨y, hy', ?_⟩
        show (y.2.getD 0 0, y.2.getD 1 0) = p
        rw [e2, e]
        rfl

/-! ### tuple times a number -/
theorem tuple_mul1 (l : Addr) (items : Array Value) (n : Nat) (dd : Option Addr) (sl : Array (Option Value)) (u : Tok) :
    Meets (Builtin.«tuple.__mul__» ⟨[.ref l, .int 1 u], []⟩) (fun _ R s => s.heap.get? l = some { cls := .type "tuple", dict := dd, data := .seq items n, slots := sl } ∧ R (.ok (.ret (Value.ref l))) s) :=
  .of_wp fun prog w A R s h => by
    obtain ⟨hp, g, d, tk, os⟩ := s
    obtain ⟨hl, h⟩ := h
    have f1 := AutoSeq1.idx_int
    have c1 : (items.isEmpty || ((1 : Int) == 1)) = true := by simp
    wp_walk using wpAny_loadPart' hl
    repeat (first
      | (refine wpAny_ite_true (decide_eq_true c1) ?_; wp_walk using wpAny_loadPart' hl))
    exact ⟨_, rfl, h⟩
def rRep1 (K : PySem.W.Frag) : R2 := fun x y H Q => ∃ l xs, x = .ref l ∧ y = .int 1 ∧ SqT K H l xs ∧ Q (.ref l) H
theorem op_rep1 : OpR X (binaryOp .Mult) (rRep1 X.K) := by
  intro pins s σ H x y v u Q I rx ry h
  obtain ⟨l, xs, rfl, rfl, hT, q⟩ := h
  cases rx
  obtain ⟨t, rfl⟩ := ry
  obtain ⟨its, r, ⟨⟨cls, dd, data, sl⟩, ho, hc, n, hd⟩, hs⟩ := I.tuple hT
  simp only at hc hd
  subst hc hd
  refine wpAny_binaryOp_repeat_ref (T := "tuple") (U := "int") (by decide) ⟨_, ho, rfl⟩ (fun s' => typeIs_int s' 1 t) noFill_tuple_mul F.fills_int_mul F.slot_int_rmul repeat_tuple F.slot_int_index.lookup
    (call_meets F.slot_int_rmul (typeIs_int s 1 t) F.entry_int_rmul (F.args_int_rmul_2 _ _) (int_rmul_tuple 1 t l its.toArray n dd sl)
      ⟨ho, rfl, ⟨_, ho, rfl⟩, call_meets F.slot_tuple_mul ⟨_, ho, rfl⟩ F.entry_tuple_mul (F.args_tuple_mul_2 _ _) (tuple_mul1 l its.toArray n dd sl t) ⟨ho, ?_⟩⟩)
  exact ⟨.ref l, H, I, rfl, q⟩
theorem opR_or {f : Value → Value → Sem Value} {r r' : R2} (h : OpR X f r) (h' : OpR X f r') : OpR X f (fun x y H Q => r x y H Q ∨ r' x y H Q) := by
  intro pins s σ H x y v u Q I rx ry q
  rcases q with q | q
  · exact h pins s σ H x y v u Q I rx ry q
  · exact h' pins s σ H x y v u Q I rx ry q
def oRepT : W2 := fun r1 r2 M Q => contT r1 fun ds => asInt r2 fun k => (1 ≤ k ∧ k ≤ 1000 ∧ ds.length ≤ 1000 ∧ ds ≠ []) ∧ Q (.v (.tup (List.replicate k.toNat ds).flatten)) M
theorem vo_repT : VOp X (binaryOp .Mult) oRepT := by
  refine ⟨⟨_, opR_or op_rep1 op_repT, ?_⟩, fun r1 r2 M Q Q' hq q => contT_mono (fun i => asInt_mono fun ds q => ⟨q.1, hq _ _ q.2⟩) q⟩
  intro C δ M τ σ H x y r1 r2 Q rel q
  obtain ⟨ad, r⟩ := id rel
  obtain ⟨a, xs, ds, rfl, e, l, q, er⟩ := r.tup (v := x) (r := r1) (List.mem_cons_of_mem _ List.mem_cons_self) q
  obtain ⟨k, rfl, ⟨h0, h1, h2, h3⟩, q2⟩ := asInt_ok q
  have e1 := rel_int (v := y) rel List.mem_cons_self
  subst e1
  have hx : xs ≠ [] := fun z => by
    subst z
    cases l
    exact h3 rfl
  by_cases hk : k = 1
  · subst hk
    refine .inl ⟨a, xs, rfl, rfl, .inl e, q2 _ H (Rel.val r ?_)⟩
    have hd := r.tmp (.ref a, r1) (List.mem_cons_of_mem _ List.mem_cons_self)
    rw [er] at hd
    have e5 : (List.replicate (1 : Int).toNat ds).flatten = ds := by simp
    rw [e5]
    exact hd
  · exact .inr ⟨a, k, xs, rfl, rfl, .inl e, hx, by omega, h1, by rw [l.length]; exact h2, fun p hp => q2 _ _ (Rel.pushT r hp (l.rep _)).drop12⟩
/-- a list times a number, owned -/
def oRepO : W2 := fun r1 r2 M Q => contL r1 M fun ds => asInt r2 fun k => (0 ≤ k ∧ k ≤ 1000 ∧ ds.length ≤ 1000) ∧ Q (.o M.length) (M ++ [.lst (List.replicate k.toNat ds).flatten])
theorem vo_repO : VOp X (binaryOp .Mult) oRepO := by
  refine ⟨⟨_, op_rep, ?_⟩, fun r1 r2 M Q Q' hq q => contL_mono (fun i => asInt_mono fun ds q => ⟨q.1, hq _ _ q.2⟩) q⟩
  intro C δ M τ σ H x y r1 r2 Q rel q
  obtain ⟨ad, r⟩ := id rel
  obtain ⟨a, xs, ds, rfl, e, l, q⟩ := r.lst (v := x) (r := r1) (List.mem_cons_of_mem _ List.mem_cons_self) q
  obtain ⟨k, rfl, ⟨h0, h1, h2⟩, q2⟩ := asInt_ok q
  have e1 := rel_int (v := y) rel List.mem_cons_self
  subst e1
  have hb : xs.length * k.toNat ≤ 1000 * 1000 := Nat.mul_le_mul (by rw [l.length]; exact h2) (by omega)
  refine ⟨a, k, xs, rfl, rfl, e, by omega, by omega, by rw [sizeLine_eq]; omega, fun p hp => q2 _ _ (Rel.pushO r hp (l.rep _)).drop12⟩
/-! ### a list, or another -/
def wOrL (wa wb : WE) : WE := fun δ M Q => wa δ M fun r M1 => contL r M1 fun ds => if ds.isEmpty = true then wb δ M1 Q else Q r M1
theorem v_orL (ha : VE X a wa) (hb : VE X (.BoolOp .Or (b :: rest) pos) wb) : VE X (.BoolOp .Or (a :: b :: rest) pos) (wOrL wa wb) := by
  refine ⟨PE.imp (pe_orT ha.pe hb.pe) ?_, fun δ M Q Q' hq q => ha.mono _ _ _ _ (fun r M1 => contL_mono fun ds => ite_mono (hb.mono _ _ _ _ hq) (hq _ _)) q⟩
  rintro σ H Q ⟨C, δ, M, τ, rel, q⟩
  refine ⟨C, δ, M, τ, rel, ha.mono _ _ _ _ (fun r M1 q v H1 rel1 => ?_) q⟩
  obtain ⟨ad, r1⟩ := _root_.id rel1
  obtain ⟨p, xs, ds, rfl, e, l, q2⟩ := r1.lst List.mem_cons_self q
  have he : xs.isEmpty = ds.isEmpty := by
    cases l with
    | nil => rfl
    | cons _ _ => rfl
  refine ⟨!ds.isEmpty, .inl ⟨xs, SqL.of e, by rw [he]⟩, ?_⟩
  cases hd : ds.isEmpty with
  | true =>
    rw [hd, if_pos rfl] at q2
    exact (if_neg (by simp)).mpr ⟨C, δ, M1, τ, rel1.tail, q2⟩
  | false =>
    rw [hd, if_neg Bool.false_ne_true] at q2
    exact (if_pos rfl).mpr (q2 _ H1 rel1)
/-! ### max of a tuple of ints -/
def rMaxT (K : PySem.W.Frag) : List V → Hp → VK → Prop := fun vs H Q => ∃ (a : Addr) (n : Int) (ns : List Int), vs = [V.ref a] ∧ SqT K H a ((n :: ns).map V.int) ∧ Q (.int (ns.foldl max n)) H
theorem cr_maxTI (hc : X.calm = true) (hu : X.A.units + 2 < cLine) : CallR X (.builtin "max") (rMaxT X.K) := by
  intro pins s σ H vs us Q I r h
  obtain ⟨a, n, ns, rfl, hs, q⟩ := h
  obtain ⟨its, rv, hl, hz⟩ := I.tuple hs
  rw [Vals.ref1 r]
  have hd : DpAll X.K H ((n :: ns).map V.int) ((n :: ns).map .int) := dpAll_int (av := fun _ => False) (DenL.of_ints (n :: ns))
  obtain ⟨as, hr⟩ := Dp.readsAll I _ _ its hd rv
  refine PySem.W.max_tuple_data (x := .int n) (xs := ns.map .int) (as := as) (I.ok.hd hc) hl (by simpa using hr) ⟨fun x hx y hy => ?_, fun x hx => ?_⟩ (by have := depth_ints (n :: ns); rw [List.map_cons] at this; omega) fun i v h' tk bs hv hrd hk => ?_
  · rw [← List.map_cons] at hx hy
    obtain ⟨x', _, rfl⟩ := List.mem_map.mp hx
    obtain ⟨y', _, rfl⟩ := List.mem_map.mp hy
    simp [PySem.W.alike]
  · rw [← List.map_cons] at hx
    obtain ⟨x', _, rfl⟩ := List.mem_map.mp hx
    intro z
    cases z
  · rw [PySem.W.maxD_ints] at hrd
    cases hrd
    exact ⟨.int _, H, I.kept hk, ⟨_, rfl⟩, q⟩
def oMaxT : WC := fun rs M Q => as1 rs fun r => contT r fun ds => ∃ (n : Int) (ns : List Int), ds = (n :: ns).map .int ∧ Q (.v (.int (ns.foldl max n))) M
theorem vc_maxT (hc : X.calm = true) (hu : X.A.units + 2 < cLine) : VCall X (.builtin "max") oMaxT := by
  refine vcall1 (o := fun r M Q => contT r fun ds => ∃ (n : Int) (ns : List Int), ds = (n :: ns).map .int ∧ Q (.v (.int (ns.foldl max n))) M) (cr_maxTI hc hu) (fun C ad δ M τ σ H x rr Q r q => ?_) fun rs M Q Q' hq q => contT_mono (fun ds ⟨n, nr, e, h⟩ => ⟨n, nr, e, hq _ _ h⟩) q
  obtain ⟨a, xs, ds, rfl, e, l, ⟨n, ns, rfl, q2⟩, _⟩ := r.tup List.mem_cons_self q
  have ex := l.ints
  subst ex
  exact ⟨a, n, ns, rfl, .inl e, q2 _ H (Rel.of1 r (.int _))⟩
/-! ### raise of an own class, no arguments -/
theorem pmk_own0 {C : Addr} {bmB : List Value} {B newId initId : String} {x : Str} {p : Pos} (F : ExcBaseFacts B newId initId bmB) (q : PySem.W.excIn X.K C bmB newId = true) (gC : X.mg x = some (.ref C))
    (kC : PySem.W.keepIn X.K (.ref C) = true) (r : Raises X (.ref C)) (hg : Gl X x) (hdb : (x == ("__debug__" : Str)) = false := by decide) :
    PMk X (.Call (.Name x p) [] [] pos) (fun σ H Q => Q (.ref C) none H) := by
  intro pins s σ H Q I h
  refine wpAny_Call_Name_kw (ld_glob I hg gC ?_ hdb)
  refine PySem.W.callWith_K0 I.kIn kC ?_
  show wpAny _ _ (call (.ref C) []) _ _ _
  obtain ⟨bm, N, nm, qn, bs, hdct, sn, sub, ab, col, dd, k0, k1, k2, k3, k5, mN, hC, hN, hni, T⟩ := exc_obj I.kIn q
  refine wpAny_call_exc_subT F T hC hN hni (fun h' e hm => ?_) (Nat.zero_le _)
  exact mk_of I hm r h (I.hok.gone hm.new)
def wRaise : WS := fun E _ _ => E.ex
theorem v_raise0 {C : Addr} {W : WX} {bmB : List Value} {B newId initId : String} {x : Str} {p pos' : Pos} (hc : X.calm = true) (tk : Takes X W) (hW : ∀ σ H, EX H → W (.ref C) none σ H) (F : ExcBaseFacts B newId initId bmB) (q : PySem.W.excIn X.K C bmB newId = true) (gC : X.mg x = some (.ref C))
    (kC : PySem.W.keepIn X.K (.ref C) = true) (r : Raises X (.ref C)) (hg : Gl X x := by rfl) (hdb : (x == ("__debug__" : Str)) = false := by decide) : VS X EX (.Raise (some (.Call (.Name x p) [] [] pos)) none pos') wRaise := by
  refine ⟨PS.imp (ps_raise hc tk (pmk_own0 F q gC kC r hg hdb)) ?_, fun E E' δ M h q => h.ex q⟩
  rintro D σ H ⟨C', δ, M, τ, rel, q⟩
  exact hW σ H (q δ M τ σ H rel)
/-! ### a callee that might raise, but does not -/
theorem passF : Passes (L2.CX X.prog X.w) X (fun _ _ _ => False) := fun _ _ _ _ _ _ _ h => by
  obtain ⟨_, _, _, _, _, _, _, _, _, _, _, _, z⟩ := h
  exact z.elim
abbrev SpecX := List Dt → (Dt → Prop) → Prop → Prop
def wCallX (S : SpecX) (ws : WA) : WE := fun δ M Q => ws δ M fun rs M1 => asVs rs fun ds => S ds (fun d => Q (.v d) M1) False
theorem v_callX {Cc : Addr} {k : Nat} {f : Addr} {fd : FuncData} {ps : List Str} {x : Str} {p : Pos} {es : List Expr} {ws : WA} {S : SpecX} (hSm : ∀ ds Q Q' (R R' : Prop), (∀ d, Q d → Q' d) → (R → R') → S ds Q R → S ds Q' R') (F : FnOk X.prog X.w X.K X.mg X.base (L2.CX X.prog X.w) k f fd ps (spX Cc S)) (hr : Room k X.A) (hm : X.mg x = some (.ref f)) (hk : PySem.W.keepIn X.K (.ref f) = true) (hb : Binds X.K fd ps []) (ha : VA X (e :: es) ws) (hg : Gl X x := by rfl)
    (hdb : (x == ("__debug__" : Str)) = false := by decide) (hst : starEach (e :: es) X.env = (false, eval e X.env) :: starEach es X.env := by rfl) (hpl : (backTo pos (starEach es X.env)).any (·.1) = false := by rfl) : VE X (.Call (.Name x p) (e :: es) [] pos) (wCallX S ws) := by
  refine ⟨PE.imp (pe_call F hr hg hm hk hb .nil passF ha.pa hdb hst hpl) ?_, fun δ M Q Q' h q => ha.mono _ _ _ _ (fun rs M1 => asVs_mono fun ds => hSm _ _ _ _ _ (fun d => h _ _) _root_.id) q⟩
  rintro σ H Q ⟨C, δ, M, τ, rel, q⟩
  refine ⟨C, δ, M, τ, rel, ha.mono _ _ _ _ (fun rs M1 q vs H1 hl rel1 => ?_) q⟩
  obtain ⟨ds, e, q⟩ := asVs_ok q
  obtain ⟨ad, r1⟩ := _root_.id rel1
  rw [List.append_nil]
  refine ⟨_, ds, Rel.args e hl rel1 ad r1, r1.trkA, hSm _ _ _ _ _ (fun d q v H' s dn => q v H' ?_) (fun z => z.elim) q⟩
  exact ⟨ad, (r1.same s).sub fun p hp => (List.mem_cons.mp hp).elim (fun e => by rw [e]; exact dn) fun hp => (r1.same s).tmp p (List.mem_append_right _ hp)⟩
end
end VL
set_option Elab.async false
set_option linter.all false
set_option maxRecDepth 100000
set_option maxHeartbeats 4000000
/-! VL16: what a def's term needs: room, names, calls by name, promises by functions. -/
namespace VL
open PySem PySem.Spec PyProof.Rows L2
theorem hu1 {A : Around} {k : Nat} (r : Room k A) : A.units + 1 < cLine := by have := r.un; omega
theorem hu2 {A : Around} {k : Nat} (r : Room k A) : A.units + 2 < cLine := by have := r.un; omega
theorem hu4 {A : Around} {k : Nat} (r : Room k A) : A.units + 4 < cLine := by have := r.un; omega
theorem hu64 {A : Around} {k : Nat} (r : Room k A) : A.units + 64 < cLine := by have := r.un; omega
theorem hu65 {A : Around} {k : Nat} (r : Room k A) : A.units + 65 < cLine := by have := r.un; omega
/-- the built-in names stand for themselves -/
structure Bs (mg : Str → Option Value) : Prop where
  len : mg "len" = none
  range : mg "range" = none
  max : mg "max" = none
  min : mg "min" = none
  all : mg "all" = none
  any : mg "any" = none
  tuple : mg "tuple" = none
  list : mg "list" = none
  set : mg "set" = none
  sorted : mg "sorted" = none
  dict : mg "dict" = none
  int : mg "int" = none
  abs : mg "abs" = none
  bool : mg "bool" = none
  str : mg "str" = none
  isinstance : mg "isinstance" = none
  zip : mg "zip" = none
  enumerate : mg "enumerate" = none
/-- a def that stands under its name -/
structure Df (K : PySem.W.Frag) (mg : Str → Option Value) (x : Str) (st : Stmt) (ps : List Str) : Prop where
  ex : ∃ f fd, Fun K x x st f fd ∧ mg x = some (.ref f) ∧ PySem.W.keepIn K (.ref f) = true ∧ Binds K fd ps []
/-- a def that may be called by its name -/
structure Cl (P : Program) (w : World) (K : PySem.W.Frag) (mg : Str → Option Value) (base : Heap) (CX : CXT) (k : Nat) (x : Str) (ps : List Str) (sp : Sp) : Prop where
  ex : ∃ f fd, FnOk P w K mg base CX k f fd ps sp ∧ mg x = some (.ref f) ∧ PySem.W.keepIn K (.ref f) = true ∧ Binds K fd ps []
/-! ### promises -/
def fnS {α : Type} (pre : α → List Dt → Prop) (f : α → Dt) : Spec := fun ds Q => ∃ x, pre x ds ∧ Q (f x)
theorem fnS_mono {α : Type} {pre : α → List Dt → Prop} {f : α → Dt} : ∀ ds Q Q', (∀ d, Q d → Q' d) → fnS pre f ds Q → fnS pre f ds Q' := fun _ _ _ h ⟨x, a, b⟩ => ⟨x, a, h _ b⟩
def fnU {α : Type} (pre : α → List Dt → List Dt → Prop) (post : α → List Dt → Dt → Prop) : SpecU := fun us ds Q => ∃ x, pre x us ds ∧ ∀ us' d, post x us' d → Q us' d
theorem fnU_mono {α : Type} {pre : α → List Dt → List Dt → Prop} {post : α → List Dt → Dt → Prop} : ∀ us ds Q Q', (∀ u d, Q u d → Q' u d) → fnU pre post us ds Q → fnU pre post us ds Q' := fun _ _ _ _ h ⟨x, a, b⟩ => ⟨x, a, fun u d p => h _ _ (b u d p)⟩
def fnX {α : Type} (pre : α → List Dt → Prop) (f : α → Option Dt) : SpecX := fun ds Q R => ∃ x, pre x ds ∧ ((∃ d, f x = some d ∧ Q d) ∨ (f x = none ∧ R))
theorem fnX_mono {α : Type} {pre : α → List Dt → Prop} {f : α → Option Dt} : ∀ ds Q Q' (R R' : Prop), (∀ d, Q d → Q' d) → (R → R') → fnX pre f ds Q R → fnX pre f ds Q' R' := fun _ _ _ _ _ h h' ⟨x, a, b⟩ => ⟨x, a, b.imp (fun ⟨d, e, q⟩ => ⟨d, e, h _ q⟩) fun ⟨e, q⟩ => ⟨e, h' q⟩⟩
section
variable {X : Cx} {e : Expr} {es : List Expr} {ws : WA} {pos : Pos} {k : Nat} {x : Str} {p : Pos} {ps : List Str}
theorem v_c {α : Type} {pre : α → List Dt → Prop} {f : α → Dt} (C : Cl X.prog X.w X.K X.mg X.base CX0 k x ps (spV (fnS pre f))) (hr : Room k X.A) (ha : VA X (e :: es) ws) (hg : Gl X x := by rfl)
    (hdb : (x == ("__debug__" : Str)) = false := by decide) (hst : starEach (e :: es) X.env = (false, eval e X.env) :: starEach es X.env := by rfl) (hpl : (backTo pos (starEach es X.env)).any (·.1) = false := by rfl) : VE X (.Call (.Name x p) (e :: es) [] pos) (wCall (fnS pre f) ws) := by
  obtain ⟨g, fd, F, hm, hk, hb⟩ := C.ex
  exact v_call fnS_mono F hr hm hk hb (E := E0) pass0 ha hg hdb hst hpl
theorem v_c0 {α : Type} {pre : α → List Dt → Prop} {f : α → Dt} (C : Cl X.prog X.w X.K X.mg X.base CX0 k x ps (spV (fnS pre f))) (hr : Room k X.A) (hg : Gl X x := by rfl) (hdb : (x == ("__debug__" : Str)) = false := by decide) : VE X (.Call (.Name x p) [] [] pos) (wCall (fnS pre f) wNil) := by
  obtain ⟨g, fd, F, hm, hk, hb⟩ := C.ex
  exact v_call0 fnS_mono F hr hm hk hb (E := E0) pass0 hg hdb
theorem v_cU {α : Type} {pre : α → List Dt → List Dt → Prop} {post : α → List Dt → Dt → Prop} (C : Cl X.prog X.w X.K X.mg X.base CX0 k x ps (spU (fnU pre post))) (hr : Room k X.A) (ha : VA X (e :: es) ws) (hg : Gl X x := by rfl)
    (hdb : (x == ("__debug__" : Str)) = false := by decide) (hst : starEach (e :: es) X.env = (false, eval e X.env) :: starEach es X.env := by rfl) (hpl : (backTo pos (starEach es X.env)).any (·.1) = false := by rfl) : VE X (.Call (.Name x p) (e :: es) [] pos) (wCallU (fnU pre post) ws) := by
  obtain ⟨g, fd, F, hm, hk, hb⟩ := C.ex
  exact v_callU fnU_mono F hr hm hk hb (E := E0) pass0 ha hg hdb hst hpl
theorem v_cX {Cc : Addr} {α : Type} {pre : α → List Dt → Prop} {f : α → Option Dt} (C : Cl X.prog X.w X.K X.mg X.base (L2.CX X.prog X.w) k x ps (spX Cc (fnX pre f))) (hr : Room k X.A) (ha : VA X (e :: es) ws) (hg : Gl X x := by rfl)
    (hdb : (x == ("__debug__" : Str)) = false := by decide) (hst : starEach (e :: es) X.env = (false, eval e X.env) :: starEach es X.env := by rfl) (hpl : (backTo pos (starEach es X.env)).any (·.1) = false := by rfl) : VE X (.Call (.Name x p) (e :: es) [] pos) (wCallX (fnX pre f) ws) := by
  obtain ⟨g, fd, F, hm, hk, hb⟩ := C.ex
  exact v_callX fnX_mono F hr hm hk hb ha hg hdb hst hpl
end
section
variable {P : Program} {w : World} {K : PySem.W.Frag} {mg : Str → Option Value} {base : Heap}
theorem v_def {x : Str} {st : Stmt} {N ps : List Str} {k : Nat} {α : Type} {pre : α → List Dt → Prop} {f : α → Dt} (D : Df K mg x st ps) (Sc : FnScope N ps (defScope st)) (len : ∀ y ds, pre y ds → ds.length = ps.length)
    (hbody : ∀ (fa : Addr) (cdv : Value) (A : Around) (outer : List Env) (s : Shared) (H : Hp) (E : XK), Room k (A.deeper (envOfC x (defScope st) s.heap.objs.size fa cdv)) →
      ∃ wb, VSs (cxOf CX0 P w K mg base N x (defScope st) fa cdv A outer s H E).nox (fun _ => False) (defBody st) wb ∧
        ∀ y ds (Q : Dt → Prop), pre y ds → Q (f y) → wb (endV Q) (slots0 N (ds.map .v)) []) : Cl P w K mg base CX0 (k + 1) x ps (spV (fnS pre f)) := by
  obtain ⟨g, fd, F, hm, hk, hb⟩ := D.ex
  refine ⟨g, fd, v_fun F Sc (fun ds Q ⟨y, h, _⟩ => len y ds h) (fun cdv A outer s H E hr => ?_), hm, hk, hb⟩
  obtain ⟨wb, h1, h2⟩ := hbody g cdv A outer s H E hr
  exact ⟨wb, h1, fun ds Q ⟨y, a, b⟩ => h2 y ds Q a b⟩
theorem v_defU {x : Str} {st : Stmt} {N ps : List Str} {k : Nat} {α : Type} {pre : α → List Dt → List Dt → Prop} {post : α → List Dt → Dt → Prop} (D : Df K mg x st ps) (Sc : FnScope N ps (defScope st)) (len : ∀ y us ds, pre y us ds → ds.length + 1 = ps.length)
    (hbody : ∀ (fa : Addr) (cdv : Value) (A : Around) (outer : List Env) (s : Shared) (H : Hp) (E : XK), Room k (A.deeper (envOfC x (defScope st) s.heap.objs.size fa cdv)) →
      ∃ wb, VSs (cxOf CX0 P w K mg base N x (defScope st) fa cdv A outer s H E).nox (fun _ => False) (defBody st) wb ∧
        ∀ y us ds (Q : List Dt → Dt → Prop), pre y us ds → (∀ us' d, post y us' d → Q us' d) → wb (endU Q) (slots0 N (.o 0 :: ds.map .v)) [.lst us]) : Cl P w K mg base CX0 (k + 1) x ps (spU (fnU pre post)) := by
  obtain ⟨g, fd, F, hm, hk, hb⟩ := D.ex
  refine ⟨g, fd, v_funU F Sc (fun us ds Q ⟨y, h, _⟩ => len y us ds h) (fun cdv A outer s H E hr => ?_), hm, hk, hb⟩
  obtain ⟨wb, h1, h2⟩ := hbody g cdv A outer s H E hr
  exact ⟨wb, h1, fun us ds Q ⟨y, a, b⟩ => h2 y us ds Q a b⟩
theorem v_defX {Cc : Addr} {x : Str} {st : Stmt} {N ps : List Str} {k : Nat} {α : Type} {pre : α → List Dt → Prop} {f : α → Option Dt} (D : Df K mg x st ps) (Sc : FnScope N ps (defScope st)) (len : ∀ y ds, pre y ds → ds.length = ps.length)
    (hbody : ∀ (fa : Addr) (cdv : Value) (A : Around) (outer : List Env) (s : Shared) (H : Hp) (E : XK), Room k (A.deeper (envOfC x (defScope st) s.heap.objs.size fa cdv)) →
      ∃ wb, VSs (cxOf (L2.CX P w) P w K mg base N x (defScope st) fa cdv A outer s H E) (fun H' => E (.ref Cc) none H') (defBody st) wb ∧
        ∀ y ds (Q : Dt → Prop) (R : Prop), pre y ds → (∀ d, f y = some d → Q d) → (f y = none → R) → wb (endX Q R) (slots0 N (ds.map .v)) []) : Cl P w K mg base (L2.CX P w) (k + 1) x ps (spX Cc (fnX pre f)) := by
  obtain ⟨g, fd, F, hm, hk, hb⟩ := D.ex
  refine ⟨g, fd, v_funX F Sc (fun ds Q R ⟨y, h, _⟩ => len y ds h) (fun cdv A outer s H E hr => ?_), hm, hk, hb⟩
  obtain ⟨wb, h1, h2⟩ := hbody g cdv A outer s H E hr
  refine ⟨wb, h1, fun ds Q R ⟨y, a, b⟩ => h2 y ds Q R a (fun d e => ?_) fun e => ?_⟩
  · rcases b with ⟨d', e', q⟩ | ⟨e', _⟩
    · rw [e] at e'; cases e'; exact q
    · rw [e] at e'; cases e'
  · rcases b with ⟨d', e', q⟩ | ⟨_, q⟩
    · rw [e] at e'; cases e'
    · exact q
/-- a def of which nothing is promised -/
theorem cl_none {x : Str} {st : Stmt} {ps : List Str} {CX : CXT} {k : Nat} {α : Type} {f : α → Dt} (D : Df K mg x st ps) : Cl P w K mg base CX k x ps (spV (fnS (fun _ _ => False) f)) := by
  obtain ⟨g, fd, F, hm, hk, hb⟩ := D.ex
  exact ⟨g, fd, ⟨fun vs H Q E ⟨_, _, _, _, _, h, _⟩ => h.elim, fun A outer s H args us vs Q E _ _ _ _ ⟨_, _, _, _, _, h, _⟩ => h.elim⟩, hm, hk, hb⟩
theorem Cl.mono {x : Str} {ps : List Str} {CX : CXT} {j k : Nat} {sp : Sp} (C : Cl P w K mg base CX j x ps sp) (h : j ≤ k) : Cl P w K mg base CX k x ps sp := by
  obtain ⟨g, fd, F, r⟩ := C.ex
  exact ⟨g, fd, F.mono h, r⟩
end
section
variable {X : Cx} {a b c e : Expr} {es : List Expr} {wa wb we : WE} {ws : WA} {pos : Pos} {x : Str} {p : Pos} {tg : Expr}
/-! ### built-ins by name -/
theorem v_b {id : String} {o : WC} (ho : VCall X (.builtin id) o) (hm : X.mg x = none) (ha : VA X (e :: es) ws) (hv : bootBuiltins x = some (.builtin id) := by decide +kernel) (hg : Gl X x := by rfl) (hn : x ≠ "__name__" := by decide) (hdb : (x == ("__debug__" : Str)) = false := by decide)
    (he : starEach (e :: es) X.env = (false, eval e X.env) :: starEach es X.env := by rfl) (hpl : (backTo pos (starEach es X.env)).any (·.1) = false := by rfl) : VE X (.Call (.Name x p) (e :: es) [] pos) (wCB o ws) :=
  v_callB ho hm ha hv hg hn hdb (fun hc ha => pe_callB hc hg hm hv ha hn hdb he hpl)
theorem v_ty {id : String} {o : WC} (ho : VCall X (.type id) o) (hm : X.mg x = none) (ha : VA X (e :: es) ws) (hv : bootBuiltins x = some (.type id) := by decide +kernel) (hg : Gl X x := by rfl) (hn : x ≠ "__name__" := by decide) (hdb : (x == ("__debug__" : Str)) = false := by decide)
    (he : starEach (e :: es) X.env = (false, eval e X.env) :: starEach es X.env := by rfl) (hpl : (backTo pos (starEach es X.env)).any (·.1) = false := by rfl) : VE X (.Call (.Name x p) (e :: es) [] pos) (wCB o ws) :=
  v_callTy ho hm ha hv hg hn hdb (fun hc ha => pe_callTy hc hg hm hv ha hn hdb he hpl)
theorem v_is {T : Str} {Ts : String} {f : Dt → Bool} {p pT : Pos} (hf : IsiT Ts f) (mi : X.mg "isinstance" = none) (mT : X.mg T = none) (he : VE X e we) (hT : bootBuiltins T = some (.type Ts) := by decide +kernel) (gi : Gl X "isinstance" := by rfl) (gT : Gl X T := by rfl) (hn : T ≠ "__name__" := by decide) (hdb : (T == ("__debug__" : Str)) = false := by decide)
    (hs : starEach (e :: [.Name T pT]) X.env = (false, eval e X.env) :: starEach [.Name T pT] X.env := by rfl) (hpl : (backTo pos (starEach [.Name T pT] X.env)).any (·.1) = false := by rfl) : VE X (.Call (.Name "isinstance" p) [e, .Name T pT] [] pos) (wIsi f we) :=
  v_isi hf mi mT he hT gT hn hdb (fun hc ha => pe_callB hc gi mi (by decide +kernel) ha (he := hs) (hpl := hpl)) hs
theorem v_is2 {T1 T2 : Str} {Ts1 Ts2 : String} {f1 f2 : Dt → Bool} {p pT pU pt : Pos} {kt : Nat} (hf1 : IsiT Ts1 f1) (hf2 : IsiT Ts2 f2) (mi : X.mg "isinstance" = none) (mT1 : X.mg T1 = none) (mT2 : X.mg T2 = none) (he : VE X e we) (hT1 : bootBuiltins T1 = some (.type Ts1) := by decide +kernel) (hT2 : bootBuiltins T2 = some (.type Ts2) := by decide +kernel)
    (gi : Gl X "isinstance" := by rfl) (gT1 : Gl X T1 := by rfl) (gT2 : Gl X T2 := by rfl) (hn1 : T1 ≠ "__name__" := by decide) (hn2 : T2 ≠ "__name__" := by decide) (hdb1 : (T1 == ("__debug__" : Str)) = false := by decide) (hdb2 : (T2 == ("__debug__" : Str)) = false := by decide)
    (hs : starEach (e :: [.Tuple [.Name T1 pT, .Name T2 pU] kt pt]) X.env = (false, eval e X.env) :: starEach [.Tuple [.Name T1 pT, .Name T2 pU] kt pt] X.env := by rfl) (hpl : (backTo pos (starEach [.Tuple [.Name T1 pT, .Name T2 pU] kt pt] X.env)).any (·.1) = false := by rfl) :
    VE X (.Call (.Name "isinstance" p) [e, .Tuple [.Name T1 pT, .Name T2 pU] kt pt] [] pos) (wIsi (fun d => f1 d || f2 d) we) :=
  v_isi2 hf1 hf2 mi mT1 mT2 he hT1 hT2 gT1 gT2 hn1 hn2 hdb1 hdb2 (fun hc ha => pe_callB hc gi mi (by decide +kernel) ha (he := hs) (hpl := hpl)) hs
theorem vi_r1 (hm : X.mg "range" = none) (ha : VA X [a] ws) (hg : Gl X "range" := by rfl) (hs : starEach [a] X.env = [(false, eval a X.env)] := by rfl) : VI X tg (.Call (.Name "range" p) [a] [] pos) (wRng1 ws) :=
  vi_range1 hg hm ha (fun h => pi_range1 hg hm h hs)
theorem vi_r2 (hm : X.mg "range" = none) (ha : VA X [a, b] ws) (hg : Gl X "range" := by rfl) (hs : starEach [a, b] X.env = [(false, eval a X.env), (false, eval b X.env)] := by rfl) (hpl : starEach [b] X.env = [(false, eval b X.env)] := by rfl) : VI X tg (.Call (.Name "range" p) [a, b] [] pos) (wRng2 ws) :=
  vi_range2 hg hm ha (fun h => pi_range2 hg hm h hs hpl)
/-- -n -/
theorem v_neg {n : Int} {j : Nat} {p1 : Pos} : VE X (.UnaryOp .USub (.Constant (.int n) j p1) pos) (wC (.int (-n))) := by
  refine ⟨PE.imp (pe_un un_neg pe_int) ?_, fun δ M Q Q' h q => h _ _ q⟩
  rintro σ H Q ⟨C, δ, M, τ, ⟨ad, r⟩, q⟩
  exact ⟨n, rfl, q (.int (-n)) H ⟨ad, r.sub fun p hp => (List.mem_cons.mp hp).elim (fun e => by rw [e]; exact Den.int _) (r.tmp p)⟩⟩
end
end VL
set_option Elab.async false
set_option linter.all false
set_option maxRecDepth 100000
set_option maxHeartbeats 4000000
/-! VL17: the small defs of the program. -/

namespace VL
open PySem PySem.Spec PyProof.Rows L2

/-! ### comprehensions and loops, in short -/
section
variable {δ : Sl} {M M1 : Me} {Q : Rs → Me → Prop} {vs : List Nat} {wi : WI} {wg : WG} {wt : WT} {we : WE}
theorem lc_f {α : Type} {xs : List α} (enc : α → Dt) (f : α → Bool) (g : α → Dt) (hi : ∀ Q' : List Dt → Me → Prop, Q' (xs.map enc) M1 → wi δ M Q') (hz : xs.length ≤ 1000)
    (he : ∀ x ∈ xs, ∀ (A : Dt → Me → Prop) (B : Me → Prop), (f x = true → A (g x) M1) → (f x = false → B M1) → wg (.v (enc x)) (wipeD δ vs) fun δ' => wt δ' M1 fun b M' => if b = true then we δ' M' fun r M'' => asV r fun y => A y M'' else B M')
    (hq : Q (.v (.lst ((xs.filter f).map g))) M1) : wLc vs wi wg wt we δ M Q := by
  refine hi _ ⟨by rw [List.length_map]; exact hz, fun i acc M => M = M1 ∧ acc = ((xs.take i).filter f).map g, ⟨rfl, rfl⟩, fun i d acc M e ⟨em, ea⟩ => ?_, fun acc M ⟨em, ea⟩ => ?_⟩
  · subst em ea
    rw [List.getElem?_map] at e
    obtain ⟨x, hx, rfl⟩ := Option.map_eq_some_iff.mp e
    have ht : xs.take (i + 1) = xs.take i ++ [x] := by rw [List.take_succ, hx]; rfl
    refine he x (List.mem_of_getElem? hx) (fun y M'' => M'' = M ∧ ((xs.take i).filter f).map g ++ [y] = ((xs.take (i + 1)).filter f).map g) (fun M'' => M'' = M ∧ ((xs.take i).filter f).map g = ((xs.take (i + 1)).filter f).map g) (fun hf => ⟨rfl, ?_⟩) fun hf => ⟨rfl, ?_⟩
    · rw [ht, List.filter_append, List.map_append]; simp [hf]
    · rw [ht, List.filter_append, List.map_append]; simp [hf]
  · rw [List.length_map, List.take_length] at ea
    rw [em, ea]
    exact hq
theorem lc_m {α : Type} {xs : List α} (enc : α → Dt) (g : α → Dt) (hi : ∀ Q' : List Dt → Me → Prop, Q' (xs.map enc) M1 → wi δ M Q') (hz : xs.length ≤ 1000)
    (he : ∀ x ∈ xs, ∀ (A : Dt → Me → Prop), A (g x) M1 → wg (.v (enc x)) (wipeD δ vs) fun δ' => we δ' M1 fun r M'' => asV r fun y => A y M'')
    (hq : Q (.v (.lst (xs.map g))) M1) : wLc vs wi wg wYes we δ M Q := by
  refine lc_f enc (fun _ => true) g hi hz (fun x hx A B h1 _ => ?_) (by rw [List.filter_eq_self.mpr (fun _ _ => rfl)]; exact hq)
  have := he x hx A (h1 rfl)
  unfold wYes
  simpa using this
theorem lcF {α : Type} {xs : List α} (enc : α → Dt) (f : α → Bool) (g : α → Dt) (hi : ∀ Q' : List Dt → Me → Prop, Q' (xs.map enc) M → wi δ M Q') (hz : xs.length ≤ 1000)
    (he : ∀ x ∈ xs, ∀ (A : Dt → Me → Prop) (B : Me → Prop), (f x = true → A (g x) M) → (f x = false → B M) → wg (.v (enc x)) (wipeD δ vs) fun δ' => wt δ' M fun b M' => if b = true then we δ' M' fun r M'' => asV r fun y => A y M'' else B M')
    (hq : Q (.v (.lst ((xs.filter f).map g))) M) : wLc vs wi wg wt we δ M Q := lc_f enc f g hi hz he hq
theorem lcM {α : Type} {xs : List α} (enc : α → Dt) (g : α → Dt) (hi : ∀ Q' : List Dt → Me → Prop, Q' (xs.map enc) M → wi δ M Q') (hz : xs.length ≤ 1000)
    (he : ∀ x ∈ xs, ∀ (A : Dt → Me → Prop), A (g x) M → wg (.v (enc x)) (wipeD δ vs) fun δ' => we δ' M fun r M'' => asV r fun y => A y M'')
    (hq : Q (.v (.lst (xs.map g))) M) : wLc vs wi wg wYes we δ M Q := lc_m enc g hi hz he hq
/-- a loop over xs: inv i holds ahead of the turn i -/
theorem for_i {α : Type} {xs : List α} {E : EndsV} {wb : WS} (enc : α → Dt) (P : Nat → Sl → Me → Prop) (hi : ∀ Q' : List Dt → Me → Prop, Q' (xs.map enc) M1 → wi δ M Q') (h0 : P 0 δ M1)
    (hs : ∀ i x δ M, xs[i]? = some x → P i δ M → wg (.v (enc x)) δ fun δ' => wb ⟨P (i + 1), E.rt, E.nx, P (i + 1), E.ex⟩ δ' M) (hd : ∀ δ M, P xs.length δ M → E.nx δ M) : wFor wi wg wb E δ M := by
  refine hi _ ⟨P, h0, fun i d δ M e p => ?_, fun δ M p => hd δ M (by rw [List.length_map] at p; exact p)⟩
  rw [List.getElem?_map] at e
  obtain ⟨x, hx, rfl⟩ := Option.map_eq_some_iff.mp e
  exact hs i x δ M hx p
/-- the same, the surroundings told only by what may be returned -/
theorem for_r {α : Type} {xs : List α} {E : EndsV} {wb : WS} (enc : α → Dt) (P : Nat → Sl → Me → Prop) (RT : Rs → Me → Prop) (hi : ∀ Q' : List Dt → Me → Prop, Q' (xs.map enc) M1 → wi δ M Q') (h0 : P 0 δ M1)
    (hs : ∀ i x δ M (nx0 : Sl → Me → Prop) (rt0 : Rs → Me → Prop) (ex0 : Prop) (nx1 : Sl → Me → Prop), xs[i]? = some x → P i δ M → (∀ r M, RT r M → rt0 r M) → (∀ δ M, P (i + 1) δ M → nx1 δ M) → wg (.v (enc x)) δ fun δ' => wb ⟨nx1, rt0, nx0, nx1, ex0⟩ δ' M) (hrt : ∀ r M, RT r M → E.rt r M) (hd : ∀ δ M, P xs.length δ M → E.nx δ M) : wFor wi wg wb E δ M :=
  for_i enc P hi h0 (fun i x δ M e p => hs i x δ M E.nx E.rt E.ex (P (i + 1)) e p hrt fun _ _ h => h) hd
end
theorem ixN_nat {n k : Nat} {i : Int} (h : i = (k : Nat)) (hk : k < n) : ixN n i = some k := by
  unfold ixN
  rw [if_pos (by omega), if_pos (by omega)]
  congr 1
  omega
theorem at_nat {α : Type} {ds : List α} {k : Nat} {i : Int} (h : i = (k : Nat)) (hk : k < ds.length) : atI ds i = some ds[k] := by
  unfold atI
  rw [ixN_nat h hk]
  exact List.getElem?_eq_getElem hk
theorem at_int {ns : List Int} {k : Nat} {i : Int} (h : i = (k : Nat)) (hk : k < ns.length) : atI (ns.map Dt.int) i = some (.int (ns.getD k 0)) := by
  rw [at_nat (k := k) h (by rw [List.length_map]; exact hk), List.getElem_map, List.getD_eq_getElem?_getD, List.getElem?_eq_getElem hk]
  rfl
theorem at_last {α : Type} {ds : List α} (h : ds ≠ []) : atI ds (-1) = some (ds.getLast h) := by
  have hl : 0 < ds.length := List.length_pos_iff.mpr h
  unfold atI ixN
  rw [if_neg (by omega), if_pos (by omega)]
  have e : ((-1 : Int) + (ds.length : Int)).toNat = ds.length - 1 := by omega
  rw [e]
  show ds[ds.length - 1]? = _
  rw [List.getLast_eq_getElem, List.getElem?_eq_getElem (by omega)]
def topS (i : Nat) : Stmt := PySem.Challenge.pw_gatheryard_k40_whole_leads_and_woven_lot.main.body.getD i (.Pass ⟨0, 0, 0, 0⟩)
section
variable {P : Program} {w : World} {K : PySem.W.Frag} {mg : Str → Option Value} {base : Heap}

abbrev s_isnum : Stmt := topS 5
theorem sc_isnum : FnScope ["thing"] ["thing"] (defScope s_isnum) := ⟨rfl, rfl, rfl, by decide +kernel, rfl, by decide +kernel, by decide +kernel⟩

def isNum : Dt → Bool
  | .int _ => true
  | _ => false
theorem ok_isnum (D : Df K mg "is_number" s_isnum ["thing"]) (B : Bs mg) : Cl P w K mg base CX0 1 "is_number" ["thing"] (spV (fnS (fun (d : Dt) ds => ds = [d]) fun d => .bl (isNum d))) := by
  refine v_def D sc_isnum (fun y ds h => by rw [h]; rfl) fun fa cdv A outer s H E hr => ?_
  have Sc := sc_isnum
  refine ⟨_, (vs_one (v_ret (v_and (v_is isi_int B.isinstance B.int (vv 0)) (v_one (v_not (v_is isi_bl B.isinstance B.bool (vv 0))))))), ?_⟩
  rintro d ds Q rfl q
  simp only [wSeq, wNext, wSet, wRet, wDrop, wIfS, wIf, wVar, wC, wNil, wCons, wOp, wTest, wAnd, wOr, wNot, wAndV, wOrV, wNotV, wChain, wTup, wLst, wLstO, wCall, wCallU, wCallX, wCB, wIsi, oI, oI0, oB0, oEqS, oNeS, oIsB, oIsN, oCat, oCatT, oRep, oRepO, oRepT, oLen, oInt1, oAll, oAny, oTuple, oList, oListO, oIx, oIn, oInT, oEqT, oNeNil, oMaxL, oMinL, oMaxT, oMinT, oSortT, oSortI, oDictT, oTupleF, wMt, oApp, oExt, oPop, oPopAt, wFrom, wTo, wTupRg, wLstRg, wSortSetI, wSortSetP, wTGet, wTGetD, wTIn, wDGet, wDNot, wDPut, wDict1, wDictO, wSetIx, wOrL, wWeak, wPar2, wPar3, wRaise, wNever, gN, gT, gsCons, gsNil, wZip, wEnum, wSeqI, wRng1, wRng2, wCb, asV, asVs, asBl, asInt, as1, as2, as3, asSeq, asU, asM0, asO, asD, asDt, asLst, asNil, asNon, asSc, asZip, contL, contS, contT, contP, retD, endV, endU, endX, allV, slots0, scEq, isN, List.map_cons, List.map_nil, Option.map_some, List.getElem?_cons_zero, List.getElem?_cons_succ, List.length_cons, List.length_nil, List.cons_append, List.nil_append, List.set_cons_zero, List.set_cons_succ, Nat.zero_add, Nat.reduceAdd, Nat.reduceSub, List.replicate_succ, List.replicate_zero, Nat.reduceLeDiff, if_pos, if_true, if_false, Bool.false_eq_true, Nat.le_refl, ite_true, ite_false, true_and, and_true, Nat.sub_self, List.replicate, List.length_map]
  cases d <;> simp only [isInt, isBl, Bool.false_eq_true, if_false, if_true, Bool.not_false, Bool.not_true] <;> exact q

abbrev s_istupof : Stmt := topS 7
theorem sc_istupof : FnScope ["thing", "many"] ["thing", "many"] (defScope s_istupof) := ⟨rfl, rfl, rfl, by decide +kernel, rfl, by decide +kernel, by decide +kernel⟩

theorem ok_istupof (D : Df K mg "is_tuple_of" s_istupof ["thing", "many"]) (B : Bs mg) : Cl P w K mg base CX0 1 "is_tuple_of" ["thing", "many"] (spV (fnS (fun (x : List Dt × Int) ds => ds = [.tup x.1, .int x.2]) fun x => .bl (decide ((x.1.length : Int) = x.2)))) := by
  refine v_def D sc_istupof (fun y ds h => by rw [h]; rfl) fun fa cdv A outer s H E hr => ?_
  have Sc := sc_istupof
  refine ⟨_, (vs_one (v_ret (v_and (v_is isi_tup B.isinstance B.tuple (vv 0)) (v_one (v_cmp vo_eqS (v_b vc_len B.len (va_cons (vv 0) va_nil)) (vv 1) (by rfl)))))), ?_⟩
  rintro ⟨ds, n⟩ _ Q rfl q
  simp only [wSeq, wNext, wSet, wRet, wDrop, wIfS, wIf, wVar, wC, wNil, wCons, wOp, wTest, wAnd, wOr, wNot, wAndV, wOrV, wNotV, wChain, wTup, wLst, wLstO, wCall, wCallU, wCallX, wCB, wIsi, oI, oI0, oB0, oEqS, oNeS, oIsB, oIsN, oCat, oCatT, oRep, oRepO, oRepT, oLen, oInt1, oAll, oAny, oTuple, oList, oListO, oIx, oIn, oInT, oEqT, oNeNil, oMaxL, oMinL, oMaxT, oMinT, oSortT, oSortI, oDictT, oTupleF, wMt, oApp, oExt, oPop, oPopAt, wFrom, wTo, wTupRg, wLstRg, wSortSetI, wSortSetP, wTGet, wTGetD, wTIn, wDGet, wDNot, wDPut, wDict1, wDictO, wSetIx, wOrL, wWeak, wPar2, wPar3, wRaise, wNever, gN, gT, gsCons, gsNil, wZip, wEnum, wSeqI, wRng1, wRng2, wCb, asV, asVs, asBl, asInt, as1, as2, as3, asSeq, asU, asM0, asO, asD, asDt, asLst, asNil, asNon, asSc, asZip, contL, contS, contT, contP, retD, endV, endU, endX, allV, slots0, scEq, isN, List.map_cons, List.map_nil, Option.map_some, List.getElem?_cons_zero, List.getElem?_cons_succ, List.length_cons, List.length_nil, List.cons_append, List.nil_append, List.set_cons_zero, List.set_cons_succ, Nat.zero_add, Nat.reduceAdd, Nat.reduceSub, List.replicate_succ, List.replicate_zero, Nat.reduceLeDiff, if_pos, if_true, if_false, Bool.false_eq_true, Nat.le_refl, ite_true, ite_false, true_and, and_true, Nat.sub_self, List.replicate, List.length_map]
  exact q

abbrev s_tupof : Stmt := topS 6
theorem sc_tupof : FnScope ["thing", "part"] ["thing"] (defScope s_tupof) := ⟨rfl, rfl, rfl, by decide +kernel, rfl, by decide +kernel, by decide +kernel⟩

def tofL (f : Dt → Option Dt) : List Dt → Option (List Dt)
  | [] => some []
  | d :: ds => (f d).bind fun e => (tofL f ds).map (e :: ·)
def tof : Nat → Dt → Option Dt
  | 0, _ => none
  | n + 1, d => match d with
    | .int i => some (.int i)
    | .tup ds => if ds.length ≤ 1000 then (tofL (tof n) ds).map .tup else none
    | .lst ds => if ds.length ≤ 1000 then (tofL (tof n) ds).map .tup else none
    | _ => none
theorem tofL_get {f : Dt → Option Dt} : ∀ {ds es : List Dt}, tofL f ds = some es → ds.length = es.length ∧ ∀ (i : Nat) d, ds[i]? = some d → ∃ e, f d = some e ∧ es[i]? = some e
  | [], es, h => by cases h; exact ⟨rfl, fun i d e => by simp at e⟩
  | d :: ds, es, h => by
    unfold tofL at h
    obtain ⟨e, h1, h2⟩ := Option.bind_eq_some_iff.mp h
    obtain ⟨es', h3, rfl⟩ := Option.map_eq_some_iff.mp h2
    obtain ⟨a, b⟩ := tofL_get h3
    refine ⟨by rw [List.length_cons, List.length_cons, a], fun i d' hi => ?_⟩
    cases i with
    | zero => cases hi; exact ⟨e, h1, rfl⟩
    | succ i =>
      obtain ⟨e', c1, c2⟩ := b i d' (by simpa using hi)
      exact ⟨e', c1, by simpa using c2⟩
abbrev spTof (n : Nat) : Spec := fnS (fun (x : Dt × Dt) ds => ds = [x.1] ∧ tof n x.1 = some x.2) (·.2)
theorem ok_tof1 (D : Df K mg "tuple_of" s_tupof ["thing"]) (B : Bs mg) (n k : Nat) (C_tuple_of : Cl P w K mg base CX0 k "tuple_of" ["thing"] (spV (spTof n))) : Cl P w K mg base CX0 (k + 1) "tuple_of" ["thing"] (spV (spTof (n + 1))) := by
  refine v_def D sc_tupof (fun y ds h => by rw [h.1]; rfl) fun fa cdv A outer s H E hr => ?_
  have Sc := sc_tupof
  refine ⟨_, (vs_cons (v_ifS (vt_val (v_is2 isi_lst isi_tup B.isinstance B.list B.tuple (vv 0))) (vs_one (v_ret (v_ty vc_tuple B.tuple (va_cons (v_lc (own := [("part", 1)]) rfl Sc.nd (vi_seq (vv 0)) (blkOk_by (by rfl)) (fun _ _ _ _ _ => (vg_name (i := 1) Sc.nd)) (fun _ _ _ _ _ => vts_nil) (fun _ _ _ _ _ => (v_c C_tuple_of (hr.mono (by omega)) (va_cons (vv 1) va_nil)))) va_nil)))) vs_nil)
    (vs_one (v_ret (vv 0)))), ?_⟩
  rintro ⟨d, d'⟩ _ Q ⟨rfl, h⟩ q
  have seq : ∀ (d : Dt) (ds : List Dt), (d = .tup ds ∨ d = .lst ds) → (if ds.length ≤ 1000 then (tofL (tof n) ds).map Dt.tup else none) = some d' → wLc [1] (wSeqI (wVar 0)) (gN 1) wYes (wCall (spTof n) (wCons (wVar 1) wNil)) [some (.v d), none] [] fun r M2 => as1 [r] fun r => contS r M2 fun ds => retD 0 (Rs.v (Dt.tup ds)) M2 Q := by
    intro d ds hd h
    by_cases hz : ds.length ≤ 1000
    · rw [if_pos hz] at h
      obtain ⟨es, h1, rfl⟩ := Option.map_eq_some_iff.mp h
      obtain ⟨hl, hg⟩ := tofL_get h1
      have hi : ∀ Q' : List Dt → Me → Prop, Q' ds [] → wSeqI (wVar 0) [some (.v d), none] [] Q' := fun Q' q' => by
        rcases hd with rfl | rfl <;> exact q'
      refine hi _ ⟨hz, fun i acc M => M = [] ∧ acc = es.take i, ⟨rfl, rfl⟩, fun i e acc M he hp => ?_, fun acc M hp => ?_⟩
      · obtain ⟨rfl, rfl⟩ := hp
        obtain ⟨e', f1, f2⟩ := hg i e he
        simp only [wSeq, wNext, wSet, wRet, wDrop, wIfS, wIf, wVar, wC, wNil, wCons, wOp, wTest, wAnd, wOr, wNot, wAndV, wOrV, wNotV, wChain, wTup, wLst, wLstO, wCall, wCallU, wCallX, wCB, wIsi, oI, oI0, oB0, oEqS, oNeS, oIsB, oIsN, oCat, oCatT, oRep, oRepO, oRepT, oLen, oInt1, oAll, oAny, oTuple, oList, oListO, oIx, oIn, oInT, oEqT, oNeNil, oMaxL, oMinL, oMaxT, oMinT, oSortT, oSortI, oDictT, oTupleF, wMt, oApp, oExt, oPop, oPopAt, wFrom, wTo, wTupRg, wLstRg, wSortSetI, wSortSetP, wTGet, wTGetD, wTIn, wDGet, wDNot, wDPut, wDict1, wDictO, wSetIx, wOrL, wWeak, wPar2, wPar3, wRaise, wNever, gN, gT, gsCons, gsNil, wZip, wEnum, wSeqI, wRng1, wRng2, wCb, asV, asVs, asBl, asInt, as1, as2, as3, asSeq, asU, asM0, asO, asD, asDt, asLst, asNil, asNon, asSc, asZip, contL, contS, contT, contP, retD, endV, endU, endX, allV, slots0, scEq, isN, List.map_cons, List.map_nil, Option.map_some, List.getElem?_cons_zero, List.getElem?_cons_succ, List.length_cons, List.length_nil, List.cons_append, List.nil_append, List.set_cons_zero, List.set_cons_succ, Nat.zero_add, Nat.reduceAdd, Nat.reduceSub, List.replicate_succ, List.replicate_zero, Nat.reduceLeDiff, if_pos, if_true, if_false, Bool.false_eq_true, Nat.le_refl, ite_true, ite_false, true_and, and_true, Nat.sub_self, List.replicate, List.length_map, wYes, wipeD]
        refine ⟨(e, e'), ⟨rfl, f1⟩, ?_⟩
        rw [List.take_succ, f2]
        rfl
      · obtain ⟨rfl, rfl⟩ := hp
        rw [hl, List.take_length]
        exact q
    · rw [if_neg hz] at h
      cases h
  simp only [wSeq, wNext, wSet, wRet, wDrop, wIfS, wIf, wVar, wC, wNil, wCons, wOp, wTest, wAnd, wOr, wNot, wAndV, wOrV, wNotV, wChain, wTup, wLst, wLstO, wCall, wCallU, wCallX, wCB, wIsi, oI, oI0, oB0, oEqS, oNeS, oIsB, oIsN, oCat, oCatT, oRep, oRepO, oRepT, oLen, oInt1, oAll, oAny, oTuple, oList, oListO, oIx, oIn, oInT, oEqT, oNeNil, oMaxL, oMinL, oMaxT, oMinT, oSortT, oSortI, oDictT, oTupleF, wMt, oApp, oExt, oPop, oPopAt, wFrom, wTo, wTupRg, wLstRg, wSortSetI, wSortSetP, wTGet, wTGetD, wTIn, wDGet, wDNot, wDPut, wDict1, wDictO, wSetIx, wOrL, wWeak, wPar2, wPar3, wRaise, wNever, gN, gT, gsCons, gsNil, wZip, wEnum, wSeqI, wRng1, wRng2, wCb, asV, asVs, asBl, asInt, as1, as2, as3, asSeq, asU, asM0, asO, asD, asDt, asLst, asNil, asNon, asSc, asZip, contL, contS, contT, contP, retD, endV, endU, endX, allV, slots0, scEq, isN, List.map_cons, List.map_nil, Option.map_some, List.getElem?_cons_zero, List.getElem?_cons_succ, List.length_cons, List.length_nil, List.cons_append, List.nil_append, List.set_cons_zero, List.set_cons_succ, Nat.zero_add, Nat.reduceAdd, Nat.reduceSub, List.replicate_succ, List.replicate_zero, Nat.reduceLeDiff, if_pos, if_true, if_false, Bool.false_eq_true, Nat.le_refl, ite_true, ite_false, true_and, and_true, Nat.sub_self, List.replicate, List.length_map]
  cases d with
  | tup ds => exact (if_pos rfl).mpr (seq _ ds (.inl rfl) h)
  | lst ds => exact (if_pos rfl).mpr (seq _ ds (.inr rfl) h)
  | int i => cases h; exact (if_neg (by simp [isLst, isTup])).mpr q
  | _ => cases h
theorem ok_tof (D : Df K mg "tuple_of" s_tupof ["thing"]) (B : Bs mg) : ∀ n : Nat, Cl P w K mg base CX0 n "tuple_of" ["thing"] (spV (spTof n))
  | 0 => by
    obtain ⟨g, fd, F, r⟩ := (cl_none (CX := CX0) (k := 0) (f := fun x : Dt × Dt => x.2) D (P := P) (w := w) (base := base)).ex
    refine ⟨g, fd, F.imp (fun vs H Q E h => ?_), r⟩
    obtain ⟨av, ds, h1, h2, x, ⟨_, h4⟩, _⟩ := h
    cases h4
  | n + 1 => ok_tof1 D B n n (ok_tof D B n)

end
end VL
set_option Elab.async false
set_option linter.all false
set_option maxRecDepth 100000
set_option maxHeartbeats 4000000
/-! VL18: sets, lots, rows, leads, floods. -/
namespace VL
open PySem PySem.Spec PyProof.Rows L2
section
variable {P : Program} {w : World} {K : PySem.W.Frag} {mg : Str → Option Value} {base : Heap}
abbrev s_isset : Stmt := topS 9
theorem sc_isset : FnScope ["thing", "many", "k", "one"] ["thing", "many"] (defScope s_isset) := ⟨rfl, rfl, rfl, by decide +kernel, rfl, by decide +kernel, by decide +kernel⟩

abbrev s_islot : Stmt := topS 10
theorem sc_islot : FnScope ["thing", "m"] ["thing", "m"] (defScope s_islot) := ⟨rfl, rfl, rfl, by decide +kernel, rfl, by decide +kernel, by decide +kernel⟩

abbrev s_allar : Stmt := topS 12
theorem sc_allar : FnScope ["rule", "own", "_"] ["rule"] (defScope s_allar) := ⟨rfl, rfl, rfl, by decide +kernel, rfl, by decide +kernel, by decide +kernel⟩

abbrev s_rows : Stmt := topS 14
theorem sc_rows : FnScope ["rule", "lot", "own", "picks", "area"] ["rule", "lot"] (defScope s_rows) := ⟨rfl, rfl, rfl, by decide +kernel, rfl, by decide +kernel, by decide +kernel⟩

abbrev s_sure : Stmt := topS 15
theorem sc_sure : FnScope ["lot", "areas", "area"] ["lot", "areas"] (defScope s_sure) := ⟨rfl, rfl, rfl, by decide +kernel, rfl, by decide +kernel, by decide +kernel⟩

abbrev s_turned : Stmt := topS 20
theorem sc_turned : FnScope ["pairs", "one", "other"] ["pairs"] (defScope s_turned) := ⟨rfl, rfl, rfl, by decide +kernel, rfl, by decide +kernel, by decide +kernel⟩


abbrev spNum : Spec := fnS (fun (d : Dt) ds => ds = [d]) fun d => .bl (isNum d)
def isSetM (ns : List Int) (m : Int) : Bool := (ns.map fun n => decide (0 ≤ n) && decide (n < m)).all id && ((List.range (ns.length - 1)).map fun k => decide (ns.getD k 0 < ns.getD (k + 1) 0)).all id
abbrev spSet : Spec := fnS (fun (x : List Int × Int) ds => ds = [tI x.1, .int x.2] ∧ x.1.length ≤ 100) fun x => .bl (isSetM x.1 x.2)
theorem ok_isset (D : Df K mg "is_set" s_isset ["thing", "many"]) (B : Bs mg) (C_is_number : Cl P w K mg base CX0 1 "is_number" ["thing"] (spV spNum)) : Cl P w K mg base CX0 2 "is_set" ["thing", "many"] (spV spSet) := by
  refine v_def D sc_isset (fun y ds h => by rw [h.1]; rfl) fun fa cdv A outer s H E hr => ?_
  have Sc := sc_isset

  refine ⟨_, (vs_cons (v_ifS (VW.vt (vw_or (vt_not (vt_val (v_is isi_tup B.isinstance B.tuple (vv 0)))) (vw_or1 (vt_not (vt_val (v_b (vc_all rfl) B.all (va_cons (v_lc (own := [("one", 3)]) rfl Sc.nd (vi_seq (vv 0)) (blkOk_by (by rfl)) (fun _ _ _ _ _ => (vg_name (i := 3) Sc.nd)) (fun _ _ _ _ _ => vts_nil) (fun _ _ _ _ _ => (v_and (v_c C_is_number (hr.mono (by omega)) (va_cons (vv 3) va_nil)) (v_one (v_chain vo_le vo_lt v_int (vv 3) (vv 1) (fun h1 h2 a b c => pe_chain h1 h2 a b c)))))) va_nil))))))) (vs_one (v_ret v_bl)) vs_nil)
    (vs_one (v_ret (v_b (vc_all rfl) B.all (va_cons (v_lc (own := [("k", 2)]) rfl Sc.nd (vi_r1 B.range (va_cons (v_op vo_sub (v_b vc_len B.len (va_cons (vv 0) va_nil)) v_int) va_nil)) (blkOk_by (by rfl)) (fun _ _ _ _ _ => (vg_name (i := 2) Sc.nd)) (fun _ _ _ _ _ => vts_nil) (fun _ _ _ _ _ => (v_cmp vo_lt (v_ix (vv 0) (vv 2)) (v_ix (vv 0) (v_op vo_add (vv 2) v_int)) (by rfl)))) va_nil))))), ?_⟩
  rintro ⟨ns, m⟩ _ Q ⟨rfl, hz⟩ q
  dsimp only at hz q ⊢
  simp only [wSeq, wNext, wSet, wRet, wDrop, wIfS, wIf, wVar, wC, wNil, wCons, wOp, wTest, wAnd, wOr, wNot, wAndV, wOrV, wNotV, wChain, wTup, wLst, wLstO, wCall, wCallU, wCallX, wCB, wIsi, oI, oI0, oB0, oEqS, oNeS, oIsB, oIsN, oCat, oCatT, oRep, oRepO, oRepT, oLen, oInt1, oAll, oAny, oTuple, oList, oListO, oIx, oIn, oInT, oEqT, oNeNil, oMaxL, oMinL, oMaxT, oMinT, oSortT, oSortI, oDictT, oTupleF, wMt, oApp, oExt, oPop, oPopAt, wFrom, wTo, wTupRg, wLstRg, wSortSetI, wSortSetP, wTGet, wTGetD, wTIn, wDGet, wDNot, wDPut, wDict1, wDictO, wSetIx, wOrL, wWeak, wPar2, wPar3, wRaise, wNever, gN, gT, gsCons, gsNil, wZip, wEnum, wSeqI, wRng1, wRng2, wCb, asV, asVs, asBl, asInt, as1, as2, as3, asSeq, asU, asM0, asO, asD, asDt, asLst, asNil, asNon, asSc, asZip, contL, contS, contT, contP, retD, endV, endU, endX, allV, slots0, scEq, isN, List.map_cons, List.map_nil, Option.map_some, List.getElem?_cons_zero, List.getElem?_cons_succ, List.length_cons, List.length_nil, List.cons_append, List.nil_append, List.set_cons_zero, List.set_cons_succ, Nat.zero_add, Nat.reduceAdd, Nat.reduceSub, List.replicate_succ, List.replicate_zero, Nat.reduceLeDiff, if_pos, if_true, if_false, Bool.false_eq_true, Nat.le_refl, ite_true, ite_false, true_and, and_true, Nat.sub_self, List.replicate, List.length_map]
  simp only [isTup, Bool.not_true, Bool.false_eq_true, if_false]
  refine lcM (xs := ns) Dt.int (fun n => .bl (decide (0 ≤ n) && decide (n < m))) (fun Q' q' => q') (by omega) (fun n hn A h => ?_) ?_
  · simp only [wSeq, wNext, wSet, wRet, wDrop, wIfS, wIf, wVar, wC, wNil, wCons, wOp, wTest, wAnd, wOr, wNot, wAndV, wOrV, wNotV, wChain, wTup, wLst, wLstO, wCall, wCallU, wCallX, wCB, wIsi, oI, oI0, oB0, oEqS, oNeS, oIsB, oIsN, oCat, oCatT, oRep, oRepO, oRepT, oLen, oInt1, oAll, oAny, oTuple, oList, oListO, oIx, oIn, oInT, oEqT, oNeNil, oMaxL, oMinL, oMaxT, oMinT, oSortT, oSortI, oDictT, oTupleF, wMt, oApp, oExt, oPop, oPopAt, wFrom, wTo, wTupRg, wLstRg, wSortSetI, wSortSetP, wTGet, wTGetD, wTIn, wDGet, wDNot, wDPut, wDict1, wDictO, wSetIx, wOrL, wWeak, wPar2, wPar3, wRaise, wNever, gN, gT, gsCons, gsNil, wZip, wEnum, wSeqI, wRng1, wRng2, wCb, asV, asVs, asBl, asInt, as1, as2, as3, asSeq, asU, asM0, asO, asD, asDt, asLst, asNil, asNon, asSc, asZip, contL, contS, contT, contP, retD, endV, endU, endX, allV, slots0, scEq, isN, List.map_cons, List.map_nil, Option.map_some, List.getElem?_cons_zero, List.getElem?_cons_succ, List.length_cons, List.length_nil, List.cons_append, List.nil_append, List.set_cons_zero, List.set_cons_succ, Nat.zero_add, Nat.reduceAdd, Nat.reduceSub, List.replicate_succ, List.replicate_zero, Nat.reduceLeDiff, if_pos, if_true, if_false, Bool.false_eq_true, Nat.le_refl, ite_true, ite_false, true_and, and_true, Nat.sub_self, List.replicate, List.length_map, wipeD]
    refine ⟨.int n, rfl, ?_⟩
    simp only [isNum, if_true]
    by_cases h0 : (0 : Int) ≤ n
    · rw [if_pos (decide_eq_true h0)]
      rw [decide_eq_true h0, Bool.true_and] at h
      exact h
    · rw [if_neg (by simpa using h0)]
      rw [decide_eq_false h0, Bool.false_and] at h
      exact h
  · simp only [wSeq, wNext, wSet, wRet, wDrop, wIfS, wIf, wVar, wC, wNil, wCons, wOp, wTest, wAnd, wOr, wNot, wAndV, wOrV, wNotV, wChain, wTup, wLst, wLstO, wCall, wCallU, wCallX, wCB, wIsi, oI, oI0, oB0, oEqS, oNeS, oIsB, oIsN, oCat, oCatT, oRep, oRepO, oRepT, oLen, oInt1, oAll, oAny, oTuple, oList, oListO, oIx, oIn, oInT, oEqT, oNeNil, oMaxL, oMinL, oMaxT, oMinT, oSortT, oSortI, oDictT, oTupleF, wMt, oApp, oExt, oPop, oPopAt, wFrom, wTo, wTupRg, wLstRg, wSortSetI, wSortSetP, wTGet, wTGetD, wTIn, wDGet, wDNot, wDPut, wDict1, wDictO, wSetIx, wOrL, wWeak, wPar2, wPar3, wRaise, wNever, gN, gT, gsCons, gsNil, wZip, wEnum, wSeqI, wRng1, wRng2, wCb, asV, asVs, asBl, asInt, as1, as2, as3, asSeq, asU, asM0, asO, asD, asDt, asLst, asNil, asNon, asSc, asZip, contL, contS, contT, contP, retD, endV, endU, endX, allV, slots0, scEq, isN, List.map_cons, List.map_nil, Option.map_some, List.getElem?_cons_zero, List.getElem?_cons_succ, List.length_cons, List.length_nil, List.cons_append, List.nil_append, List.set_cons_zero, List.set_cons_succ, Nat.zero_add, Nat.reduceAdd, Nat.reduceSub, List.replicate_succ, List.replicate_zero, Nat.reduceLeDiff, if_pos, if_true, if_false, Bool.false_eq_true, Nat.le_refl, ite_true, ite_false, true_and, and_true, Nat.sub_self, List.replicate, List.length_map]
    refine ⟨ns.map fun n => decide (0 ≤ n) && decide (n < m), by rw [List.map_map]; rfl, ?_⟩
    unfold isSetM at q
    cases hb : (ns.map fun n => decide (0 ≤ n) && decide (n < m)).all id with
    | false =>
      rw [hb, Bool.false_and] at q
      rw [Bool.not_false, if_pos rfl]
      exact q
    | true =>
      rw [hb, Bool.true_and] at q
      rw [Bool.not_true, if_neg Bool.false_ne_true]
      refine lcM (xs := List.range (ns.length - 1)) (fun i : Nat => Dt.int (0 + (i : Nat))) (fun k => .bl (decide (ns.getD k 0 < ns.getD (k + 1) 0))) (fun Q' q' => ?_) (by rw [List.length_range]; omega) (fun k hk A h => ?_) ?_
      · simp only [wSeq, wNext, wSet, wRet, wDrop, wIfS, wIf, wVar, wC, wNil, wCons, wOp, wTest, wAnd, wOr, wNot, wAndV, wOrV, wNotV, wChain, wTup, wLst, wLstO, wCall, wCallU, wCallX, wCB, wIsi, oI, oI0, oB0, oEqS, oNeS, oIsB, oIsN, oCat, oCatT, oRep, oRepO, oRepT, oLen, oInt1, oAll, oAny, oTuple, oList, oListO, oIx, oIn, oInT, oEqT, oNeNil, oMaxL, oMinL, oMaxT, oMinT, oSortT, oSortI, oDictT, oTupleF, wMt, oApp, oExt, oPop, oPopAt, wFrom, wTo, wTupRg, wLstRg, wSortSetI, wSortSetP, wTGet, wTGetD, wTIn, wDGet, wDNot, wDPut, wDict1, wDictO, wSetIx, wOrL, wWeak, wPar2, wPar3, wRaise, wNever, gN, gT, gsCons, gsNil, wZip, wEnum, wSeqI, wRng1, wRng2, wCb, asV, asVs, asBl, asInt, as1, as2, as3, asSeq, asU, asM0, asO, asD, asDt, asLst, asNil, asNon, asSc, asZip, contL, contS, contT, contP, retD, endV, endU, endX, allV, slots0, scEq, isN, List.map_cons, List.map_nil, Option.map_some, List.getElem?_cons_zero, List.getElem?_cons_succ, List.length_cons, List.length_nil, List.cons_append, List.nil_append, List.set_cons_zero, List.set_cons_succ, Nat.zero_add, Nat.reduceAdd, Nat.reduceSub, List.replicate_succ, List.replicate_zero, Nat.reduceLeDiff, if_pos, if_true, if_false, Bool.false_eq_true, Nat.le_refl, ite_true, ite_false, true_and, and_true, Nat.sub_self, List.replicate, List.length_map]
        refine ⟨by omega, ?_⟩
        have e : ((ns.length : Int) - 1).toNat = ns.length - 1 := by omega
        rw [e]
        exact q'
      · have hk' : k + 1 < ns.length := by have := List.mem_range.mp hk; omega
        simp only [wSeq, wNext, wSet, wRet, wDrop, wIfS, wIf, wVar, wC, wNil, wCons, wOp, wTest, wAnd, wOr, wNot, wAndV, wOrV, wNotV, wChain, wTup, wLst, wLstO, wCall, wCallU, wCallX, wCB, wIsi, oI, oI0, oB0, oEqS, oNeS, oIsB, oIsN, oCat, oCatT, oRep, oRepO, oRepT, oLen, oInt1, oAll, oAny, oTuple, oList, oListO, oIx, oIn, oInT, oEqT, oNeNil, oMaxL, oMinL, oMaxT, oMinT, oSortT, oSortI, oDictT, oTupleF, wMt, oApp, oExt, oPop, oPopAt, wFrom, wTo, wTupRg, wLstRg, wSortSetI, wSortSetP, wTGet, wTGetD, wTIn, wDGet, wDNot, wDPut, wDict1, wDictO, wSetIx, wOrL, wWeak, wPar2, wPar3, wRaise, wNever, gN, gT, gsCons, gsNil, wZip, wEnum, wSeqI, wRng1, wRng2, wCb, asV, asVs, asBl, asInt, as1, as2, as3, asSeq, asU, asM0, asO, asD, asDt, asLst, asNil, asNon, asSc, asZip, contL, contS, contT, contP, retD, endV, endU, endX, allV, slots0, scEq, isN, List.map_cons, List.map_nil, Option.map_some, List.getElem?_cons_zero, List.getElem?_cons_succ, List.length_cons, List.length_nil, List.cons_append, List.nil_append, List.set_cons_zero, List.set_cons_succ, Nat.zero_add, Nat.reduceAdd, Nat.reduceSub, List.replicate_succ, List.replicate_zero, Nat.reduceLeDiff, if_pos, if_true, if_false, Bool.false_eq_true, Nat.le_refl, ite_true, ite_false, true_and, and_true, Nat.sub_self, List.replicate, List.length_map, wipeD]
        exact ⟨_, at_int (k := k) (by omega) (by omega), _, at_int (k := k + 1) (by omega) hk', h⟩
      · simp only [wSeq, wNext, wSet, wRet, wDrop, wIfS, wIf, wVar, wC, wNil, wCons, wOp, wTest, wAnd, wOr, wNot, wAndV, wOrV, wNotV, wChain, wTup, wLst, wLstO, wCall, wCallU, wCallX, wCB, wIsi, oI, oI0, oB0, oEqS, oNeS, oIsB, oIsN, oCat, oCatT, oRep, oRepO, oRepT, oLen, oInt1, oAll, oAny, oTuple, oList, oListO, oIx, oIn, oInT, oEqT, oNeNil, oMaxL, oMinL, oMaxT, oMinT, oSortT, oSortI, oDictT, oTupleF, wMt, oApp, oExt, oPop, oPopAt, wFrom, wTo, wTupRg, wLstRg, wSortSetI, wSortSetP, wTGet, wTGetD, wTIn, wDGet, wDNot, wDPut, wDict1, wDictO, wSetIx, wOrL, wWeak, wPar2, wPar3, wRaise, wNever, gN, gT, gsCons, gsNil, wZip, wEnum, wSeqI, wRng1, wRng2, wCb, asV, asVs, asBl, asInt, as1, as2, as3, asSeq, asU, asM0, asO, asD, asDt, asLst, asNil, asNon, asSc, asZip, contL, contS, contT, contP, retD, endV, endU, endX, allV, slots0, scEq, isN, List.map_cons, List.map_nil, Option.map_some, List.getElem?_cons_zero, List.getElem?_cons_succ, List.length_cons, List.length_nil, List.cons_append, List.nil_append, List.set_cons_zero, List.set_cons_succ, Nat.zero_add, Nat.reduceAdd, Nat.reduceSub, List.replicate_succ, List.replicate_zero, Nat.reduceLeDiff, if_pos, if_true, if_false, Bool.false_eq_true, Nat.le_refl, ite_true, ite_false, true_and, and_true, Nat.sub_self, List.replicate, List.length_map]
        exact ⟨(List.range (ns.length - 1)).map fun k => decide (ns.getD k 0 < ns.getD (k + 1) 0), by rw [List.map_map]; rfl, q⟩
abbrev spLot : Spec := fnS (fun (x : List Int × Int) ds => ds = [tI x.1, .int x.2] ∧ x.1.length ≤ 100) fun x => .bl (isSetM x.1 x.2 && decide (0 < (x.1.length : Int)))
theorem ok_islot (D : Df K mg "is_lot" s_islot ["thing", "m"]) (B : Bs mg) (C_is_set : Cl P w K mg base CX0 2 "is_set" ["thing", "many"] (spV spSet)) : Cl P w K mg base CX0 3 "is_lot" ["thing", "m"] (spV spLot) := by
  refine v_def D sc_islot (fun y ds h => by rw [h.1]; rfl) fun fa cdv A outer s H E hr => ?_
  have Sc := sc_islot

  refine ⟨_, (vs_one (v_ret (v_and (v_c C_is_set (hr.mono (by omega)) (va_cons (vv 0) (va_cons (vv 1) va_nil))) (v_one (v_cmp vo_gt (v_b vc_len B.len (va_cons (vv 0) va_nil)) v_int (by rfl)))))), ?_⟩
  rintro ⟨ns, m⟩ _ Q ⟨rfl, hz⟩ q
  dsimp only at hz q ⊢
  simp only [wSeq, wNext, wSet, wRet, wDrop, wIfS, wIf, wVar, wC, wNil, wCons, wOp, wTest, wAnd, wOr, wNot, wAndV, wOrV, wNotV, wChain, wTup, wLst, wLstO, wCall, wCallU, wCallX, wCB, wIsi, oI, oI0, oB0, oEqS, oNeS, oIsB, oIsN, oCat, oCatT, oRep, oRepO, oRepT, oLen, oInt1, oAll, oAny, oTuple, oList, oListO, oIx, oIn, oInT, oEqT, oNeNil, oMaxL, oMinL, oMaxT, oMinT, oSortT, oSortI, oDictT, oTupleF, wMt, oApp, oExt, oPop, oPopAt, wFrom, wTo, wTupRg, wLstRg, wSortSetI, wSortSetP, wTGet, wTGetD, wTIn, wDGet, wDNot, wDPut, wDict1, wDictO, wSetIx, wOrL, wWeak, wPar2, wPar3, wRaise, wNever, gN, gT, gsCons, gsNil, wZip, wEnum, wSeqI, wRng1, wRng2, wCb, asV, asVs, asBl, asInt, as1, as2, as3, asSeq, asU, asM0, asO, asD, asDt, asLst, asNil, asNon, asSc, asZip, contL, contS, contT, contP, retD, endV, endU, endX, allV, slots0, scEq, isN, List.map_cons, List.map_nil, Option.map_some, List.getElem?_cons_zero, List.getElem?_cons_succ, List.length_cons, List.length_nil, List.cons_append, List.nil_append, List.set_cons_zero, List.set_cons_succ, Nat.zero_add, Nat.reduceAdd, Nat.reduceSub, List.replicate_succ, List.replicate_zero, Nat.reduceLeDiff, if_pos, if_true, if_false, Bool.false_eq_true, Nat.le_refl, ite_true, ite_false, true_and, and_true, Nat.sub_self, List.replicate, List.length_map]
  refine ⟨(ns, m), ⟨rfl, hz⟩, ?_⟩
  dsimp only
  cases hb : isSetM ns m with
  | false =>
    rw [hb, Bool.false_and] at q
    exact (if_neg Bool.false_ne_true).mpr q
  | true =>
    rw [hb, Bool.true_and] at q
    exact (if_pos rfl).mpr q
/-! rules -/
abbrev Rl := List (List Int × List Int)
def prT (x : List Int × List Int) : Dt := .tup [tI x.1, tI x.2]
def prL (x : List Int × List Int) : Dt := .lst [lI x.1, lI x.2]
abbrev ruleT (r : Rl) : Dt := .tup (r.map prT)
abbrev ruleL (r : Rl) : Dt := .lst (r.map prL)
def RuleD (r : Rl) (d : Dt) : Prop := d = ruleT r ∨ d = ruleL r
def SeqD (ns : List Int) (d : Dt) : Prop := d = tI ns ∨ d = lI ns
structure SmallR (r : Rl) : Prop where
  len : r.length ≤ 40
  each : ∀ x ∈ r, x.1.length ≤ 6 ∧ x.2.length ≤ 3
  ins : ∀ x ∈ r, (∀ a ∈ x.1, 0 ≤ a ∧ a < 7) ∧ ∀ a ∈ x.2, 0 ≤ a ∧ a < 7
theorem tofL_map {α : Type} {f : Dt → Option Dt} {g h : α → Dt} : ∀ {xs : List α}, (∀ x ∈ xs, f (g x) = some (h x)) → tofL f (xs.map g) = some (xs.map h)
  | [], _ => rfl
  | x :: xs, hx => by
    rw [List.map_cons, tofL, hx x List.mem_cons_self, Option.bind_some, tofL_map fun y hy => hx y (List.mem_cons_of_mem _ hy)]
    rfl
theorem tof_int (n : Nat) (ns : List Int) : tofL (tof (n + 1)) (ns.map .int) = some (ns.map .int) := tofL_map fun _ _ => rfl
theorem tof_tI (n : Nat) {ns : List Int} (h : ns.length ≤ 1000) : tof (n + 2) (tI ns) = some (tI ns) := by
  show (if (ns.map Dt.int).length ≤ 1000 then (tofL (tof (n + 1)) (ns.map .int)).map Dt.tup else none) = _
  rw [if_pos (by rw [List.length_map]; exact h), tof_int]
  rfl
theorem tof_lI (n : Nat) {ns : List Int} (h : ns.length ≤ 1000) : tof (n + 2) (lI ns) = some (tI ns) := by
  show (if (ns.map Dt.int).length ≤ 1000 then (tofL (tof (n + 1)) (ns.map .int)).map Dt.tup else none) = _
  rw [if_pos (by rw [List.length_map]; exact h), tof_int]
  rfl
theorem tof_rule {r : Rl} {d : Dt} (S : SmallR r) (h : RuleD r d) : tof 4 d = some (ruleT r) := by
  have e1 : ∀ x ∈ r, tof 3 (prT x) = some (prT x) := fun x hx => by
    obtain ⟨a, b⟩ := S.each x hx
    show (if ([tI x.1, tI x.2] : List Dt).length ≤ 1000 then (tofL (tof 2) [tI x.1, tI x.2]).map Dt.tup else none) = _
    rw [if_pos (by simp), tofL, tof_tI 0 (by omega), Option.bind_some, tofL, tof_tI 0 (by omega)]
    rfl
  have e2 : ∀ x ∈ r, tof 3 (prL x) = some (prT x) := fun x hx => by
    obtain ⟨a, b⟩ := S.each x hx
    show (if ([lI x.1, lI x.2] : List Dt).length ≤ 1000 then (tofL (tof 2) [lI x.1, lI x.2]).map Dt.tup else none) = _
    rw [if_pos (by simp), tofL, tof_lI 0 (by omega), Option.bind_some, tofL, tof_lI 0 (by omega)]
    rfl
  have hl := S.len
  rcases h with rfl | rfl
  · show (if (r.map prT).length ≤ 1000 then (tofL (tof 3) (r.map prT)).map Dt.tup else none) = _
    rw [if_pos (by rw [List.length_map]; omega), tofL_map e1]
    rfl
  · show (if (r.map prL).length ≤ 1000 then (tofL (tof 3) (r.map prL)).map Dt.tup else none) = _
    rw [if_pos (by rw [List.length_map]; omega), tofL_map e2]
    rfl
def rowsM (r : Rl) (lot : List Int) : Rl := r.filter fun x => x.1.all fun a => decide (a ∈ lot)
abbrev rowsD (r : Rl) : Dt := .lst (r.map prT)
abbrev spRows : Spec := fnS (fun (x : Rl × List Int × Dt × Dt) ds => ds = [x.2.2.1, x.2.2.2] ∧ RuleD x.1 x.2.2.1 ∧ SmallR x.1 ∧ SeqD x.2.1 x.2.2.2) fun x => rowsD (rowsM x.1 x.2.1)
theorem ok_rows (D : Df K mg "rows_within" s_rows ["rule", "lot"]) (B : Bs mg) (C_tuple_of : Cl P w K mg base CX0 4 "tuple_of" ["thing"] (spV (spTof 4))) : Cl P w K mg base CX0 5 "rows_within" ["rule", "lot"] (spV spRows) := by
  refine v_def D sc_rows (fun y ds h => by rw [h.1]; rfl) fun fa cdv A outer s H E hr => ?_
  have Sc := sc_rows

  refine ⟨_, (vs_one (v_ret (v_lc (own := [("own", 2), ("picks", 3)]) rfl Sc.nd (vi_seq (v_c C_tuple_of (hr.mono (by omega)) (va_cons (vv 0) va_nil))) (blkOk_by (by rfl)) (fun _ _ _ _ _ => (vg_tup (n := 2) rfl (vgs_cons (vg_name (i := 2) Sc.nd) (vgs_cons (vg_name (i := 3) Sc.nd) vgs_nil)))) (fun _ _ _ _ _ => (vts_one (vt_val (v_b (vc_all rfl) B.all (va_cons (v_lc (own := [("area", 4)]) rfl Sc.nd (vi_seq (vv 2)) (blkOk_by (by rfl)) (fun _ _ _ _ _ => (vg_name (i := 4) Sc.nd)) (fun _ _ _ _ _ => vts_nil) (fun _ _ _ _ _ => (v_cmp vo_in (vv 4) (vv 1) (by rfl)))) va_nil))))) (fun _ _ _ _ _ => (v_tup (va_cons (vv 2) (va_cons (vv 3) va_nil))))))), ?_⟩
  rintro ⟨r, lot, d, l⟩ _ Q ⟨rfl, hd, hs, hl⟩ q
  dsimp only at hd hs hl q ⊢
  simp only [wSeq, wNext, wSet, wRet, wDrop, wIfS, wIf, wVar, wC, wNil, wCons, wOp, wTest, wAnd, wOr, wNot, wAndV, wOrV, wNotV, wChain, wTup, wLst, wLstO, wCall, wCallU, wCallX, wCB, wIsi, oI, oI0, oB0, oEqS, oNeS, oIsB, oIsN, oCat, oCatT, oRep, oRepO, oRepT, oLen, oInt1, oAll, oAny, oTuple, oList, oListO, oIx, oIn, oInT, oEqT, oNeNil, oMaxL, oMinL, oMaxT, oMinT, oSortT, oSortI, oDictT, oTupleF, wMt, oApp, oExt, oPop, oPopAt, wFrom, wTo, wTupRg, wLstRg, wSortSetI, wSortSetP, wTGet, wTGetD, wTIn, wDGet, wDNot, wDPut, wDict1, wDictO, wSetIx, wOrL, wWeak, wPar2, wPar3, wRaise, wNever, gN, gT, gsCons, gsNil, wZip, wEnum, wSeqI, wRng1, wRng2, wCb, asV, asVs, asBl, asInt, as1, as2, as3, asSeq, asU, asM0, asO, asD, asDt, asLst, asNil, asNon, asSc, asZip, contL, contS, contT, contP, retD, endV, endU, endX, allV, slots0, scEq, isN, List.map_cons, List.map_nil, Option.map_some, List.getElem?_cons_zero, List.getElem?_cons_succ, List.length_cons, List.length_nil, List.cons_append, List.nil_append, List.set_cons_zero, List.set_cons_succ, Nat.zero_add, Nat.reduceAdd, Nat.reduceSub, List.replicate_succ, List.replicate_zero, Nat.reduceLeDiff, if_pos, if_true, if_false, Bool.false_eq_true, Nat.le_refl, ite_true, ite_false, true_and, and_true, Nat.sub_self, List.replicate, List.length_map]
  refine lcF (xs := r) prT (fun x => x.1.all fun a => decide (a ∈ lot)) prT (fun Q' q' => ?_) (by have := hs.len; omega) (fun x hx A B h1 h2 => ?_) q
  · simp only [wSeq, wNext, wSet, wRet, wDrop, wIfS, wIf, wVar, wC, wNil, wCons, wOp, wTest, wAnd, wOr, wNot, wAndV, wOrV, wNotV, wChain, wTup, wLst, wLstO, wCall, wCallU, wCallX, wCB, wIsi, oI, oI0, oB0, oEqS, oNeS, oIsB, oIsN, oCat, oCatT, oRep, oRepO, oRepT, oLen, oInt1, oAll, oAny, oTuple, oList, oListO, oIx, oIn, oInT, oEqT, oNeNil, oMaxL, oMinL, oMaxT, oMinT, oSortT, oSortI, oDictT, oTupleF, wMt, oApp, oExt, oPop, oPopAt, wFrom, wTo, wTupRg, wLstRg, wSortSetI, wSortSetP, wTGet, wTGetD, wTIn, wDGet, wDNot, wDPut, wDict1, wDictO, wSetIx, wOrL, wWeak, wPar2, wPar3, wRaise, wNever, gN, gT, gsCons, gsNil, wZip, wEnum, wSeqI, wRng1, wRng2, wCb, asV, asVs, asBl, asInt, as1, as2, as3, asSeq, asU, asM0, asO, asD, asDt, asLst, asNil, asNon, asSc, asZip, contL, contS, contT, contP, retD, endV, endU, endX, allV, slots0, scEq, isN, List.map_cons, List.map_nil, Option.map_some, List.getElem?_cons_zero, List.getElem?_cons_succ, List.length_cons, List.length_nil, List.cons_append, List.nil_append, List.set_cons_zero, List.set_cons_succ, Nat.zero_add, Nat.reduceAdd, Nat.reduceSub, List.replicate_succ, List.replicate_zero, Nat.reduceLeDiff, if_pos, if_true, if_false, Bool.false_eq_true, Nat.le_refl, ite_true, ite_false, true_and, and_true, Nat.sub_self, List.replicate, List.length_map]
    exact ⟨(d, ruleT r), ⟨rfl, tof_rule hs hd⟩, q'⟩
  · obtain ⟨a1, a2⟩ := hs.each x hx
    simp only [wSeq, wNext, wSet, wRet, wDrop, wIfS, wIf, wVar, wC, wNil, wCons, wOp, wTest, wAnd, wOr, wNot, wAndV, wOrV, wNotV, wChain, wTup, wLst, wLstO, wCall, wCallU, wCallX, wCB, wIsi, oI, oI0, oB0, oEqS, oNeS, oIsB, oIsN, oCat, oCatT, oRep, oRepO, oRepT, oLen, oInt1, oAll, oAny, oTuple, oList, oListO, oIx, oIn, oInT, oEqT, oNeNil, oMaxL, oMinL, oMaxT, oMinT, oSortT, oSortI, oDictT, oTupleF, wMt, oApp, oExt, oPop, oPopAt, wFrom, wTo, wTupRg, wLstRg, wSortSetI, wSortSetP, wTGet, wTGetD, wTIn, wDGet, wDNot, wDPut, wDict1, wDictO, wSetIx, wOrL, wWeak, wPar2, wPar3, wRaise, wNever, gN, gT, gsCons, gsNil, wZip, wEnum, wSeqI, wRng1, wRng2, wCb, asV, asVs, asBl, asInt, as1, as2, as3, asSeq, asU, asM0, asO, asD, asDt, asLst, asNil, asNon, asSc, asZip, contL, contS, contT, contP, retD, endV, endU, endX, allV, slots0, scEq, isN, List.map_cons, List.map_nil, Option.map_some, List.getElem?_cons_zero, List.getElem?_cons_succ, List.length_cons, List.length_nil, List.cons_append, List.nil_append, List.set_cons_zero, List.set_cons_succ, Nat.zero_add, Nat.reduceAdd, Nat.reduceSub, List.replicate_succ, List.replicate_zero, Nat.reduceLeDiff, if_pos, if_true, if_false, Bool.false_eq_true, Nat.le_refl, ite_true, ite_false, true_and, and_true, Nat.sub_self, List.replicate, List.length_map, wipeD, prT]
    refine lcM (xs := x.1) Dt.int (fun a => .bl (decide (a ∈ lot))) (fun Q' q' => q') (by omega) (fun a ha A h => ?_) ?_
    · rcases hl with rfl | rfl
      · simp only [wSeq, wNext, wSet, wRet, wDrop, wIfS, wIf, wVar, wC, wNil, wCons, wOp, wTest, wAnd, wOr, wNot, wAndV, wOrV, wNotV, wChain, wTup, wLst, wLstO, wCall, wCallU, wCallX, wCB, wIsi, oI, oI0, oB0, oEqS, oNeS, oIsB, oIsN, oCat, oCatT, oRep, oRepO, oRepT, oLen, oInt1, oAll, oAny, oTuple, oList, oListO, oIx, oIn, oInT, oEqT, oNeNil, oMaxL, oMinL, oMaxT, oMinT, oSortT, oSortI, oDictT, oTupleF, wMt, oApp, oExt, oPop, oPopAt, wFrom, wTo, wTupRg, wLstRg, wSortSetI, wSortSetP, wTGet, wTGetD, wTIn, wDGet, wDNot, wDPut, wDict1, wDictO, wSetIx, wOrL, wWeak, wPar2, wPar3, wRaise, wNever, gN, gT, gsCons, gsNil, wZip, wEnum, wSeqI, wRng1, wRng2, wCb, asV, asVs, asBl, asInt, as1, as2, as3, asSeq, asU, asM0, asO, asD, asDt, asLst, asNil, asNon, asSc, asZip, contL, contS, contT, contP, retD, endV, endU, endX, allV, slots0, scEq, isN, List.map_cons, List.map_nil, Option.map_some, List.getElem?_cons_zero, List.getElem?_cons_succ, List.length_cons, List.length_nil, List.cons_append, List.nil_append, List.set_cons_zero, List.set_cons_succ, Nat.zero_add, Nat.reduceAdd, Nat.reduceSub, List.replicate_succ, List.replicate_zero, Nat.reduceLeDiff, if_pos, if_true, if_false, Bool.false_eq_true, Nat.le_refl, ite_true, ite_false, true_and, and_true, Nat.sub_self, List.replicate, List.length_map, wipeD]
        exact ⟨lot, rfl, h⟩
      · simp only [wSeq, wNext, wSet, wRet, wDrop, wIfS, wIf, wVar, wC, wNil, wCons, wOp, wTest, wAnd, wOr, wNot, wAndV, wOrV, wNotV, wChain, wTup, wLst, wLstO, wCall, wCallU, wCallX, wCB, wIsi, oI, oI0, oB0, oEqS, oNeS, oIsB, oIsN, oCat, oCatT, oRep, oRepO, oRepT, oLen, oInt1, oAll, oAny, oTuple, oList, oListO, oIx, oIn, oInT, oEqT, oNeNil, oMaxL, oMinL, oMaxT, oMinT, oSortT, oSortI, oDictT, oTupleF, wMt, oApp, oExt, oPop, oPopAt, wFrom, wTo, wTupRg, wLstRg, wSortSetI, wSortSetP, wTGet, wTGetD, wTIn, wDGet, wDNot, wDPut, wDict1, wDictO, wSetIx, wOrL, wWeak, wPar2, wPar3, wRaise, wNever, gN, gT, gsCons, gsNil, wZip, wEnum, wSeqI, wRng1, wRng2, wCb, asV, asVs, asBl, asInt, as1, as2, as3, asSeq, asU, asM0, asO, asD, asDt, asLst, asNil, asNon, asSc, asZip, contL, contS, contT, contP, retD, endV, endU, endX, allV, slots0, scEq, isN, List.map_cons, List.map_nil, Option.map_some, List.getElem?_cons_zero, List.getElem?_cons_succ, List.length_cons, List.length_nil, List.cons_append, List.nil_append, List.set_cons_zero, List.set_cons_succ, Nat.zero_add, Nat.reduceAdd, Nat.reduceSub, List.replicate_succ, List.replicate_zero, Nat.reduceLeDiff, if_pos, if_true, if_false, Bool.false_eq_true, Nat.le_refl, ite_true, ite_false, true_and, and_true, Nat.sub_self, List.replicate, List.length_map, wipeD]
        exact ⟨lot, rfl, h⟩
    · simp only [wSeq, wNext, wSet, wRet, wDrop, wIfS, wIf, wVar, wC, wNil, wCons, wOp, wTest, wAnd, wOr, wNot, wAndV, wOrV, wNotV, wChain, wTup, wLst, wLstO, wCall, wCallU, wCallX, wCB, wIsi, oI, oI0, oB0, oEqS, oNeS, oIsB, oIsN, oCat, oCatT, oRep, oRepO, oRepT, oLen, oInt1, oAll, oAny, oTuple, oList, oListO, oIx, oIn, oInT, oEqT, oNeNil, oMaxL, oMinL, oMaxT, oMinT, oSortT, oSortI, oDictT, oTupleF, wMt, oApp, oExt, oPop, oPopAt, wFrom, wTo, wTupRg, wLstRg, wSortSetI, wSortSetP, wTGet, wTGetD, wTIn, wDGet, wDNot, wDPut, wDict1, wDictO, wSetIx, wOrL, wWeak, wPar2, wPar3, wRaise, wNever, gN, gT, gsCons, gsNil, wZip, wEnum, wSeqI, wRng1, wRng2, wCb, asV, asVs, asBl, asInt, as1, as2, as3, asSeq, asU, asM0, asO, asD, asDt, asLst, asNil, asNon, asSc, asZip, contL, contS, contT, contP, retD, endV, endU, endX, allV, slots0, scEq, isN, List.map_cons, List.map_nil, Option.map_some, List.getElem?_cons_zero, List.getElem?_cons_succ, List.length_cons, List.length_nil, List.cons_append, List.nil_append, List.set_cons_zero, List.set_cons_succ, Nat.zero_add, Nat.reduceAdd, Nat.reduceSub, List.replicate_succ, List.replicate_zero, Nat.reduceLeDiff, if_pos, if_true, if_false, Bool.false_eq_true, Nat.le_refl, ite_true, ite_false, true_and, and_true, Nat.sub_self, List.replicate, List.length_map]
      refine ⟨x.1.map fun a => decide (a ∈ lot), by rw [List.map_map]; rfl, ?_⟩
      have e : (x.1.map fun a => decide (a ∈ lot)).all id = x.1.all fun a => decide (a ∈ lot) := by rw [List.all_map]; rfl
      rw [e]
      cases hb : x.1.all fun a => decide (a ∈ lot) with
      | true => exact (if_pos rfl).mpr (h1 hb)
      | false => exact (if_neg Bool.false_ne_true).mpr (h2 hb)

end
end VL
set_option Elab.async false
set_option linter.all false
set_option maxRecDepth 100000
set_option maxHeartbeats 4000000
/-! VL19: all areas, leads, floods. -/
namespace VL
open PySem PySem.Spec PyProof.Rows L2
section
variable {P : Program} {w : World} {K : PySem.W.Frag} {mg : Str → Option Value} {base : Heap}
abbrev s_leads : Stmt := topS 16
theorem sc_leads : FnScope ["rule", "lot", "found", "own", "picks", "other", "one"] ["rule", "lot"] (defScope s_leads) := ⟨rfl, rfl, rfl, by decide +kernel, rfl, by decide +kernel, by decide +kernel⟩

abbrev s_flood : Stmt := topS 19
theorem sc_flood : FnScope ["pairs", "area", "found", "left", "here", "one", "other"] ["pairs", "area"] (defScope s_flood) := ⟨rfl, rfl, rfl, by decide +kernel, rfl, by decide +kernel, by decide +kernel⟩


/-! all_areas: of a rule on m areas -/
def rg (m : Nat) : List Int := (List.range m).map fun i : Nat => (i : Int)
theorem rgD_rg (m : Nat) : rgD 0 m = (rg m).map Dt.int := by
  unfold rgD rg
  rw [List.map_map]
  refine List.map_congr_left fun i _ => ?_
  show Dt.int (0 + (i : Int)) = Dt.int (i : Int)
  rw [Int.zero_add]
/-- the greatest last area of the lots of a rule is m - 1 -/
structure Tops (m : Nat) (r : Rl) : Prop where
  ne : ∀ x ∈ r, x.1 ≠ []
  le : ∀ x ∈ r, ∀ h : x.1 ≠ [], x.1.getLast h < m
  ge : ∃ x ∈ r, ∃ h : x.1 ≠ [], x.1.getLast h = (m : Int) - 1
  pos : 1 ≤ m
abbrev spAll : Spec := fnS (fun (x : Nat × Rl × Dt) ds => ds = [x.2.2] ∧ RuleD x.2.1 x.2.2 ∧ SmallR x.2.1 ∧ Tops x.1 x.2.1 ∧ x.1 ≤ 100) fun x => tI (rg x.1)
theorem ok_allar (D : Df K mg "all_areas" s_allar ["rule"]) (B : Bs mg) : Cl P w K mg base CX0 1 "all_areas" ["rule"] (spV spAll) := by
  refine v_def D sc_allar (fun y ds h => by rw [h.1]; rfl) fun fa cdv A outer s H E hr => ?_
  have Sc := sc_allar

  refine ⟨_, (vs_one (v_ret (v_tupRg rfl B.tuple B.range (v_op vo_add (v_b (vc_maxL rfl) B.max (va_cons (v_op vo_cat (v_lst (va_cons v_int va_nil)) (v_lc (own := [("own", 1), ("_", 2)]) rfl Sc.nd (vi_seq (vv 0)) (blkOk_by (by rfl)) (fun _ _ _ _ _ => (vg_tup (n := 2) rfl (vgs_cons (vg_name (i := 1) Sc.nd) (vgs_cons (vg_name (i := 2) Sc.nd) vgs_nil)))) (fun _ _ _ _ _ => vts_nil) (fun _ _ _ _ _ => (v_ix (vv 1) v_neg)))) va_nil)) v_int)))), ?_⟩
  rintro ⟨m, r, d⟩ _ Q ⟨rfl, hd, hs, ht, hm⟩ q
  dsimp only at hd hs ht hm q ⊢
  simp only [wSeq, wNext, wSet, wRet, wDrop, wIfS, wIf, wVar, wC, wNil, wCons, wOp, wTest, wAnd, wOr, wNot, wAndV, wOrV, wNotV, wChain, wTup, wLst, wLstO, wCall, wCallU, wCallX, wCB, wIsi, oI, oI0, oB0, oEqS, oNeS, oIsB, oIsN, oCat, oCatT, oRep, oRepO, oRepT, oLen, oInt1, oAll, oAny, oTuple, oList, oListO, oIx, oIn, oInT, oEqT, oNeNil, oMaxL, oMinL, oMaxT, oMinT, oSortT, oSortI, oDictT, oTupleF, wMt, oApp, oExt, oPop, oPopAt, wFrom, wTo, wTupRg, wLstRg, wSortSetI, wSortSetP, wTGet, wTGetD, wTIn, wDGet, wDNot, wDPut, wDict1, wDictO, wSetIx, wOrL, wWeak, wPar2, wPar3, wRaise, wNever, gN, gT, gsCons, gsNil, wZip, wEnum, wSeqI, wRng1, wRng2, wCb, asV, asVs, asBl, asInt, as1, as2, as3, asSeq, asU, asM0, asO, asD, asDt, asLst, asNil, asNon, asSc, asZip, contL, contS, contT, contP, retD, endV, endU, endX, allV, slots0, scEq, isN, List.map_cons, List.map_nil, Option.map_some, List.getElem?_cons_zero, List.getElem?_cons_succ, List.length_cons, List.length_nil, List.cons_append, List.nil_append, List.set_cons_zero, List.set_cons_succ, Nat.zero_add, Nat.reduceAdd, Nat.reduceSub, List.replicate_succ, List.replicate_zero, Nat.reduceLeDiff, if_pos, if_true, if_false, Bool.false_eq_true, Nat.le_refl, ite_true, ite_false, true_and, and_true, Nat.sub_self, List.replicate, List.length_map]
  have key : ∀ enc : List Int × List Int → Dt, (∀ x ∈ r, (enc x = prT x ∨ enc x = prL x)) → (∀ Q' : List Dt → Me → Prop, Q' (r.map enc) [] → wSeqI (wVar 0) [some (.v d), none, none] [] Q') → ∀ (Q1 : Rs → Me → Prop), Q1 (.v (.lst (r.map fun x => Dt.int (x.1.getLastD 0)))) [] →
      wLc [1, 2] (wSeqI (wVar 0)) (gT 2 (gsCons (gN 1) (gsCons (gN 2) gsNil))) wYes (wOp oIx (wVar 1) (wC (.int (-1)))) [some (.v d), none, none] [] Q1 := by
    intro enc henc hi Q1 q1
    refine lcM (xs := r) enc (fun x => Dt.int (x.1.getLastD 0)) hi (by have := hs.len; omega) (fun x hx A h => ?_) q1
    have hne := ht.ne x hx
    have hl : atI (x.1.map Dt.int) (-1) = some (.int (x.1.getLastD 0)) := by
      rw [at_last (by simpa using hne), List.getLast_map]
      congr 2
      rw [List.getLastD_eq_getLast?, List.getLast?_eq_some_getLast hne]
      rfl
    rcases henc x hx with e | e
    · rw [e]
      simp only [wSeq, wNext, wSet, wRet, wDrop, wIfS, wIf, wVar, wC, wNil, wCons, wOp, wTest, wAnd, wOr, wNot, wAndV, wOrV, wNotV, wChain, wTup, wLst, wLstO, wCall, wCallU, wCallX, wCB, wIsi, oI, oI0, oB0, oEqS, oNeS, oIsB, oIsN, oCat, oCatT, oRep, oRepO, oRepT, oLen, oInt1, oAll, oAny, oTuple, oList, oListO, oIx, oIn, oInT, oEqT, oNeNil, oMaxL, oMinL, oMaxT, oMinT, oSortT, oSortI, oDictT, oTupleF, wMt, oApp, oExt, oPop, oPopAt, wFrom, wTo, wTupRg, wLstRg, wSortSetI, wSortSetP, wTGet, wTGetD, wTIn, wDGet, wDNot, wDPut, wDict1, wDictO, wSetIx, wOrL, wWeak, wPar2, wPar3, wRaise, wNever, gN, gT, gsCons, gsNil, wZip, wEnum, wSeqI, wRng1, wRng2, wCb, asV, asVs, asBl, asInt, as1, as2, as3, asSeq, asU, asM0, asO, asD, asDt, asLst, asNil, asNon, asSc, asZip, contL, contS, contT, contP, retD, endV, endU, endX, allV, slots0, scEq, isN, List.map_cons, List.map_nil, Option.map_some, List.getElem?_cons_zero, List.getElem?_cons_succ, List.length_cons, List.length_nil, List.cons_append, List.nil_append, List.set_cons_zero, List.set_cons_succ, Nat.zero_add, Nat.reduceAdd, Nat.reduceSub, List.replicate_succ, List.replicate_zero, Nat.reduceLeDiff, if_pos, if_true, if_false, Bool.false_eq_true, Nat.le_refl, ite_true, ite_false, true_and, and_true, Nat.sub_self, List.replicate, List.length_map, wipeD, prT]
      exact ⟨_, hl, h⟩
    · rw [e]
      simp only [wSeq, wNext, wSet, wRet, wDrop, wIfS, wIf, wVar, wC, wNil, wCons, wOp, wTest, wAnd, wOr, wNot, wAndV, wOrV, wNotV, wChain, wTup, wLst, wLstO, wCall, wCallU, wCallX, wCB, wIsi, oI, oI0, oB0, oEqS, oNeS, oIsB, oIsN, oCat, oCatT, oRep, oRepO, oRepT, oLen, oInt1, oAll, oAny, oTuple, oList, oListO, oIx, oIn, oInT, oEqT, oNeNil, oMaxL, oMinL, oMaxT, oMinT, oSortT, oSortI, oDictT, oTupleF, wMt, oApp, oExt, oPop, oPopAt, wFrom, wTo, wTupRg, wLstRg, wSortSetI, wSortSetP, wTGet, wTGetD, wTIn, wDGet, wDNot, wDPut, wDict1, wDictO, wSetIx, wOrL, wWeak, wPar2, wPar3, wRaise, wNever, gN, gT, gsCons, gsNil, wZip, wEnum, wSeqI, wRng1, wRng2, wCb, asV, asVs, asBl, asInt, as1, as2, as3, asSeq, asU, asM0, asO, asD, asDt, asLst, asNil, asNon, asSc, asZip, contL, contS, contT, contP, retD, endV, endU, endX, allV, slots0, scEq, isN, List.map_cons, List.map_nil, Option.map_some, List.getElem?_cons_zero, List.getElem?_cons_succ, List.length_cons, List.length_nil, List.cons_append, List.nil_append, List.set_cons_zero, List.set_cons_succ, Nat.zero_add, Nat.reduceAdd, Nat.reduceSub, List.replicate_succ, List.replicate_zero, Nat.reduceLeDiff, if_pos, if_true, if_false, Bool.false_eq_true, Nat.le_refl, ite_true, ite_false, true_and, and_true, Nat.sub_self, List.replicate, List.length_map, wipeD, prL]
      exact ⟨_, hl, h⟩
  have fin : ∀ m' : Int, m' ∈ ((0 : Int) :: r.map fun x => x.1.getLastD 0) → (∀ y ∈ ((0 : Int) :: r.map fun x => x.1.getLastD 0), y ≤ m') → m' = (m : Int) - 1 := by
    intro m' h1 h2
    obtain ⟨x, hx, hne, e⟩ := ht.ge
    have hp := ht.pos
    have gl : ∀ x ∈ r, ∃ h : x.1 ≠ [], x.1.getLastD 0 = x.1.getLast h := fun x hx => ⟨ht.ne x hx, by rw [List.getLastD_eq_getLast?, List.getLast?_eq_some_getLast (ht.ne x hx)]; rfl⟩
    have h3 := h2 (x.1.getLastD 0) (List.mem_cons_of_mem _ (List.mem_map.mpr ⟨x, hx, rfl⟩))
    obtain ⟨h4, h5⟩ := gl x hx
    rcases List.mem_cons.mp h1 with rfl | h1
    · omega
    · obtain ⟨y, hy, rfl⟩ := List.mem_map.mp h1
      obtain ⟨h6, h7⟩ := gl y hy
      have h8 := ht.le y hy h6
      omega
  have rest : ∀ (dl : List Dt), dl = [Dt.int 0] ++ r.map (fun x => Dt.int (x.1.getLastD 0)) → ∃ ns : List Int, dl = ns.map .int ∧ 0 < ns.length ∧ ∀ m' : Int, m' ∈ ns → (∀ y ∈ ns, y ≤ m') → (0 ≤ m' + 1 ∧ m' + 1 ≤ 1000) ∧ Q (.tup (rgD 0 (m' + 1).toNat)) := by
    intro dl e
    refine ⟨(0 : Int) :: r.map fun x => x.1.getLastD 0, by rw [e, List.map_cons, List.map_map]; rfl, by simp, fun m' h1 h2 => ?_⟩
    have e2 := fin m' h1 h2
    have hp := ht.pos
    refine ⟨by omega, ?_⟩
    have e3 : (m' + 1).toNat = m := by omega
    rw [e3, rgD_rg]
    exact q
  rcases hd with rfl | rfl
  · refine key prT (fun x _ => .inl rfl) (fun Q' q' => q') _ ?_
    simp only [wSeq, wNext, wSet, wRet, wDrop, wIfS, wIf, wVar, wC, wNil, wCons, wOp, wTest, wAnd, wOr, wNot, wAndV, wOrV, wNotV, wChain, wTup, wLst, wLstO, wCall, wCallU, wCallX, wCB, wIsi, oI, oI0, oB0, oEqS, oNeS, oIsB, oIsN, oCat, oCatT, oRep, oRepO, oRepT, oLen, oInt1, oAll, oAny, oTuple, oList, oListO, oIx, oIn, oInT, oEqT, oNeNil, oMaxL, oMinL, oMaxT, oMinT, oSortT, oSortI, oDictT, oTupleF, wMt, oApp, oExt, oPop, oPopAt, wFrom, wTo, wTupRg, wLstRg, wSortSetI, wSortSetP, wTGet, wTGetD, wTIn, wDGet, wDNot, wDPut, wDict1, wDictO, wSetIx, wOrL, wWeak, wPar2, wPar3, wRaise, wNever, gN, gT, gsCons, gsNil, wZip, wEnum, wSeqI, wRng1, wRng2, wCb, asV, asVs, asBl, asInt, as1, as2, as3, asSeq, asU, asM0, asO, asD, asDt, asLst, asNil, asNon, asSc, asZip, contL, contS, contT, contP, retD, endV, endU, endX, allV, slots0, scEq, isN, List.map_cons, List.map_nil, Option.map_some, List.getElem?_cons_zero, List.getElem?_cons_succ, List.length_cons, List.length_nil, List.cons_append, List.nil_append, List.set_cons_zero, List.set_cons_succ, Nat.zero_add, Nat.reduceAdd, Nat.reduceSub, List.replicate_succ, List.replicate_zero, Nat.reduceLeDiff, if_pos, if_true, if_false, Bool.false_eq_true, Nat.le_refl, ite_true, ite_false, true_and, and_true, Nat.sub_self, List.replicate, List.length_map]
    exact ⟨by have := hs.len; omega, rest _ rfl⟩
  · refine key prL (fun x _ => .inr rfl) (fun Q' q' => q') _ ?_
    simp only [wSeq, wNext, wSet, wRet, wDrop, wIfS, wIf, wVar, wC, wNil, wCons, wOp, wTest, wAnd, wOr, wNot, wAndV, wOrV, wNotV, wChain, wTup, wLst, wLstO, wCall, wCallU, wCallX, wCB, wIsi, oI, oI0, oB0, oEqS, oNeS, oIsB, oIsN, oCat, oCatT, oRep, oRepO, oRepT, oLen, oInt1, oAll, oAny, oTuple, oList, oListO, oIx, oIn, oInT, oEqT, oNeNil, oMaxL, oMinL, oMaxT, oMinT, oSortT, oSortI, oDictT, oTupleF, wMt, oApp, oExt, oPop, oPopAt, wFrom, wTo, wTupRg, wLstRg, wSortSetI, wSortSetP, wTGet, wTGetD, wTIn, wDGet, wDNot, wDPut, wDict1, wDictO, wSetIx, wOrL, wWeak, wPar2, wPar3, wRaise, wNever, gN, gT, gsCons, gsNil, wZip, wEnum, wSeqI, wRng1, wRng2, wCb, asV, asVs, asBl, asInt, as1, as2, as3, asSeq, asU, asM0, asO, asD, asDt, asLst, asNil, asNon, asSc, asZip, contL, contS, contT, contP, retD, endV, endU, endX, allV, slots0, scEq, isN, List.map_cons, List.map_nil, Option.map_some, List.getElem?_cons_zero, List.getElem?_cons_succ, List.length_cons, List.length_nil, List.cons_append, List.nil_append, List.set_cons_zero, List.set_cons_succ, Nat.zero_add, Nat.reduceAdd, Nat.reduceSub, List.replicate_succ, List.replicate_zero, Nat.reduceLeDiff, if_pos, if_true, if_false, Bool.false_eq_true, Nat.le_refl, ite_true, ite_false, true_and, and_true, Nat.sub_self, List.replicate, List.length_map]
    exact ⟨by have := hs.len; omega, rest _ rfl⟩
/-! sure_areas -/
abbrev spSure : Spec := fnS (fun (x : List Int × List Int) ds => ds = [tI x.1, tI x.2] ∧ (∀ a ∈ x.2, a ∈ x.1)) fun _ => .non
theorem ok_sure (D : Df K mg "sure_areas" s_sure ["lot", "areas"]) (B : Bs mg) : Cl P w K mg base CX0 1 "sure_areas" ["lot", "areas"] (spV spSure) := by
  refine v_def D sc_sure (fun y ds h => by rw [h.1]; rfl) fun fa cdv A outer s H E hr => ?_
  have Sc := sc_sure

  refine ⟨_, (vs_one (v_for rfl (vi_seq (vv 1)) (vg_name (i := 2) Sc.nd) (vs_one (v_ifS (vt_cmp vo_notIn (vv 2) (vv 0) (by rfl)) (vs_one v_never) vs_nil)) PassesOwn.never)), ?_⟩
  rintro ⟨ns, as⟩ _ Q ⟨rfl, hm⟩ q
  dsimp only at hm q ⊢
  refine for_i (xs := as) Dt.int (fun i δ M => M = [] ∧ ∃ y, δ = [some (.v (tI ns)), some (.v (tI as)), y]) (fun Q' q' => q') ⟨rfl, _, rfl⟩ (fun i a δ M e hp => ?_) (fun δ M hp => q)
  obtain ⟨rfl, y, rfl⟩ := hp
  have ha := hm a (List.mem_of_getElem? e)
  simp only [wSeq, wNext, wSet, wRet, wDrop, wIfS, wIf, wVar, wC, wNil, wCons, wOp, wTest, wAnd, wOr, wNot, wAndV, wOrV, wNotV, wChain, wTup, wLst, wLstO, wCall, wCallU, wCallX, wCB, wIsi, oI, oI0, oB0, oEqS, oNeS, oIsB, oIsN, oCat, oCatT, oRep, oRepO, oRepT, oLen, oInt1, oAll, oAny, oTuple, oList, oListO, oIx, oIn, oInT, oEqT, oNeNil, oMaxL, oMinL, oMaxT, oMinT, oSortT, oSortI, oDictT, oTupleF, wMt, oApp, oExt, oPop, oPopAt, wFrom, wTo, wTupRg, wLstRg, wSortSetI, wSortSetP, wTGet, wTGetD, wTIn, wDGet, wDNot, wDPut, wDict1, wDictO, wSetIx, wOrL, wWeak, wPar2, wPar3, wRaise, wNever, gN, gT, gsCons, gsNil, wZip, wEnum, wSeqI, wRng1, wRng2, wCb, asV, asVs, asBl, asInt, as1, as2, as3, asSeq, asU, asM0, asO, asD, asDt, asLst, asNil, asNon, asSc, asZip, contL, contS, contT, contP, retD, endV, endU, endX, allV, slots0, scEq, isN, List.map_cons, List.map_nil, Option.map_some, List.getElem?_cons_zero, List.getElem?_cons_succ, List.length_cons, List.length_nil, List.cons_append, List.nil_append, List.set_cons_zero, List.set_cons_succ, Nat.zero_add, Nat.reduceAdd, Nat.reduceSub, List.replicate_succ, List.replicate_zero, Nat.reduceLeDiff, if_pos, if_true, if_false, Bool.false_eq_true, Nat.le_refl, ite_true, ite_false, true_and, and_true, Nat.sub_self, List.replicate, List.length_map]
  exact ⟨ns, rfl, by rw [decide_eq_true ha]; exact (if_neg (by simp)).mpr ⟨_, rfl⟩⟩
/-! turned -/
abbrev Prs := List (Int × Int)
def swp (x : Int × Int) : Int × Int := (x.2, x.1)
abbrev spTurned : Spec := fnS (fun (x : Prs × Dt) ds => ds = [x.2] ∧ (x.2 = .tup (x.1.map pI) ∨ x.2 = .lst (x.1.map pI)) ∧ x.1.length ≤ 1000) fun x => .lst ((x.1.map swp).map pI)
theorem ok_turned (D : Df K mg "turned" s_turned ["pairs"]) (B : Bs mg) : Cl P w K mg base CX0 1 "turned" ["pairs"] (spV spTurned) := by
  refine v_def D sc_turned (fun y ds h => by rw [h.1]; rfl) fun fa cdv A outer s H E hr => ?_
  have Sc := sc_turned

  refine ⟨_, (vs_one (v_ret (v_lc (own := [("one", 1), ("other", 2)]) rfl Sc.nd (vi_seq (vv 0)) (blkOk_by (by rfl)) (fun _ _ _ _ _ => (vg_tup (n := 2) rfl (vgs_cons (vg_name (i := 1) Sc.nd) (vgs_cons (vg_name (i := 2) Sc.nd) vgs_nil)))) (fun _ _ _ _ _ => vts_nil) (fun _ _ _ _ _ => (v_tup (va_cons (vv 2) (va_cons (vv 1) va_nil))))))), ?_⟩
  rintro ⟨ps, d⟩ _ Q ⟨rfl, hd, hz⟩ q
  dsimp only at hd hz q ⊢
  simp only [wSeq, wNext, wSet, wRet, wDrop, wIfS, wIf, wVar, wC, wNil, wCons, wOp, wTest, wAnd, wOr, wNot, wAndV, wOrV, wNotV, wChain, wTup, wLst, wLstO, wCall, wCallU, wCallX, wCB, wIsi, oI, oI0, oB0, oEqS, oNeS, oIsB, oIsN, oCat, oCatT, oRep, oRepO, oRepT, oLen, oInt1, oAll, oAny, oTuple, oList, oListO, oIx, oIn, oInT, oEqT, oNeNil, oMaxL, oMinL, oMaxT, oMinT, oSortT, oSortI, oDictT, oTupleF, wMt, oApp, oExt, oPop, oPopAt, wFrom, wTo, wTupRg, wLstRg, wSortSetI, wSortSetP, wTGet, wTGetD, wTIn, wDGet, wDNot, wDPut, wDict1, wDictO, wSetIx, wOrL, wWeak, wPar2, wPar3, wRaise, wNever, gN, gT, gsCons, gsNil, wZip, wEnum, wSeqI, wRng1, wRng2, wCb, asV, asVs, asBl, asInt, as1, as2, as3, asSeq, asU, asM0, asO, asD, asDt, asLst, asNil, asNon, asSc, asZip, contL, contS, contT, contP, retD, endV, endU, endX, allV, slots0, scEq, isN, List.map_cons, List.map_nil, Option.map_some, List.getElem?_cons_zero, List.getElem?_cons_succ, List.length_cons, List.length_nil, List.cons_append, List.nil_append, List.set_cons_zero, List.set_cons_succ, Nat.zero_add, Nat.reduceAdd, Nat.reduceSub, List.replicate_succ, List.replicate_zero, Nat.reduceLeDiff, if_pos, if_true, if_false, Bool.false_eq_true, Nat.le_refl, ite_true, ite_false, true_and, and_true, Nat.sub_self, List.replicate, List.length_map]
  refine lcM (xs := ps) pI (fun x => pI (swp x)) (fun Q' q' => by rcases hd with rfl | rfl <;> exact q') hz (fun x hx A h => ?_) (by rw [List.map_map] at q; exact q)
  simp only [wSeq, wNext, wSet, wRet, wDrop, wIfS, wIf, wVar, wC, wNil, wCons, wOp, wTest, wAnd, wOr, wNot, wAndV, wOrV, wNotV, wChain, wTup, wLst, wLstO, wCall, wCallU, wCallX, wCB, wIsi, oI, oI0, oB0, oEqS, oNeS, oIsB, oIsN, oCat, oCatT, oRep, oRepO, oRepT, oLen, oInt1, oAll, oAny, oTuple, oList, oListO, oIx, oIn, oInT, oEqT, oNeNil, oMaxL, oMinL, oMaxT, oMinT, oSortT, oSortI, oDictT, oTupleF, wMt, oApp, oExt, oPop, oPopAt, wFrom, wTo, wTupRg, wLstRg, wSortSetI, wSortSetP, wTGet, wTGetD, wTIn, wDGet, wDNot, wDPut, wDict1, wDictO, wSetIx, wOrL, wWeak, wPar2, wPar3, wRaise, wNever, gN, gT, gsCons, gsNil, wZip, wEnum, wSeqI, wRng1, wRng2, wCb, asV, asVs, asBl, asInt, as1, as2, as3, asSeq, asU, asM0, asO, asD, asDt, asLst, asNil, asNon, asSc, asZip, contL, contS, contT, contP, retD, endV, endU, endX, allV, slots0, scEq, isN, List.map_cons, List.map_nil, Option.map_some, List.getElem?_cons_zero, List.getElem?_cons_succ, List.length_cons, List.length_nil, List.cons_append, List.nil_append, List.set_cons_zero, List.set_cons_succ, Nat.zero_add, Nat.reduceAdd, Nat.reduceSub, List.replicate_succ, List.replicate_zero, Nat.reduceLeDiff, if_pos, if_true, if_false, Bool.false_eq_true, Nat.le_refl, ite_true, ite_false, true_and, and_true, Nat.sub_self, List.replicate, List.length_map, wipeD]
  exact h

/-! leads_in -/
def foundM (rows : Rl) : Prs := rows.flatMap fun x => x.2.flatMap fun other => (x.1.filter fun one => !decide (one = other)).map fun one => (one, other)
theorem found_len {rows : Rl} (h : ∀ x ∈ rows, x.1.length ≤ 6 ∧ x.2.length ≤ 3) : (foundM rows).length ≤ 18 * rows.length := by
  unfold foundM
  induction rows with
  | nil => simp
  | cons x rows ih =>
    rw [List.flatMap_cons, List.length_append, List.length_cons]
    have h1 := ih fun y hy => h y (List.mem_cons_of_mem _ hy)
    obtain ⟨h2, h3⟩ := h x List.mem_cons_self
    have h4 : ∀ ps : List Int, (ps.flatMap fun other => (x.1.filter fun one => !decide (one = other)).map fun one => (one, other)).length ≤ 6 * ps.length := by
      intro ps
      induction ps with
      | nil => simp
      | cons o ps ih2 =>
        rw [List.flatMap_cons, List.length_append, List.length_map, List.length_cons]
        have h5 := List.length_filter_le (fun one => !decide (one = o)) x.1
        omega
    have h5 := h4 x.2
    omega
theorem mem_found {rows : Rl} {p : Int × Int} : p ∈ foundM rows ↔ ∃ x ∈ rows, p.1 ∈ x.1 ∧ p.2 ∈ x.2 ∧ p.1 ≠ p.2 := by
  unfold foundM
  rw [List.mem_flatMap]
  constructor
  · rintro ⟨x, hx, hp⟩
    obtain ⟨o, ho, hp⟩ := List.mem_flatMap.mp hp
    obtain ⟨n, hn, rfl⟩ := List.mem_map.mp hp
    obtain ⟨h1, h2⟩ := List.mem_filter.mp hn
    exact ⟨x, hx, h1, ho, by simpa using h2⟩
  · rintro ⟨x, hx, h1, h2, h3⟩
    exact ⟨x, hx, List.mem_flatMap.mpr ⟨p.2, h2, List.mem_map.mpr ⟨p.1, List.mem_filter.mpr ⟨h1, by simpa using h3⟩, rfl⟩⟩⟩
theorem sorted_uniq {α : Type} {R : α → α → Prop} (as : ∀ a b, R a b → R b a → False) : ∀ {l₁ l₂ : List α}, l₁.Pairwise R → l₂.Pairwise R → (∀ x, x ∈ l₁ ↔ x ∈ l₂) → l₁ = l₂
  | [], [], _, _, _ => rfl
  | [], b :: l₂, _, _, h => absurd ((h b).mpr List.mem_cons_self) (by simp)
  | a :: l₁, [], _, _, h => absurd ((h a).mp List.mem_cons_self) (by simp)
  | a :: l₁, b :: l₂, h1, h2, h => by
    obtain ⟨h1a, h1b⟩ := List.pairwise_cons.mp h1
    obtain ⟨h2a, h2b⟩ := List.pairwise_cons.mp h2
    have e : a = b := by
      rcases List.mem_cons.mp ((h a).mp List.mem_cons_self) with e | h3
      · exact e
      · rcases List.mem_cons.mp ((h b).mpr List.mem_cons_self) with e | h4
        · exact e.symm
        · exact (as _ _ (h1a b h4) (h2a a h3)).elim
    subst e
    rw [sorted_uniq as h1b h2b fun x => ⟨fun hx => ?_, fun hx => ?_⟩]
    · rcases List.mem_cons.mp ((h x).mp (List.mem_cons_of_mem _ hx)) with e | h3
      · subst e
        exact (as _ _ (h1a x hx) (h1a x hx)).elim
      · exact h3
    · rcases List.mem_cons.mp ((h x).mpr (List.mem_cons_of_mem _ hx)) with e | h3
      · subst e
        exact (as _ _ (h2a x hx) (h2a x hx)).elim
      · exact h3
instance (p q : Int × Int) : Decidable (pLt p q) := by unfold pLt; exact inferInstance
theorem pLt_as (a b : Int × Int) (h : pLt a b) (h' : pLt b a) : False := by unfold pLt at h h'; omega
def pairs7 : Prs := (rg 7).flatMap fun x => (rg 7).map fun y => (x, y)
theorem pairs7_sorted : pairs7.Pairwise pLt := by decide +kernel
theorem mem_rg {m : Nat} {a : Int} : a ∈ rg m ↔ 0 ≤ a ∧ a < m := by
  unfold rg
  rw [List.mem_map]
  constructor
  · rintro ⟨i, hi, rfl⟩
    have := List.mem_range.mp hi
    omega
  · intro h
    exact ⟨a.toNat, List.mem_range.mpr (by omega), by omega⟩
theorem mem_pairs7 {p : Int × Int} : p ∈ pairs7 ↔ pIn p := by
  unfold pairs7 pIn
  rw [List.mem_flatMap]
  constructor
  · rintro ⟨x, hx, hp⟩
    obtain ⟨y, hy, rfl⟩ := List.mem_map.mp hp
    have h1 := mem_rg.mp hx
    have h2 := mem_rg.mp hy
    exact ⟨h1, h2⟩
  · rintro ⟨h1, h2⟩
    exact ⟨p.1, mem_rg.mpr h1, List.mem_map.mpr ⟨p.2, mem_rg.mpr h2, rfl⟩⟩
def leadsM (r : Rl) (lot : List Int) : Prs := pairs7.filter fun p => decide (p ∈ foundM (rowsM r lot))
theorem leads_uniq {L ps : Prs} (hL : ∀ p ∈ L, pIn p) (h1 : ps.Pairwise pLt) (h2 : ∀ p, p ∈ ps ↔ p ∈ L) : ps = pairs7.filter fun p => decide (p ∈ L) := by
  refine sorted_uniq pLt_as h1 (pairs7_sorted.filter _) fun p => ?_
  rw [h2 p, List.mem_filter, decide_eq_true_iff]
  exact ⟨fun h => ⟨mem_pairs7.mpr (hL p h), h⟩, fun h => h.2⟩
theorem rows_small {r : Rl} {lot : List Int} (S : SmallR r) : SmallR (rowsM r lot) := by
  unfold rowsM
  refine ⟨Nat.le_trans (List.length_filter_le _ _) S.len, fun x hx => S.each x ((List.mem_filter.mp hx).1), fun x hx => S.ins x ((List.mem_filter.mp hx).1)⟩
theorem found_in {rows : Rl} (S : SmallR rows) : ∀ p ∈ foundM rows, pIn p := fun p hp => by
  obtain ⟨x, hx, h1, h2, _⟩ := mem_found.mp hp
  obtain ⟨a, b⟩ := S.ins x hx
  exact ⟨a _ h1, b _ h2⟩
abbrev spLeads : Spec := fnS (fun (x : Rl × List Int × Dt × Dt) ds => ds = [x.2.2.1, x.2.2.2] ∧ RuleD x.1 x.2.2.1 ∧ SmallR x.1 ∧ SeqD x.2.1 x.2.2.2) fun x => .tup ((leadsM x.1 x.2.1).map pI)
theorem foundM_snoc (l : Rl) (x : List Int × List Int) : foundM (l ++ [x]) = foundM l ++ foundM [x] := by unfold foundM; rw [List.flatMap_append]
def foundP (own : List Int) (ps : List Int) : Prs := ps.flatMap fun other => (own.filter fun one => !decide (one = other)).map fun one => (one, other)
theorem foundP_snoc (own l : List Int) (x : Int) : foundP own (l ++ [x]) = foundP own l ++ foundP own [x] := by unfold foundP; rw [List.flatMap_append]
theorem foundM_one (x : List Int × List Int) : foundM [x] = foundP x.1 x.2 := by unfold foundM foundP; simp
theorem ok_leads (D : Df K mg "leads_in" s_leads ["rule", "lot"]) (B : Bs mg) (C_rows_within : Cl P w K mg base CX0 5 "rows_within" ["rule", "lot"] (spV spRows)) : Cl P w K mg base CX0 6 "leads_in" ["rule", "lot"] (spV spLeads) := by
  refine v_def D sc_leads (fun y ds h => by rw [h.1]; rfl) fun fa cdv A outer s H E hr => ?_
  have Sc := sc_leads

  refine ⟨_, (vs_cons (v_set (i := 2) Sc.nd (v_lstO va_nil))
    (vs_cons (v_for rfl (vi_seq (v_c C_rows_within (hr.mono (by omega)) (va_cons (vv 0) (va_cons (vv 1) va_nil)))) (vg_tup (n := 2) rfl (vgs_cons (vg_name (i := 3) Sc.nd) (vgs_cons (vg_name (i := 4) Sc.nd) vgs_nil))) (vs_one (v_for rfl (vi_seq (vv 4)) (vg_name (i := 5) Sc.nd) (vs_one (v_expr (v_mt vm_extend PySem.F.plainAttrs_list PySem.F.slot_list_extend PySem.F.type_list_extend (vv 2) (va_cons (v_lc (own := [("one", 6)]) rfl Sc.nd (vi_seq (vv 3)) (blkOk_by (by rfl)) (fun _ _ _ _ _ => (vg_name (i := 6) Sc.nd)) (fun _ _ _ _ _ => (vts_one (vt_cmp vo_neS (vv 6) (vv 5) (by rfl)))) (fun _ _ _ _ _ => (v_tup (va_cons (vv 6) (va_cons (vv 5) va_nil))))) va_nil)))) PassesOwn.never)) PassesOwn.never)
    (vs_one (v_ret (v_ty vc_tuple B.tuple (va_cons (v_sortSetP rfl (hu64 hr) B.sorted B.set (vv 2)) va_nil)))))), ?_⟩
  rintro ⟨r, lot, d, l⟩ _ Q ⟨rfl, hd, hs, hl⟩ q
  dsimp only at hd hs hl q ⊢
  simp only [wSeq, wNext, wSet, wRet, wDrop, wIfS, wIf, wVar, wC, wNil, wCons, wOp, wTest, wAnd, wOr, wNot, wAndV, wOrV, wNotV, wChain, wTup, wLst, wLstO, wCall, wCallU, wCallX, wCB, wIsi, oI, oI0, oB0, oEqS, oNeS, oIsB, oIsN, oCat, oCatT, oRep, oRepO, oRepT, oLen, oInt1, oAll, oAny, oTuple, oList, oListO, oIx, oIn, oInT, oEqT, oNeNil, oMaxL, oMinL, oMaxT, oMinT, oSortT, oSortI, oDictT, oTupleF, wMt, oApp, oExt, oPop, oPopAt, wFrom, wTo, wTupRg, wLstRg, wSortSetI, wSortSetP, wTGet, wTGetD, wTIn, wDGet, wDNot, wDPut, wDict1, wDictO, wSetIx, wOrL, wWeak, wPar2, wPar3, wRaise, wNever, gN, gT, gsCons, gsNil, wZip, wEnum, wSeqI, wRng1, wRng2, wCb, asV, asVs, asBl, asInt, as1, as2, as3, asSeq, asU, asM0, asO, asD, asDt, asLst, asNil, asNon, asSc, asZip, contL, contS, contT, contP, retD, endV, endU, endX, allV, slots0, scEq, isN, List.map_cons, List.map_nil, Option.map_some, List.getElem?_cons_zero, List.getElem?_cons_succ, List.length_cons, List.length_nil, List.cons_append, List.nil_append, List.set_cons_zero, List.set_cons_succ, Nat.zero_add, Nat.reduceAdd, Nat.reduceSub, List.replicate_succ, List.replicate_zero, Nat.reduceLeDiff, if_pos, if_true, if_false, Bool.false_eq_true, Nat.le_refl, ite_true, ite_false, true_and, and_true, Nat.sub_self, List.replicate, List.length_map]
  have S2 := rows_small (lot := lot) hs
  refine for_i (xs := rowsM r lot) prT (fun i δ M => M = [.lst ((foundM ((rowsM r lot).take i)).map pI)] ∧ ∃ y3 y4 y5 y6, δ = [some (.v d), some (.v l), some (.o 0), y3, y4, y5, y6]) (fun Q' q' => ?_) ⟨rfl, _, _, _, _, rfl⟩ (fun i x δ M e hp => ?_) (fun δ M hp => ?_)
  · simp only [wSeq, wNext, wSet, wRet, wDrop, wIfS, wIf, wVar, wC, wNil, wCons, wOp, wTest, wAnd, wOr, wNot, wAndV, wOrV, wNotV, wChain, wTup, wLst, wLstO, wCall, wCallU, wCallX, wCB, wIsi, oI, oI0, oB0, oEqS, oNeS, oIsB, oIsN, oCat, oCatT, oRep, oRepO, oRepT, oLen, oInt1, oAll, oAny, oTuple, oList, oListO, oIx, oIn, oInT, oEqT, oNeNil, oMaxL, oMinL, oMaxT, oMinT, oSortT, oSortI, oDictT, oTupleF, wMt, oApp, oExt, oPop, oPopAt, wFrom, wTo, wTupRg, wLstRg, wSortSetI, wSortSetP, wTGet, wTGetD, wTIn, wDGet, wDNot, wDPut, wDict1, wDictO, wSetIx, wOrL, wWeak, wPar2, wPar3, wRaise, wNever, gN, gT, gsCons, gsNil, wZip, wEnum, wSeqI, wRng1, wRng2, wCb, asV, asVs, asBl, asInt, as1, as2, as3, asSeq, asU, asM0, asO, asD, asDt, asLst, asNil, asNon, asSc, asZip, contL, contS, contT, contP, retD, endV, endU, endX, allV, slots0, scEq, isN, List.map_cons, List.map_nil, Option.map_some, List.getElem?_cons_zero, List.getElem?_cons_succ, List.length_cons, List.length_nil, List.cons_append, List.nil_append, List.set_cons_zero, List.set_cons_succ, Nat.zero_add, Nat.reduceAdd, Nat.reduceSub, List.replicate_succ, List.replicate_zero, Nat.reduceLeDiff, if_pos, if_true, if_false, Bool.false_eq_true, Nat.le_refl, ite_true, ite_false, true_and, and_true, Nat.sub_self, List.replicate, List.length_map]
    exact ⟨(r, lot, d, l), ⟨rfl, hd, hs, hl⟩, q'⟩
  · obtain ⟨rfl, y3, y4, y5, y6, rfl⟩ := hp
    obtain ⟨b1, b2⟩ := S2.each x (List.mem_of_getElem? e)
    simp only [wSeq, wNext, wSet, wRet, wDrop, wIfS, wIf, wVar, wC, wNil, wCons, wOp, wTest, wAnd, wOr, wNot, wAndV, wOrV, wNotV, wChain, wTup, wLst, wLstO, wCall, wCallU, wCallX, wCB, wIsi, oI, oI0, oB0, oEqS, oNeS, oIsB, oIsN, oCat, oCatT, oRep, oRepO, oRepT, oLen, oInt1, oAll, oAny, oTuple, oList, oListO, oIx, oIn, oInT, oEqT, oNeNil, oMaxL, oMinL, oMaxT, oMinT, oSortT, oSortI, oDictT, oTupleF, wMt, oApp, oExt, oPop, oPopAt, wFrom, wTo, wTupRg, wLstRg, wSortSetI, wSortSetP, wTGet, wTGetD, wTIn, wDGet, wDNot, wDPut, wDict1, wDictO, wSetIx, wOrL, wWeak, wPar2, wPar3, wRaise, wNever, gN, gT, gsCons, gsNil, wZip, wEnum, wSeqI, wRng1, wRng2, wCb, asV, asVs, asBl, asInt, as1, as2, as3, asSeq, asU, asM0, asO, asD, asDt, asLst, asNil, asNon, asSc, asZip, contL, contS, contT, contP, retD, endV, endU, endX, allV, slots0, scEq, isN, List.map_cons, List.map_nil, Option.map_some, List.getElem?_cons_zero, List.getElem?_cons_succ, List.length_cons, List.length_nil, List.cons_append, List.nil_append, List.set_cons_zero, List.set_cons_succ, Nat.zero_add, Nat.reduceAdd, Nat.reduceSub, List.replicate_succ, List.replicate_zero, Nat.reduceLeDiff, if_pos, if_true, if_false, Bool.false_eq_true, Nat.le_refl, ite_true, ite_false, true_and, and_true, Nat.sub_self, List.replicate, List.length_map, prT]
    have ht : (rowsM r lot).take (i + 1) = (rowsM r lot).take i ++ [x] := by rw [List.take_succ, e]; rfl
    have hi : i < (rowsM r lot).length := (List.getElem?_eq_some_iff.mp e).1
    have hfl : (foundM ((rowsM r lot).take i)).length ≤ 18 * i := by
      have h1 := found_len (rows := (rowsM r lot).take i) fun y hy => S2.each y (List.mem_of_mem_take hy)
      have h2 := List.length_take_le i (rowsM r lot)
      omega
    have hS := S2.len
    refine for_i (xs := x.2) Dt.int (fun j δ M => M = [.lst ((foundM ((rowsM r lot).take i) ++ foundP x.1 (x.2.take j)).map pI)] ∧ ∃ y5 y6, δ = [some (.v d), some (.v l), some (.o 0), some (.v (tI x.1)), some (.v (tI x.2)), y5, y6]) (fun Q' q' => q') ⟨by simp [foundP], _, _, rfl⟩ (fun j o δ M e2 hp => ?_) (fun δ M hp => ?_)
    · obtain ⟨rfl, y5, y6, rfl⟩ := hp
      simp only [wSeq, wNext, wSet, wRet, wDrop, wIfS, wIf, wVar, wC, wNil, wCons, wOp, wTest, wAnd, wOr, wNot, wAndV, wOrV, wNotV, wChain, wTup, wLst, wLstO, wCall, wCallU, wCallX, wCB, wIsi, oI, oI0, oB0, oEqS, oNeS, oIsB, oIsN, oCat, oCatT, oRep, oRepO, oRepT, oLen, oInt1, oAll, oAny, oTuple, oList, oListO, oIx, oIn, oInT, oEqT, oNeNil, oMaxL, oMinL, oMaxT, oMinT, oSortT, oSortI, oDictT, oTupleF, wMt, oApp, oExt, oPop, oPopAt, wFrom, wTo, wTupRg, wLstRg, wSortSetI, wSortSetP, wTGet, wTGetD, wTIn, wDGet, wDNot, wDPut, wDict1, wDictO, wSetIx, wOrL, wWeak, wPar2, wPar3, wRaise, wNever, gN, gT, gsCons, gsNil, wZip, wEnum, wSeqI, wRng1, wRng2, wCb, asV, asVs, asBl, asInt, as1, as2, as3, asSeq, asU, asM0, asO, asD, asDt, asLst, asNil, asNon, asSc, asZip, contL, contS, contT, contP, retD, endV, endU, endX, allV, slots0, scEq, isN, List.map_cons, List.map_nil, Option.map_some, List.getElem?_cons_zero, List.getElem?_cons_succ, List.length_cons, List.length_nil, List.cons_append, List.nil_append, List.set_cons_zero, List.set_cons_succ, Nat.zero_add, Nat.reduceAdd, Nat.reduceSub, List.replicate_succ, List.replicate_zero, Nat.reduceLeDiff, if_pos, if_true, if_false, Bool.false_eq_true, Nat.le_refl, ite_true, ite_false, true_and, and_true, Nat.sub_self, List.replicate, List.length_map]
      refine lcF (xs := x.1) Dt.int (fun one => !decide (one = o)) (fun one => pI (one, o)) (fun Q' q' => q') (by omega) (fun n hn A B h1 h2 => ?_) ?_
      · simp only [wSeq, wNext, wSet, wRet, wDrop, wIfS, wIf, wVar, wC, wNil, wCons, wOp, wTest, wAnd, wOr, wNot, wAndV, wOrV, wNotV, wChain, wTup, wLst, wLstO, wCall, wCallU, wCallX, wCB, wIsi, oI, oI0, oB0, oEqS, oNeS, oIsB, oIsN, oCat, oCatT, oRep, oRepO, oRepT, oLen, oInt1, oAll, oAny, oTuple, oList, oListO, oIx, oIn, oInT, oEqT, oNeNil, oMaxL, oMinL, oMaxT, oMinT, oSortT, oSortI, oDictT, oTupleF, wMt, oApp, oExt, oPop, oPopAt, wFrom, wTo, wTupRg, wLstRg, wSortSetI, wSortSetP, wTGet, wTGetD, wTIn, wDGet, wDNot, wDPut, wDict1, wDictO, wSetIx, wOrL, wWeak, wPar2, wPar3, wRaise, wNever, gN, gT, gsCons, gsNil, wZip, wEnum, wSeqI, wRng1, wRng2, wCb, asV, asVs, asBl, asInt, as1, as2, as3, asSeq, asU, asM0, asO, asD, asDt, asLst, asNil, asNon, asSc, asZip, contL, contS, contT, contP, retD, endV, endU, endX, allV, slots0, scEq, isN, List.map_cons, List.map_nil, Option.map_some, List.getElem?_cons_zero, List.getElem?_cons_succ, List.length_cons, List.length_nil, List.cons_append, List.nil_append, List.set_cons_zero, List.set_cons_succ, Nat.zero_add, Nat.reduceAdd, Nat.reduceSub, List.replicate_succ, List.replicate_zero, Nat.reduceLeDiff, if_pos, if_true, if_false, Bool.false_eq_true, Nat.le_refl, ite_true, ite_false, true_and, and_true, Nat.sub_self, List.replicate, List.length_map, wipeD]
        cases hb : decide (n = o) with
        | true => exact (if_neg (by simp)).mpr (h2 (by rw [hb]; rfl))
        | false => exact (if_pos rfl).mpr (h1 (by rw [hb]; rfl))
      · simp only [wSeq, wNext, wSet, wRet, wDrop, wIfS, wIf, wVar, wC, wNil, wCons, wOp, wTest, wAnd, wOr, wNot, wAndV, wOrV, wNotV, wChain, wTup, wLst, wLstO, wCall, wCallU, wCallX, wCB, wIsi, oI, oI0, oB0, oEqS, oNeS, oIsB, oIsN, oCat, oCatT, oRep, oRepO, oRepT, oLen, oInt1, oAll, oAny, oTuple, oList, oListO, oIx, oIn, oInT, oEqT, oNeNil, oMaxL, oMinL, oMaxT, oMinT, oSortT, oSortI, oDictT, oTupleF, wMt, oApp, oExt, oPop, oPopAt, wFrom, wTo, wTupRg, wLstRg, wSortSetI, wSortSetP, wTGet, wTGetD, wTIn, wDGet, wDNot, wDPut, wDict1, wDictO, wSetIx, wOrL, wWeak, wPar2, wPar3, wRaise, wNever, gN, gT, gsCons, gsNil, wZip, wEnum, wSeqI, wRng1, wRng2, wCb, asV, asVs, asBl, asInt, as1, as2, as3, asSeq, asU, asM0, asO, asD, asDt, asLst, asNil, asNon, asSc, asZip, contL, contS, contT, contP, retD, endV, endU, endX, allV, slots0, scEq, isN, List.map_cons, List.map_nil, Option.map_some, List.getElem?_cons_zero, List.getElem?_cons_succ, List.length_cons, List.length_nil, List.cons_append, List.nil_append, List.set_cons_zero, List.set_cons_succ, Nat.zero_add, Nat.reduceAdd, Nat.reduceSub, List.replicate_succ, List.replicate_zero, Nat.reduceLeDiff, if_pos, if_true, if_false, Bool.false_eq_true, Nat.le_refl, ite_true, ite_false, true_and, and_true, Nat.sub_self, List.replicate, List.length_map]
        have hj : j < x.2.length := (List.getElem?_eq_some_iff.mp e2).1
        have hP : (foundP x.1 (x.2.take j)).length ≤ 6 * j := by
          have h4 : ∀ ps : List Int, (foundP x.1 ps).length ≤ 6 * ps.length := by
            intro ps
            unfold foundP
            induction ps with
            | nil => simp
            | cons o ps ih2 =>
              rw [List.flatMap_cons, List.length_append, List.length_map, List.length_cons]
              have h5 := List.length_filter_le (fun one => !decide (one = o)) x.1
              omega
          have h5 := h4 (x.2.take j)
          have h6 := List.length_take_le j x.2
          omega
        have h7 := List.length_filter_le (fun one => !decide (one = o)) x.1
        have ht2 : x.2.take (j + 1) = x.2.take j ++ [o] := by rw [List.take_succ, e2]; rfl
        refine ⟨by rw [List.length_append]; omega, ?_, _, _, rfl⟩
        rw [ht2, foundP_snoc]
        unfold foundP
        simp [List.map_append]
    · obtain ⟨rfl, y5, y6, rfl⟩ := hp
      refine ⟨?_, _, _, _, _, rfl⟩
      rw [ht, foundM_snoc, foundM_one, List.take_length]
  · obtain ⟨rfl, y3, y4, y5, y6, rfl⟩ := hp
    rw [List.take_length]
    simp only [wSeq, wNext, wSet, wRet, wDrop, wIfS, wIf, wVar, wC, wNil, wCons, wOp, wTest, wAnd, wOr, wNot, wAndV, wOrV, wNotV, wChain, wTup, wLst, wLstO, wCall, wCallU, wCallX, wCB, wIsi, oI, oI0, oB0, oEqS, oNeS, oIsB, oIsN, oCat, oCatT, oRep, oRepO, oRepT, oLen, oInt1, oAll, oAny, oTuple, oList, oListO, oIx, oIn, oInT, oEqT, oNeNil, oMaxL, oMinL, oMaxT, oMinT, oSortT, oSortI, oDictT, oTupleF, wMt, oApp, oExt, oPop, oPopAt, wFrom, wTo, wTupRg, wLstRg, wSortSetI, wSortSetP, wTGet, wTGetD, wTIn, wDGet, wDNot, wDPut, wDict1, wDictO, wSetIx, wOrL, wWeak, wPar2, wPar3, wRaise, wNever, gN, gT, gsCons, gsNil, wZip, wEnum, wSeqI, wRng1, wRng2, wCb, asV, asVs, asBl, asInt, as1, as2, as3, asSeq, asU, asM0, asO, asD, asDt, asLst, asNil, asNon, asSc, asZip, contL, contS, contT, contP, retD, endV, endU, endX, allV, slots0, scEq, isN, List.map_cons, List.map_nil, Option.map_some, List.getElem?_cons_zero, List.getElem?_cons_succ, List.length_cons, List.length_nil, List.cons_append, List.nil_append, List.set_cons_zero, List.set_cons_succ, Nat.zero_add, Nat.reduceAdd, Nat.reduceSub, List.replicate_succ, List.replicate_zero, Nat.reduceLeDiff, if_pos, if_true, if_false, Bool.false_eq_true, Nat.le_refl, ite_true, ite_false, true_and, and_true, Nat.sub_self, List.replicate, List.length_map]
    refine ⟨foundM (rowsM r lot), rfl, found_in S2, fun ps h1 h2 => ?_⟩
    rw [leads_uniq (found_in S2) h1 h2]
    exact q

end
end VL
set_option Elab.async false
set_option linter.all false
set_option maxRecDepth 100000
set_option maxHeartbeats 4000000
/-! VL20: floods, woven lots. -/
namespace VL
open PySem PySem.Spec PyProof.Rows L2
section
variable {P : Program} {w : World} {K : PySem.W.Frag} {mg : Str → Option Value} {base : Heap}
abbrev s_reached : Stmt := topS 21
theorem sc_reached : FnScope ["rule", "lot", "area"] ["rule", "lot", "area"] (defScope s_reached) := ⟨rfl, rfl, rfl, by decide +kernel, rfl, by decide +kernel, by decide +kernel⟩

abbrev s_joins : Stmt := topS 22
theorem sc_joins : FnScope ["pairs", "lot"] ["pairs", "lot"] (defScope s_joins) := ⟨rfl, rfl, rfl, by decide +kernel, rfl, by decide +kernel, by decide +kernel⟩

abbrev s_iswov : Stmt := topS 23
theorem sc_iswov : FnScope ["rule", "lot"] ["rule", "lot"] (defScope s_iswov) := ⟨rfl, rfl, rfl, by decide +kernel, rfl, by decide +kernel, by decide +kernel⟩

abbrev s_lots : Stmt := topS 13
theorem sc_lots : FnScope ["lot", "found", "many", "own"] ["lot"] (defScope s_lots) := ⟨rfl, rfl, rfl, by decide +kernel, rfl, by decide +kernel, by decide +kernel⟩

abbrev s_wlots : Stmt := topS 24
theorem sc_wlots : FnScope ["rule", "own"] ["rule"] (defScope s_wlots) := ⟨rfl, rfl, rfl, by decide +kernel, rfl, by decide +kernel, by decide +kernel⟩


/-! what can be reached -/
inductive Rch (ps : Prs) (a : Int) : Int → Prop
  | base : Rch ps a a
  | step {x y : Int} : Rch ps a x → (x, y) ∈ ps → Rch ps a y
theorem Rch.trans {ps : Prs} {a b c : Int} (h : Rch ps a b) (h' : Rch ps b c) : Rch ps a c := by
  induction h' with
  | base => exact h
  | step _ e ih => exact .step ih e
theorem Rch.inn {ps : Prs} {a b : Int} (hp : ∀ x ∈ ps, pIn x) (ha : 0 ≤ a ∧ a < 7) (h : Rch ps a b) : 0 ≤ b ∧ b < 7 := by
  cases h with
  | base => exact ha
  | step _ e => exact (hp _ e).2
open Classical in
noncomputable def rchL (ps : Prs) (a : Int) : List Int := (rg 7).filter fun b => decide (Rch ps a b)
theorem mem_rchL {ps : Prs} {a b : Int} (hp : ∀ x ∈ ps, pIn x) (ha : 0 ≤ a ∧ a < 7) : b ∈ rchL ps a ↔ Rch ps a b := by
  unfold rchL
  rw [List.mem_filter, mem_rg]
  simp only [decide_eq_true_eq]
  exact ⟨fun h => h.2, fun h => ⟨h.inn hp ha, h⟩⟩
theorem rg_sorted (m : Nat) : (rg m).Pairwise (· < ·) := by
  unfold rg
  refine List.pairwise_map.mpr (List.Pairwise.imp (fun h => ?_) List.pairwise_lt_range)
  omega
theorem int_as (a b : Int) (h : a < b) (h' : b < a) : False := by omega
theorem rchL_uniq {ps : Prs} {a : Int} {l : List Int} (hp : ∀ x ∈ ps, pIn x) (ha : 0 ≤ a ∧ a < 7) (h1 : l.Pairwise (· < ·)) (h2 : ∀ b, b ∈ l ↔ Rch ps a b) : l = rchL ps a :=
  sorted_uniq int_as h1 ((rg_sorted 7).filter _) fun b => by rw [h2 b]; exact (mem_rchL hp ha).symm
/-! flooded -/
structure Fl (ps : Prs) (a : Int) (found left : List Int) : Prop where
  nd : found.Nodup
  nl : left.Nodup
  ha : a ∈ found
  sub : ∀ x ∈ left, x ∈ found
  rch : ∀ x ∈ found, Rch ps a x
/-- all but what is left has its successors found, but for here: those of the first i pairs -/
def Clo (ps : Prs) (found left : List Int) : Prop := ∀ x ∈ found, x ∉ left → ∀ y, (x, y) ∈ ps → y ∈ found
theorem Fl.len {ps : Prs} {a : Int} {found left : List Int} (F : Fl ps a found left) (hp : ∀ x ∈ ps, pIn x) (ha : 0 ≤ a ∧ a < 7) : found.length ≤ 7 := by
  have h := List.Nodup.length_le_of_subset (l₂ := rg 7) F.nd fun x hx => mem_rg.mpr ((F.rch x hx).inn hp ha)
  simpa [rg] using h
theorem Fl.llen {ps : Prs} {a : Int} {found left : List Int} (F : Fl ps a found left) (hp : ∀ x ∈ ps, pIn x) (ha : 0 ≤ a ∧ a < 7) : left.length ≤ 7 :=
  Nat.le_trans (List.Nodup.length_le_of_subset F.nl fun x hx => F.sub x hx) (F.len hp ha)
abbrev spFlood : Spec := fnS (fun (x : Prs × Int × Dt) ds => ds = [x.2.2, .int x.2.1] ∧ (x.2.2 = .tup (x.1.map pI) ∨ x.2.2 = .lst (x.1.map pI)) ∧ x.1.length ≤ 1000 ∧ (∀ y ∈ x.1, pIn y) ∧ 0 ≤ x.2.1 ∧ x.2.1 < 7) fun x => tI (rchL x.1 x.2.1)
theorem ok_flood (D : Df K mg "flooded" s_flood ["pairs", "area"]) (B : Bs mg) : Cl P w K mg base CX0 1 "flooded" ["pairs", "area"] (spV spFlood) := by
  refine v_def D sc_flood (fun y ds h => by rw [h.1]; rfl) fun fa cdv A outer s H E hr => ?_
  have Sc := sc_flood

  refine ⟨_, (vs_cons (v_par2 (i := 2) (j := 3) rfl Sc.nd (va_cons (v_lstO (va_cons (vv 1) va_nil)) (va_cons (v_lstO (va_cons (vv 1) va_nil)) va_nil)))
    (vs_cons (v_while (vt_cmp vo_gt (v_b vc_len B.len (va_cons (vv 3) va_nil)) v_int (by rfl)) (vs_cons (v_set (i := 4) Sc.nd (v_mt0 vm_pop PySem.F.plainAttrs_list PySem.F.slot_list_pop PySem.F.type_list_pop (vv 3)))
    (vs_one (v_for rfl (vi_seq (vv 0)) (vg_tup (n := 2) rfl (vgs_cons (vg_name (i := 5) Sc.nd) (vgs_cons (vg_name (i := 6) Sc.nd) vgs_nil))) (vs_one (v_ifS (VW.vt (vw_and (vt_cmp vo_eqS (vv 5) (vv 4) (by rfl)) (vw_and1 (vt_cmp vo_notIn (vv 6) (vv 2) (by rfl))))) (vs_cons (v_expr (v_mt vm_append PySem.F.plainAttrs_list PySem.F.slot_list_append PySem.F.type_list_append (vv 2) (va_cons (vv 6) va_nil)))
    (vs_one (v_expr (v_mt vm_append PySem.F.plainAttrs_list PySem.F.slot_list_append PySem.F.type_list_append (vv 3) (va_cons (vv 6) va_nil))))) vs_nil)) PassesOwn.never))) PassesOwn.never)
    (vs_one (v_ret (v_ty vc_tuple B.tuple (va_cons (v_b vc_sortI B.sorted (va_cons (vv 2) va_nil)) va_nil)))))), ?_⟩
  rintro ⟨ps, a, d⟩ _ Q ⟨rfl, hd, hz, hp, ha⟩ q
  dsimp only at hd hz hp ha q ⊢
  simp only [wSeq, wNext, wSet, wRet, wDrop, wIfS, wIf, wVar, wC, wNil, wCons, wOp, wTest, wAnd, wOr, wNot, wAndV, wOrV, wNotV, wChain, wTup, wLst, wLstO, wCall, wCallU, wCallX, wCB, wIsi, oI, oI0, oB0, oEqS, oNeS, oIsB, oIsN, oCat, oCatT, oRep, oRepO, oRepT, oLen, oInt1, oAll, oAny, oTuple, oList, oListO, oIx, oIn, oInT, oEqT, oNeNil, oMaxL, oMinL, oMaxT, oMinT, oSortT, oSortI, oDictT, oTupleF, wMt, oApp, oExt, oPop, oPopAt, wFrom, wTo, wTupRg, wLstRg, wSortSetI, wSortSetP, wTGet, wTGetD, wTIn, wDGet, wDNot, wDPut, wDict1, wDictO, wSetIx, wOrL, wWeak, wPar2, wPar3, wRaise, wNever, gN, gT, gsCons, gsNil, wZip, wEnum, wSeqI, wRng1, wRng2, wCb, asV, asVs, asBl, asInt, as1, as2, as3, asSeq, asU, asM0, asO, asD, asDt, asLst, asNil, asNon, asSc, asZip, contL, contS, contT, contP, retD, endV, endU, endX, allV, slots0, scEq, isN, List.map_cons, List.map_nil, Option.map_some, List.getElem?_cons_zero, List.getElem?_cons_succ, List.length_cons, List.length_nil, List.cons_append, List.nil_append, List.set_cons_zero, List.set_cons_succ, Nat.zero_add, Nat.reduceAdd, Nat.reduceSub, List.replicate_succ, List.replicate_zero, Nat.reduceLeDiff, if_pos, if_true, if_false, Bool.false_eq_true, Nat.le_refl, ite_true, ite_false, true_and, and_true, Nat.sub_self, List.replicate, List.length_map]
  refine ⟨fun δ M => ∃ found left y4 y5 y6, M = [.lst (found.map .int), .lst (left.map .int)] ∧ δ = [some (.v d), some (.v (.int a)), some (.o 0), some (.o 1), y4, y5, y6] ∧ Fl ps a found left ∧ Clo ps found left,
    fun δ M => match M with | [.lst f, .lst l] => 2 * (10 - f.length) + l.length | _ => 0, ⟨[a], [a], none, none, none, rfl, rfl, ⟨by simp, by simp, by simp, fun x hx => hx, fun x hx => by rw [List.mem_singleton.mp hx]; exact .base⟩, fun x hx hn => absurd hx hn⟩, ?_⟩
  rintro δ M ⟨found, left, y4, y5, y6, rfl, rfl, F, Cl⟩
  simp only [wSeq, wNext, wSet, wRet, wDrop, wIfS, wIf, wVar, wC, wNil, wCons, wOp, wTest, wAnd, wOr, wNot, wAndV, wOrV, wNotV, wChain, wTup, wLst, wLstO, wCall, wCallU, wCallX, wCB, wIsi, oI, oI0, oB0, oEqS, oNeS, oIsB, oIsN, oCat, oCatT, oRep, oRepO, oRepT, oLen, oInt1, oAll, oAny, oTuple, oList, oListO, oIx, oIn, oInT, oEqT, oNeNil, oMaxL, oMinL, oMaxT, oMinT, oSortT, oSortI, oDictT, oTupleF, wMt, oApp, oExt, oPop, oPopAt, wFrom, wTo, wTupRg, wLstRg, wSortSetI, wSortSetP, wTGet, wTGetD, wTIn, wDGet, wDNot, wDPut, wDict1, wDictO, wSetIx, wOrL, wWeak, wPar2, wPar3, wRaise, wNever, gN, gT, gsCons, gsNil, wZip, wEnum, wSeqI, wRng1, wRng2, wCb, asV, asVs, asBl, asInt, as1, as2, as3, asSeq, asU, asM0, asO, asD, asDt, asLst, asNil, asNon, asSc, asZip, contL, contS, contT, contP, retD, endV, endU, endX, allV, slots0, scEq, isN, List.map_cons, List.map_nil, Option.map_some, List.getElem?_cons_zero, List.getElem?_cons_succ, List.length_cons, List.length_nil, List.cons_append, List.nil_append, List.set_cons_zero, List.set_cons_succ, Nat.zero_add, Nat.reduceAdd, Nat.reduceSub, List.replicate_succ, List.replicate_zero, Nat.reduceLeDiff, if_pos, if_true, if_false, Bool.false_eq_true, Nat.le_refl, ite_true, ite_false, true_and, and_true, Nat.sub_self, List.replicate, List.length_map]
  cases hb : decide (0 < (left.length : Int)) with
  | false =>
    refine (if_neg Bool.false_ne_true).mpr ?_
    have hl : left = [] := List.eq_nil_of_length_eq_zero (by simpa using hb)
    subst hl
    refine ⟨found, rfl, fun ns h1 h2 => ?_⟩
    have h3 : ns.Pairwise (· < ·) := by
      have nn : ns.Nodup := h1.nodup_iff.mpr F.nd
      exact (h2.and nn).imp fun ⟨h, h'⟩ => by omega
    rw [rchL_uniq hp ha h3 fun b => ?_]
    · exact q
    · rw [h1.mem_iff]
      refine ⟨F.rch b, fun h => ?_⟩
      induction h with
      | base => exact F.ha
      | step _ e ih => exact Cl _ ih (by simp) _ e
  | true =>
    refine (if_pos rfl).mpr ?_
    have hl : left ≠ [] := fun e => by subst e; simp at hb
    have hll : 0 < left.length := List.length_pos_iff.mpr hl
    refine ⟨.int (left.getLast hl), by rw [List.getElem?_map, List.getLast_eq_getElem, List.getElem?_eq_getElem (by omega)]; rfl, ?_⟩
    have hdl : (left.map Dt.int).dropLast = left.dropLast.map .int := by rw [List.map_dropLast]
    have hmem : left.getLast hl ∈ found := F.sub _ (List.getLast_mem hl)
    have hsub : ∀ x ∈ left.dropLast, x ∈ left := fun x hx => (List.dropLast_sublist _).subset hx
    have hsplit : ∀ x ∈ left, x ∈ left.dropLast ∨ x = left.getLast hl := fun x hx => by
      have e := List.dropLast_concat_getLast hl
      rw [← e] at hx
      rcases List.mem_append.mp hx with h | h
      · exact .inl h
      · exact .inr (List.mem_singleton.mp h)
    have h10 := F.len hp ha
    refine for_i (xs := ps) pI (fun i δ' M' => ∃ f' l' y5 y6, M' = [.lst (f'.map .int), .lst (l'.map .int)] ∧ δ' = [some (.v d), some (.v (.int a)), some (.o 0), some (.o 1), some (.v (.int (left.getLast hl))), y5, y6] ∧ Fl ps a f' l' ∧
        (∀ x ∈ found, x ∈ f') ∧ (∀ x ∈ f', x ∉ l' → x ≠ left.getLast hl → ∀ y, (x, y) ∈ ps → y ∈ f') ∧ (∀ y, (left.getLast hl, y) ∈ ps.take i → y ∈ f') ∧ 2 * (10 - f'.length) + l'.length + 1 ≤ 2 * (10 - found.length) + left.length) (fun Q' q' => by rcases hd with rfl | rfl <;> exact q') ?_ (fun i x δ M e hh => ?_) (fun δ M hh => ?_)
    · refine ⟨found, left.dropLast, _, _, by rw [hdl], rfl, ⟨F.nd, F.nl.sublist (List.dropLast_sublist _), F.ha, fun x hx => F.sub x (hsub x hx), F.rch⟩, fun x hx => hx, fun x hx hn hne => Cl x hx fun h => (hsplit x h).elim hn hne, fun y hy => by simp at hy, ?_⟩
      rw [List.length_dropLast]
      omega
    · obtain ⟨f', l', y5, y6, rfl, rfl, F', h1, h2, h3, h4⟩ := hh
      have ht : ps.take (i + 1) = ps.take i ++ [x] := by rw [List.take_succ, e]; rfl
      have hx : x ∈ ps := List.mem_of_getElem? e
      simp only [wSeq, wNext, wSet, wRet, wDrop, wIfS, wIf, wVar, wC, wNil, wCons, wOp, wTest, wAnd, wOr, wNot, wAndV, wOrV, wNotV, wChain, wTup, wLst, wLstO, wCall, wCallU, wCallX, wCB, wIsi, oI, oI0, oB0, oEqS, oNeS, oIsB, oIsN, oCat, oCatT, oRep, oRepO, oRepT, oLen, oInt1, oAll, oAny, oTuple, oList, oListO, oIx, oIn, oInT, oEqT, oNeNil, oMaxL, oMinL, oMaxT, oMinT, oSortT, oSortI, oDictT, oTupleF, wMt, oApp, oExt, oPop, oPopAt, wFrom, wTo, wTupRg, wLstRg, wSortSetI, wSortSetP, wTGet, wTGetD, wTIn, wDGet, wDNot, wDPut, wDict1, wDictO, wSetIx, wOrL, wWeak, wPar2, wPar3, wRaise, wNever, gN, gT, gsCons, gsNil, wZip, wEnum, wSeqI, wRng1, wRng2, wCb, asV, asVs, asBl, asInt, as1, as2, as3, asSeq, asU, asM0, asO, asD, asDt, asLst, asNil, asNon, asSc, asZip, contL, contS, contT, contP, retD, endV, endU, endX, allV, slots0, scEq, isN, List.map_cons, List.map_nil, Option.map_some, List.getElem?_cons_zero, List.getElem?_cons_succ, List.length_cons, List.length_nil, List.cons_append, List.nil_append, List.set_cons_zero, List.set_cons_succ, Nat.zero_add, Nat.reduceAdd, Nat.reduceSub, List.replicate_succ, List.replicate_zero, Nat.reduceLeDiff, if_pos, if_true, if_false, Bool.false_eq_true, Nat.le_refl, ite_true, ite_false, true_and, and_true, Nat.sub_self, List.replicate, List.length_map]
      by_cases c1 : x.1 = left.getLast hl
      · rw [decide_eq_true c1]
        refine (if_pos rfl).mpr ?_
        refine ⟨f', rfl, ?_⟩
        by_cases c2 : x.2 ∈ f'
        · rw [decide_eq_true c2]
          refine (if_neg (by simp)).mpr ⟨f', l', _, _, rfl, rfl, F', h1, h2, fun y hy => ?_, h4⟩
          rw [ht] at hy
          rcases List.mem_append.mp hy with hy | hy
          · exact h3 y hy
          · have e2 := List.mem_singleton.mp hy
            have e3 : y = x.2 := by rw [← e2]
            rw [e3]; exact c2
        · rw [decide_eq_false c2]
          refine (if_pos (by simp)).mpr ?_
          have hf' := F'.len hp ha
          have F2 : Fl ps a (f' ++ [x.2]) (l' ++ [x.2]) := by
            refine ⟨?_, ?_, List.mem_append_left _ F'.ha, fun y hy => ?_, fun y hy => ?_⟩
            rotate_left
            · rw [List.nodup_append]
              exact ⟨F'.nl, by simp, fun y hy z hz => by rw [List.mem_singleton.mp hz]; exact fun e => c2 (by rw [← e]; exact F'.sub y hy)⟩
            rotate_right
            · rw [List.nodup_append]
              exact ⟨F'.nd, by simp, fun y hy z hz => by rw [List.mem_singleton.mp hz]; exact fun e => c2 (by rw [← e]; exact hy)⟩
            · rcases List.mem_append.mp hy with hy | hy
              · exact List.mem_append_left _ (F'.sub y hy)
              · exact List.mem_append_right _ hy
            · rcases List.mem_append.mp hy with hy | hy
              · exact F'.rch y hy
              · rw [List.mem_singleton.mp hy]
                refine .step (F'.rch _ (h1 _ hmem)) ?_
                rw [← c1]
                exact hx
          have hF2 := F2.len hp ha
          rw [List.length_append, List.length_singleton] at hF2
          have hl' := F'.llen hp ha
          refine ⟨by omega, by omega, ?_⟩
          refine ⟨f' ++ [x.2], l' ++ [x.2], some (.v (.int x.1)), some (.v (.int x.2)), by simp, rfl, F2, fun y hy => List.mem_append_left _ (h1 y hy), fun y hy hn hne z hz => ?_, fun y hy => ?_, ?_⟩
          · rcases List.mem_append.mp hy with hy | hy
            · exact List.mem_append_left _ (h2 y hy (fun h => hn (List.mem_append_left _ h)) hne z hz)
            · exact absurd (List.mem_append_right _ hy) hn
          · rw [ht] at hy
            rcases List.mem_append.mp hy with hy | hy
            · exact List.mem_append_left _ (h3 y hy)
            · have e2 := List.mem_singleton.mp hy
              have e3 : y = x.2 := by rw [← e2]
              rw [e3]
              exact List.mem_append_right _ List.mem_cons_self
          · rw [List.length_append, List.length_append, List.length_singleton]
            omega
      · rw [decide_eq_false c1]
        refine (if_neg (by simp)).mpr ⟨f', l', _, _, rfl, rfl, F', h1, h2, fun y hy => ?_, h4⟩
        rw [ht] at hy
        rcases List.mem_append.mp hy with hy | hy
        · exact h3 y hy
        · have e2 := List.mem_singleton.mp hy
          have e3 : left.getLast hl = x.1 := by rw [← e2]
          exact absurd e3.symm c1
    · obtain ⟨f', l', y5, y6, rfl, rfl, F', h1, h2, h3, h4⟩ := hh
      rw [List.take_length] at h3
      refine ⟨⟨f', l', _, _, _, rfl, rfl, F', fun x hx hn y hy => ?_⟩, ?_⟩
      · by_cases c : x = left.getLast hl
        · rw [c] at hy; exact h3 y hy
        · exact h2 x hx hn c y hy
      · simp only [List.length_map]
        omega

end
end VL
set_option Elab.async false
set_option linter.all false
set_option maxRecDepth 100000
set_option maxHeartbeats 4000000
/-! VL21: reached, woven lots. -/
namespace VL
open PySem PySem.Spec PyProof.Rows L2 VLC
section
variable {P : Program} {w : World} {K : PySem.W.Frag} {mg : Str → Option Value} {base : Heap}

def In7 (l : List Int) : Prop := ∀ a ∈ l, 0 ≤ a ∧ a < 7
theorem leads_in7 {r : Rl} {lot : List Int} : ∀ x ∈ leadsM r lot, pIn x := fun x hx => mem_pairs7.mp (List.mem_filter.mp hx).1
theorem leads_len {r : Rl} {lot : List Int} : (leadsM r lot).length ≤ 49 := Nat.le_trans (List.length_filter_le _ _) (by decide +kernel)
abbrev spReached : Spec := fnS (fun (x : Rl × List Int × Int × Dt) ds => ds = [x.2.2.2, tI x.2.1, .int x.2.2.1] ∧ RuleD x.1 x.2.2.2 ∧ SmallR x.1 ∧ x.2.2.1 ∈ x.2.1 ∧ In7 x.2.1) fun x => tI (rchL (leadsM x.1 x.2.1) x.2.2.1)
theorem ok_reached (D : Df K mg "reached" s_reached ["rule", "lot", "area"]) (B : Bs mg) (C_sure_areas : Cl P w K mg base CX0 1 "sure_areas" ["lot", "areas"] (spV spSure)) (C_leads_in : Cl P w K mg base CX0 6 "leads_in" ["rule", "lot"] (spV spLeads)) (C_flooded : Cl P w K mg base CX0 1 "flooded" ["pairs", "area"] (spV spFlood)) :
    Cl P w K mg base CX0 7 "reached" ["rule", "lot", "area"] (spV spReached) := by
  refine v_def D sc_reached (fun y ds h => by rw [h.1]; rfl) fun fa cdv A outer s H E hr => ?_
  have Sc := sc_reached

  refine ⟨_, (vs_cons (v_expr (v_c C_sure_areas (hr.mono (by omega)) (va_cons (vv 1) (va_cons (v_tup (va_cons (vv 2) va_nil)) va_nil))))
    (vs_one (v_ret (v_c C_flooded (hr.mono (by omega)) (va_cons (v_c C_leads_in (hr.mono (by omega)) (va_cons (vv 0) (va_cons (vv 1) va_nil))) (va_cons (vv 2) va_nil)))))), ?_⟩
  rintro ⟨r, lot, a, d⟩ _ Q ⟨rfl, hd, hs, ha, h7⟩ q
  dsimp only at hd hs ha h7 q ⊢
  simp only [wSeq, wNext, wSet, wRet, wDrop, wIfS, wIf, wVar, wC, wNil, wCons, wOp, wTest, wAnd, wOr, wNot, wAndV, wOrV, wNotV, wChain, wTup, wLst, wLstO, wCall, wCallU, wCallX, wCB, wIsi, oI, oI0, oB0, oEqS, oNeS, oIsB, oIsN, oCat, oCatT, oRep, oRepO, oRepT, oLen, oInt1, oAll, oAny, oTuple, oList, oListO, oIx, oIn, oInT, oEqT, oNeNil, oMaxL, oMinL, oMaxT, oMinT, oSortT, oSortI, oDictT, oTupleF, wMt, oApp, oExt, oPop, oPopAt, wFrom, wTo, wTupRg, wLstRg, wSortSetI, wSortSetP, wTGet, wTGetD, wTIn, wDGet, wDNot, wDPut, wDict1, wDictO, wSetIx, wOrL, wWeak, wPar2, wPar3, wRaise, wNever, gN, gT, gsCons, gsNil, wZip, wEnum, wSeqI, wRng1, wRng2, wCb, asV, asVs, asBl, asInt, as1, as2, as3, asSeq, asU, asM0, asO, asD, asDt, asLst, asNil, asNon, asSc, asZip, contL, contS, contT, contP, retD, endV, endU, endX, allV, slots0, scEq, isN, List.map_cons, List.map_nil, Option.map_some, List.getElem?_cons_zero, List.getElem?_cons_succ, List.length_cons, List.length_nil, List.cons_append, List.nil_append, List.set_cons_zero, List.set_cons_succ, Nat.zero_add, Nat.reduceAdd, Nat.reduceSub, List.replicate_succ, List.replicate_zero, Nat.reduceLeDiff, if_pos, if_true, if_false, Bool.false_eq_true, Nat.le_refl, ite_true, ite_false, true_and, and_true, Nat.sub_self, List.replicate, List.length_map]
  refine ⟨(lot, [a]), ⟨rfl, fun b hb => by rw [List.mem_singleton.mp hb]; exact ha⟩, ?_⟩
  refine ⟨(r, lot, d, tI lot), ⟨rfl, hd, hs, .inl rfl⟩, ?_⟩
  exact ⟨(leadsM r lot, a, .tup ((leadsM r lot).map pI)), ⟨rfl, .inl rfl, Nat.le_trans leads_len (by decide), leads_in7, h7 a ha⟩, q⟩
noncomputable def joinsH (ps : Prs) (h : Int) (n : Nat) : Bool := decide (((rchL ps h).length : Int) = (n : Int)) && decide (((rchL (ps.map swp) h).length : Int) = (n : Int))
noncomputable def joinsM (ps : Prs) (lot : List Int) : Bool := joinsH ps (lot.headD 0) lot.length
abbrev spJoins : Spec := fnS (fun (x : Prs × List Int × Dt) ds => ds = [x.2.2, tI x.2.1] ∧ (x.2.2 = .tup (x.1.map pI) ∨ x.2.2 = .lst (x.1.map pI)) ∧ x.1.length ≤ 1000 ∧ (∀ y ∈ x.1, pIn y) ∧ x.2.1 ≠ [] ∧ In7 x.2.1) fun x => .bl (joinsM x.1 x.2.1)
theorem swp_in {ps : Prs} (h : ∀ y ∈ ps, pIn y) : ∀ y ∈ ps.map swp, pIn y := fun y hy => by
  obtain ⟨x, hx, rfl⟩ := List.mem_map.mp hy
  obtain ⟨a, b⟩ := h x hx
  exact ⟨b, a⟩
theorem ok_joins (D : Df K mg "joins_all" s_joins ["pairs", "lot"]) (B : Bs mg) (C_turned : Cl P w K mg base CX0 1 "turned" ["pairs"] (spV spTurned)) (C_flooded : Cl P w K mg base CX0 1 "flooded" ["pairs", "area"] (spV spFlood)) :
    Cl P w K mg base CX0 2 "joins_all" ["pairs", "lot"] (spV spJoins) := by
  refine v_def D sc_joins (fun y ds h => by rw [h.1]; rfl) fun fa cdv A outer s H E hr => ?_
  have Sc := sc_joins

  refine ⟨_, (vs_one (v_ret (v_and (v_cmp vo_eqS (v_b vc_len B.len (va_cons (v_c C_flooded (hr.mono (by omega)) (va_cons (vv 0) (va_cons (v_ix (vv 1) v_int) va_nil))) va_nil)) (v_b vc_len B.len (va_cons (vv 1) va_nil)) (by rfl)) (v_one (v_cmp vo_eqS (v_b vc_len B.len (va_cons (v_c C_flooded (hr.mono (by omega)) (va_cons (v_c C_turned (hr.mono (by omega)) (va_cons (vv 0) va_nil)) (va_cons (v_ix (vv 1) v_int) va_nil))) va_nil)) (v_b vc_len B.len (va_cons (vv 1) va_nil)) (by rfl)))))), ?_⟩
  rintro ⟨ps, lot, d⟩ _ Q ⟨rfl, hd, hz, hp, hne, h7⟩ q
  dsimp only at hd hz hp hne h7 q ⊢
  simp only [wSeq, wNext, wSet, wRet, wDrop, wIfS, wIf, wVar, wC, wNil, wCons, wOp, wTest, wAnd, wOr, wNot, wAndV, wOrV, wNotV, wChain, wTup, wLst, wLstO, wCall, wCallU, wCallX, wCB, wIsi, oI, oI0, oB0, oEqS, oNeS, oIsB, oIsN, oCat, oCatT, oRep, oRepO, oRepT, oLen, oInt1, oAll, oAny, oTuple, oList, oListO, oIx, oIn, oInT, oEqT, oNeNil, oMaxL, oMinL, oMaxT, oMinT, oSortT, oSortI, oDictT, oTupleF, wMt, oApp, oExt, oPop, oPopAt, wFrom, wTo, wTupRg, wLstRg, wSortSetI, wSortSetP, wTGet, wTGetD, wTIn, wDGet, wDNot, wDPut, wDict1, wDictO, wSetIx, wOrL, wWeak, wPar2, wPar3, wRaise, wNever, gN, gT, gsCons, gsNil, wZip, wEnum, wSeqI, wRng1, wRng2, wCb, asV, asVs, asBl, asInt, as1, as2, as3, asSeq, asU, asM0, asO, asD, asDt, asLst, asNil, asNon, asSc, asZip, contL, contS, contT, contP, retD, endV, endU, endX, allV, slots0, scEq, isN, List.map_cons, List.map_nil, Option.map_some, List.getElem?_cons_zero, List.getElem?_cons_succ, List.length_cons, List.length_nil, List.cons_append, List.nil_append, List.set_cons_zero, List.set_cons_succ, Nat.zero_add, Nat.reduceAdd, Nat.reduceSub, List.replicate_succ, List.replicate_zero, Nat.reduceLeDiff, if_pos, if_true, if_false, Bool.false_eq_true, Nat.le_refl, ite_true, ite_false, true_and, and_true, Nat.sub_self, List.replicate, List.length_map]
  cases lot with
  | nil => exact absurd rfl hne
  | cons h lot =>
    have hh := h7 h List.mem_cons_self
    have h0 : atI ((h :: lot).map Dt.int) 0 = some (.int h) := at_nat (k := 0) rfl (by simp)
    refine ⟨.int h, h0, ⟨(ps, h, d), ⟨rfl, hd, hz, hp, hh⟩, ?_⟩⟩
    dsimp only
    have q : Q (.bl (joinsH ps h (lot.length + 1))) := q
    unfold joinsH at q
    simp only [wSeq, wNext, wSet, wRet, wDrop, wIfS, wIf, wVar, wC, wNil, wCons, wOp, wTest, wAnd, wOr, wNot, wAndV, wOrV, wNotV, wChain, wTup, wLst, wLstO, wCall, wCallU, wCallX, wCB, wIsi, oI, oI0, oB0, oEqS, oNeS, oIsB, oIsN, oCat, oCatT, oRep, oRepO, oRepT, oLen, oInt1, oAll, oAny, oTuple, oList, oListO, oIx, oIn, oInT, oEqT, oNeNil, oMaxL, oMinL, oMaxT, oMinT, oSortT, oSortI, oDictT, oTupleF, wMt, oApp, oExt, oPop, oPopAt, wFrom, wTo, wTupRg, wLstRg, wSortSetI, wSortSetP, wTGet, wTGetD, wTIn, wDGet, wDNot, wDPut, wDict1, wDictO, wSetIx, wOrL, wWeak, wPar2, wPar3, wRaise, wNever, gN, gT, gsCons, gsNil, wZip, wEnum, wSeqI, wRng1, wRng2, wCb, asV, asVs, asBl, asInt, as1, as2, as3, asSeq, asU, asM0, asO, asD, asDt, asLst, asNil, asNon, asSc, asZip, contL, contS, contT, contP, retD, endV, endU, endX, allV, slots0, scEq, isN, List.map_cons, List.map_nil, Option.map_some, List.getElem?_cons_zero, List.getElem?_cons_succ, List.length_cons, List.length_nil, List.cons_append, List.nil_append, List.set_cons_zero, List.set_cons_succ, Nat.zero_add, Nat.reduceAdd, Nat.reduceSub, List.replicate_succ, List.replicate_zero, Nat.reduceLeDiff, if_pos, if_true, if_false, Bool.false_eq_true, Nat.le_refl, ite_true, ite_false, true_and, and_true, Nat.sub_self, List.replicate, List.length_map]
    cases hb : decide (((rchL ps h).length : Int) = ((lot.length + 1 : Nat) : Int)) with
    | false =>
      rw [hb, Bool.false_and] at q
      try rw [hb]
      exact (if_neg Bool.false_ne_true).mpr q
    | true =>
      rw [hb, Bool.true_and] at q
      try rw [hb]
      refine (if_pos rfl).mpr ?_
      refine ⟨(ps, d), ⟨rfl, hd, hz⟩, ?_⟩
      refine ⟨.int h, h0, ⟨(ps.map swp, h, .lst ((ps.map swp).map pI)), ⟨rfl, .inr rfl, by rw [List.length_map]; exact hz, swp_in hp, hh⟩, ?_⟩⟩
      simp only [wSeq, wNext, wSet, wRet, wDrop, wIfS, wIf, wVar, wC, wNil, wCons, wOp, wTest, wAnd, wOr, wNot, wAndV, wOrV, wNotV, wChain, wTup, wLst, wLstO, wCall, wCallU, wCallX, wCB, wIsi, oI, oI0, oB0, oEqS, oNeS, oIsB, oIsN, oCat, oCatT, oRep, oRepO, oRepT, oLen, oInt1, oAll, oAny, oTuple, oList, oListO, oIx, oIn, oInT, oEqT, oNeNil, oMaxL, oMinL, oMaxT, oMinT, oSortT, oSortI, oDictT, oTupleF, wMt, oApp, oExt, oPop, oPopAt, wFrom, wTo, wTupRg, wLstRg, wSortSetI, wSortSetP, wTGet, wTGetD, wTIn, wDGet, wDNot, wDPut, wDict1, wDictO, wSetIx, wOrL, wWeak, wPar2, wPar3, wRaise, wNever, gN, gT, gsCons, gsNil, wZip, wEnum, wSeqI, wRng1, wRng2, wCb, asV, asVs, asBl, asInt, as1, as2, as3, asSeq, asU, asM0, asO, asD, asDt, asLst, asNil, asNon, asSc, asZip, contL, contS, contT, contP, retD, endV, endU, endX, allV, slots0, scEq, isN, List.map_cons, List.map_nil, Option.map_some, List.getElem?_cons_zero, List.getElem?_cons_succ, List.length_cons, List.length_nil, List.cons_append, List.nil_append, List.set_cons_zero, List.set_cons_succ, Nat.zero_add, Nat.reduceAdd, Nat.reduceSub, List.replicate_succ, List.replicate_zero, Nat.reduceLeDiff, if_pos, if_true, if_false, Bool.false_eq_true, Nat.le_refl, ite_true, ite_false, true_and, and_true, Nat.sub_self, List.replicate, List.length_map]
      exact q
noncomputable def wovM (r : Rl) (lot : List Int) : Bool := decide (1 < (lot.length : Int)) && joinsM (leadsM r lot) lot
abbrev spIsWov : Spec := fnS (fun (x : Rl × List Int × Dt) ds => ds = [x.2.2, tI x.2.1] ∧ RuleD x.1 x.2.2 ∧ SmallR x.1 ∧ In7 x.2.1) fun x => .bl (wovM x.1 x.2.1)
theorem ok_iswov (D : Df K mg "is_woven" s_iswov ["rule", "lot"]) (B : Bs mg) (C_leads_in : Cl P w K mg base CX0 6 "leads_in" ["rule", "lot"] (spV spLeads)) (C_joins_all : Cl P w K mg base CX0 2 "joins_all" ["pairs", "lot"] (spV spJoins)) :
    Cl P w K mg base CX0 7 "is_woven" ["rule", "lot"] (spV spIsWov) := by
  refine v_def D sc_iswov (fun y ds h => by rw [h.1]; rfl) fun fa cdv A outer s H E hr => ?_
  have Sc := sc_iswov

  refine ⟨_, (vs_one (v_ret (v_and (v_cmp vo_gt (v_b vc_len B.len (va_cons (vv 1) va_nil)) v_int (by rfl)) (v_one (v_c C_joins_all (hr.mono (by omega)) (va_cons (v_c C_leads_in (hr.mono (by omega)) (va_cons (vv 0) (va_cons (vv 1) va_nil))) (va_cons (vv 1) va_nil))))))), ?_⟩
  rintro ⟨r, lot, d⟩ _ Q ⟨rfl, hd, hs, h7⟩ q
  dsimp only at hd hs h7 q ⊢
  simp only [wSeq, wNext, wSet, wRet, wDrop, wIfS, wIf, wVar, wC, wNil, wCons, wOp, wTest, wAnd, wOr, wNot, wAndV, wOrV, wNotV, wChain, wTup, wLst, wLstO, wCall, wCallU, wCallX, wCB, wIsi, oI, oI0, oB0, oEqS, oNeS, oIsB, oIsN, oCat, oCatT, oRep, oRepO, oRepT, oLen, oInt1, oAll, oAny, oTuple, oList, oListO, oIx, oIn, oInT, oEqT, oNeNil, oMaxL, oMinL, oMaxT, oMinT, oSortT, oSortI, oDictT, oTupleF, wMt, oApp, oExt, oPop, oPopAt, wFrom, wTo, wTupRg, wLstRg, wSortSetI, wSortSetP, wTGet, wTGetD, wTIn, wDGet, wDNot, wDPut, wDict1, wDictO, wSetIx, wOrL, wWeak, wPar2, wPar3, wRaise, wNever, gN, gT, gsCons, gsNil, wZip, wEnum, wSeqI, wRng1, wRng2, wCb, asV, asVs, asBl, asInt, as1, as2, as3, asSeq, asU, asM0, asO, asD, asDt, asLst, asNil, asNon, asSc, asZip, contL, contS, contT, contP, retD, endV, endU, endX, allV, slots0, scEq, isN, List.map_cons, List.map_nil, Option.map_some, List.getElem?_cons_zero, List.getElem?_cons_succ, List.length_cons, List.length_nil, List.cons_append, List.nil_append, List.set_cons_zero, List.set_cons_succ, Nat.zero_add, Nat.reduceAdd, Nat.reduceSub, List.replicate_succ, List.replicate_zero, Nat.reduceLeDiff, if_pos, if_true, if_false, Bool.false_eq_true, Nat.le_refl, ite_true, ite_false, true_and, and_true, Nat.sub_self, List.replicate, List.length_map]
  unfold wovM at q
  cases hb : decide (1 < (lot.length : Int)) with
  | false =>
    rw [hb, Bool.false_and] at q
    exact (if_neg Bool.false_ne_true).mpr q
  | true =>
    rw [hb, Bool.true_and] at q
    refine (if_pos rfl).mpr ?_
    refine ⟨(r, lot, d, tI lot), ⟨rfl, hd, hs, .inl rfl⟩, ?_⟩
    exact ⟨(leadsM r lot, lot, .tup ((leadsM r lot).map pI)), ⟨rfl, .inl rfl, Nat.le_trans leads_len (by decide), leads_in7, fun e => by subst e; simp at hb, h7⟩, q⟩
/-! lots -/
def allc (m i : Nat) : List (List Int) := (List.range i).flatMap fun k => (cbsN m (k + 1)).map (pickI (rg m))
theorem allc_tab : ((List.range 6).all fun m => (List.range 6).all fun i => decide ((allc m i).length ≤ 100) && ((allc m i).all fun l => !l.isEmpty && l.all fun a => decide (0 ≤ a) && decide (a < 7)) && decide ((cbsN m i).length ≤ 100)) = true := by decide +kernel
theorem allc_facts {m i : Nat} (hm : m ≤ 5) (hi : i ≤ 5) : (allc m i).length ≤ 100 ∧ (∀ l ∈ allc m i, l ≠ [] ∧ In7 l) ∧ (cbsN m i).length ≤ 100 := by
  have h := allc_tab
  rw [List.all_eq_true] at h
  have h2 := h m (List.mem_range.mpr (by omega))
  rw [List.all_eq_true] at h2
  have h3 := h2 i (List.mem_range.mpr (by omega))
  simp only [Bool.and_eq_true, decide_eq_true_eq, List.all_eq_true, Bool.not_eq_true', List.isEmpty_eq_false_iff] at h3
  exact ⟨h3.1.1, fun l hl => ⟨(h3.1.2 l hl).1, fun a ha => (h3.1.2 l hl).2 a ha⟩, h3.2⟩
theorem allc_snoc (m i : Nat) : allc m (i + 1) = allc m i ++ (cbsN m (i + 1)).map (pickI (rg m)) := by
  unfold allc
  rw [List.range_succ, List.flatMap_append]
  simp
theorem rg_len (m : Nat) : (rg m).length = m := by simp [rg]
def lotsM (m : Nat) : List (List Int) := sortT (allc m m)
theorem mem_lotsM {m : Nat} {l : List Int} : l ∈ lotsM m ↔ l ∈ allc m m := by
  unfold lotsM sortT
  exact List.mem_mergeSort
abbrev spLots : Spec := fnS (fun (m : Nat) ds => ds = [tI (rg m)] ∧ 1 ≤ m ∧ m ≤ 5) fun m => .lst ((lotsM m).map tI)
theorem ok_lots (D : Df K mg "lots_within" s_lots ["lot"]) (B : Bs mg) (B_comb : mg "combinations" = some (.type "itertools.combinations")) : Cl P w K mg base CX0 1 "lots_within" ["lot"] (spV spLots) := by
  refine v_def D sc_lots (fun y ds h => by rw [h.1]; rfl) fun fa cdv A outer s H E hr => ?_
  have Sc := sc_lots

  refine ⟨_, (vs_cons (v_set (i := 1) Sc.nd (v_lstO va_nil))
    (vs_cons (v_for rfl (vi_r2 B.range (va_cons v_int (va_cons (v_op vo_add (v_b vc_len B.len (va_cons (vv 0) va_nil)) v_int) va_nil))) (vg_name (i := 2) Sc.nd) (vs_one (v_expr (v_mt vm_extend PySem.F.plainAttrs_list PySem.F.slot_list_extend PySem.F.type_list_extend (vv 1) (va_cons (v_lc (own := [("own", 3)]) rfl Sc.nd (vi_cb B_comb (va_cons (vv 0) (va_cons (vv 2) va_nil))) (blkOk_by (by rfl)) (fun _ _ _ _ _ => (vg_name (i := 3) Sc.nd)) (fun _ _ _ _ _ => vts_nil) (fun _ _ _ _ _ => (vv 3))) va_nil)))) PassesOwn.never)
    (vs_one (v_ret (v_b (vc_sortT (hu4 hr)) B.sorted (va_cons (vv 1) va_nil)))))), ?_⟩
  rintro m _ Q ⟨rfl, h1, hm⟩ q
  simp only [wSeq, wNext, wSet, wRet, wDrop, wIfS, wIf, wVar, wC, wNil, wCons, wOp, wTest, wAnd, wOr, wNot, wAndV, wOrV, wNotV, wChain, wTup, wLst, wLstO, wCall, wCallU, wCallX, wCB, wIsi, oI, oI0, oB0, oEqS, oNeS, oIsB, oIsN, oCat, oCatT, oRep, oRepO, oRepT, oLen, oInt1, oAll, oAny, oTuple, oList, oListO, oIx, oIn, oInT, oEqT, oNeNil, oMaxL, oMinL, oMaxT, oMinT, oSortT, oSortI, oDictT, oTupleF, wMt, oApp, oExt, oPop, oPopAt, wFrom, wTo, wTupRg, wLstRg, wSortSetI, wSortSetP, wTGet, wTGetD, wTIn, wDGet, wDNot, wDPut, wDict1, wDictO, wSetIx, wOrL, wWeak, wPar2, wPar3, wRaise, wNever, gN, gT, gsCons, gsNil, wZip, wEnum, wSeqI, wRng1, wRng2, wCb, asV, asVs, asBl, asInt, as1, as2, as3, asSeq, asU, asM0, asO, asD, asDt, asLst, asNil, asNon, asSc, asZip, contL, contS, contT, contP, retD, endV, endU, endX, allV, slots0, scEq, isN, List.map_cons, List.map_nil, Option.map_some, List.getElem?_cons_zero, List.getElem?_cons_succ, List.length_cons, List.length_nil, List.cons_append, List.nil_append, List.set_cons_zero, List.set_cons_succ, Nat.zero_add, Nat.reduceAdd, Nat.reduceSub, List.replicate_succ, List.replicate_zero, Nat.reduceLeDiff, if_pos, if_true, if_false, Bool.false_eq_true, Nat.le_refl, ite_true, ite_false, true_and, and_true, Nat.sub_self, List.replicate, List.length_map]
  refine for_i (xs := List.range m) (fun i : Nat => Dt.int (1 + (i : Nat))) (fun i δ M => i ≤ m ∧ M = [.lst ((allc m i).map tI)] ∧ ∃ y2, δ = [some (.v (tI (rg m))), some (.o 0), y2, none]) (fun Q' q' => ?_) ⟨Nat.zero_le _, rfl, _, rfl⟩ (fun i x δ M e hp => ?_) (fun δ M hp => ?_)
  · simp only [wSeq, wNext, wSet, wRet, wDrop, wIfS, wIf, wVar, wC, wNil, wCons, wOp, wTest, wAnd, wOr, wNot, wAndV, wOrV, wNotV, wChain, wTup, wLst, wLstO, wCall, wCallU, wCallX, wCB, wIsi, oI, oI0, oB0, oEqS, oNeS, oIsB, oIsN, oCat, oCatT, oRep, oRepO, oRepT, oLen, oInt1, oAll, oAny, oTuple, oList, oListO, oIx, oIn, oInT, oEqT, oNeNil, oMaxL, oMinL, oMaxT, oMinT, oSortT, oSortI, oDictT, oTupleF, wMt, oApp, oExt, oPop, oPopAt, wFrom, wTo, wTupRg, wLstRg, wSortSetI, wSortSetP, wTGet, wTGetD, wTIn, wDGet, wDNot, wDPut, wDict1, wDictO, wSetIx, wOrL, wWeak, wPar2, wPar3, wRaise, wNever, gN, gT, gsCons, gsNil, wZip, wEnum, wSeqI, wRng1, wRng2, wCb, asV, asVs, asBl, asInt, as1, as2, as3, asSeq, asU, asM0, asO, asD, asDt, asLst, asNil, asNon, asSc, asZip, contL, contS, contT, contP, retD, endV, endU, endX, allV, slots0, scEq, isN, List.map_cons, List.map_nil, Option.map_some, List.getElem?_cons_zero, List.getElem?_cons_succ, List.length_cons, List.length_nil, List.cons_append, List.nil_append, List.set_cons_zero, List.set_cons_succ, Nat.zero_add, Nat.reduceAdd, Nat.reduceSub, List.replicate_succ, List.replicate_zero, Nat.reduceLeDiff, if_pos, if_true, if_false, Bool.false_eq_true, Nat.le_refl, ite_true, ite_false, true_and, and_true, Nat.sub_self, List.replicate, List.length_map]
    rw [rg_len]
    refine ⟨by omega, ?_⟩
    have e : ((m : Int) + 1 - 1).toNat = m := by omega
    rw [e]
    exact q'
  · obtain ⟨hi, rfl, y2, rfl⟩ := hp
    have hx : x = i ∧ i < m := by
      have hl := (List.getElem?_eq_some_iff.mp e).1
      rw [List.length_range] at hl
      rw [List.getElem?_range hl] at e
      exact ⟨(Option.some.inj e).symm, hl⟩
    obtain ⟨rfl, him⟩ := hx
    obtain ⟨f1, f2, f3⟩ := allc_facts (i := x + 1) hm (by omega)
    obtain ⟨f4, _, _⟩ := allc_facts (i := x) hm (by omega)
    simp only [wSeq, wNext, wSet, wRet, wDrop, wIfS, wIf, wVar, wC, wNil, wCons, wOp, wTest, wAnd, wOr, wNot, wAndV, wOrV, wNotV, wChain, wTup, wLst, wLstO, wCall, wCallU, wCallX, wCB, wIsi, oI, oI0, oB0, oEqS, oNeS, oIsB, oIsN, oCat, oCatT, oRep, oRepO, oRepT, oLen, oInt1, oAll, oAny, oTuple, oList, oListO, oIx, oIn, oInT, oEqT, oNeNil, oMaxL, oMinL, oMaxT, oMinT, oSortT, oSortI, oDictT, oTupleF, wMt, oApp, oExt, oPop, oPopAt, wFrom, wTo, wTupRg, wLstRg, wSortSetI, wSortSetP, wTGet, wTGetD, wTIn, wDGet, wDNot, wDPut, wDict1, wDictO, wSetIx, wOrL, wWeak, wPar2, wPar3, wRaise, wNever, gN, gT, gsCons, gsNil, wZip, wEnum, wSeqI, wRng1, wRng2, wCb, asV, asVs, asBl, asInt, as1, as2, as3, asSeq, asU, asM0, asO, asD, asDt, asLst, asNil, asNon, asSc, asZip, contL, contS, contT, contP, retD, endV, endU, endX, allV, slots0, scEq, isN, List.map_cons, List.map_nil, Option.map_some, List.getElem?_cons_zero, List.getElem?_cons_succ, List.length_cons, List.length_nil, List.cons_append, List.nil_append, List.set_cons_zero, List.set_cons_succ, Nat.zero_add, Nat.reduceAdd, Nat.reduceSub, List.replicate_succ, List.replicate_zero, Nat.reduceLeDiff, if_pos, if_true, if_false, Bool.false_eq_true, Nat.le_refl, ite_true, ite_false, true_and, and_true, Nat.sub_self, List.replicate, List.length_map]
    refine lcM (xs := cbsN m (x + 1)) (fun ix => tI (pickI (rg m) ix)) (fun ix => tI (pickI (rg m) ix)) (fun Q' q' => ?_) (by omega) (fun ix hix A h => ?_) ?_
    · simp only [wSeq, wNext, wSet, wRet, wDrop, wIfS, wIf, wVar, wC, wNil, wCons, wOp, wTest, wAnd, wOr, wNot, wAndV, wOrV, wNotV, wChain, wTup, wLst, wLstO, wCall, wCallU, wCallX, wCB, wIsi, oI, oI0, oB0, oEqS, oNeS, oIsB, oIsN, oCat, oCatT, oRep, oRepO, oRepT, oLen, oInt1, oAll, oAny, oTuple, oList, oListO, oIx, oIn, oInT, oEqT, oNeNil, oMaxL, oMinL, oMaxT, oMinT, oSortT, oSortI, oDictT, oTupleF, wMt, oApp, oExt, oPop, oPopAt, wFrom, wTo, wTupRg, wLstRg, wSortSetI, wSortSetP, wTGet, wTGetD, wTIn, wDGet, wDNot, wDPut, wDict1, wDictO, wSetIx, wOrL, wWeak, wPar2, wPar3, wRaise, wNever, gN, gT, gsCons, gsNil, wZip, wEnum, wSeqI, wRng1, wRng2, wCb, asV, asVs, asBl, asInt, as1, as2, as3, asSeq, asU, asM0, asO, asD, asDt, asLst, asNil, asNon, asSc, asZip, contL, contS, contT, contP, retD, endV, endU, endX, allV, slots0, scEq, isN, List.map_cons, List.map_nil, Option.map_some, List.getElem?_cons_zero, List.getElem?_cons_succ, List.length_cons, List.length_nil, List.cons_append, List.nil_append, List.set_cons_zero, List.set_cons_succ, Nat.zero_add, Nat.reduceAdd, Nat.reduceSub, List.replicate_succ, List.replicate_zero, Nat.reduceLeDiff, if_pos, if_true, if_false, Bool.false_eq_true, Nat.le_refl, ite_true, ite_false, true_and, and_true, Nat.sub_self, List.replicate, List.length_map]
      have e : ((1 : Int) + (x : Int)).toNat = x + 1 := by omega
      rw [e]
      refine ⟨rg m, rfl, by rw [rg_len]; omega, ?_⟩
      rw [rg_len]
      exact q'
    · simp only [wSeq, wNext, wSet, wRet, wDrop, wIfS, wIf, wVar, wC, wNil, wCons, wOp, wTest, wAnd, wOr, wNot, wAndV, wOrV, wNotV, wChain, wTup, wLst, wLstO, wCall, wCallU, wCallX, wCB, wIsi, oI, oI0, oB0, oEqS, oNeS, oIsB, oIsN, oCat, oCatT, oRep, oRepO, oRepT, oLen, oInt1, oAll, oAny, oTuple, oList, oListO, oIx, oIn, oInT, oEqT, oNeNil, oMaxL, oMinL, oMaxT, oMinT, oSortT, oSortI, oDictT, oTupleF, wMt, oApp, oExt, oPop, oPopAt, wFrom, wTo, wTupRg, wLstRg, wSortSetI, wSortSetP, wTGet, wTGetD, wTIn, wDGet, wDNot, wDPut, wDict1, wDictO, wSetIx, wOrL, wWeak, wPar2, wPar3, wRaise, wNever, gN, gT, gsCons, gsNil, wZip, wEnum, wSeqI, wRng1, wRng2, wCb, asV, asVs, asBl, asInt, as1, as2, as3, asSeq, asU, asM0, asO, asD, asDt, asLst, asNil, asNon, asSc, asZip, contL, contS, contT, contP, retD, endV, endU, endX, allV, slots0, scEq, isN, List.map_cons, List.map_nil, Option.map_some, List.getElem?_cons_zero, List.getElem?_cons_succ, List.length_cons, List.length_nil, List.cons_append, List.nil_append, List.set_cons_zero, List.set_cons_succ, Nat.zero_add, Nat.reduceAdd, Nat.reduceSub, List.replicate_succ, List.replicate_zero, Nat.reduceLeDiff, if_pos, if_true, if_false, Bool.false_eq_true, Nat.le_refl, ite_true, ite_false, true_and, and_true, Nat.sub_self, List.replicate, List.length_map, wipeD]
      exact h
    · simp only [wSeq, wNext, wSet, wRet, wDrop, wIfS, wIf, wVar, wC, wNil, wCons, wOp, wTest, wAnd, wOr, wNot, wAndV, wOrV, wNotV, wChain, wTup, wLst, wLstO, wCall, wCallU, wCallX, wCB, wIsi, oI, oI0, oB0, oEqS, oNeS, oIsB, oIsN, oCat, oCatT, oRep, oRepO, oRepT, oLen, oInt1, oAll, oAny, oTuple, oList, oListO, oIx, oIn, oInT, oEqT, oNeNil, oMaxL, oMinL, oMaxT, oMinT, oSortT, oSortI, oDictT, oTupleF, wMt, oApp, oExt, oPop, oPopAt, wFrom, wTo, wTupRg, wLstRg, wSortSetI, wSortSetP, wTGet, wTGetD, wTIn, wDGet, wDNot, wDPut, wDict1, wDictO, wSetIx, wOrL, wWeak, wPar2, wPar3, wRaise, wNever, gN, gT, gsCons, gsNil, wZip, wEnum, wSeqI, wRng1, wRng2, wCb, asV, asVs, asBl, asInt, as1, as2, as3, asSeq, asU, asM0, asO, asD, asDt, asLst, asNil, asNon, asSc, asZip, contL, contS, contT, contP, retD, endV, endU, endX, allV, slots0, scEq, isN, List.map_cons, List.map_nil, Option.map_some, List.getElem?_cons_zero, List.getElem?_cons_succ, List.length_cons, List.length_nil, List.cons_append, List.nil_append, List.set_cons_zero, List.set_cons_succ, Nat.zero_add, Nat.reduceAdd, Nat.reduceSub, List.replicate_succ, List.replicate_zero, Nat.reduceLeDiff, if_pos, if_true, if_false, Bool.false_eq_true, Nat.le_refl, ite_true, ite_false, true_and, and_true, Nat.sub_self, List.replicate, List.length_map]
      refine ⟨by omega, him, ?_, _, rfl⟩
      rw [allc_snoc, List.map_append, List.map_map]
      rfl
  · obtain ⟨_, rfl, y2, rfl⟩ := hp
    rw [List.length_range]
    simp only [wSeq, wNext, wSet, wRet, wDrop, wIfS, wIf, wVar, wC, wNil, wCons, wOp, wTest, wAnd, wOr, wNot, wAndV, wOrV, wNotV, wChain, wTup, wLst, wLstO, wCall, wCallU, wCallX, wCB, wIsi, oI, oI0, oB0, oEqS, oNeS, oIsB, oIsN, oCat, oCatT, oRep, oRepO, oRepT, oLen, oInt1, oAll, oAny, oTuple, oList, oListO, oIx, oIn, oInT, oEqT, oNeNil, oMaxL, oMinL, oMaxT, oMinT, oSortT, oSortI, oDictT, oTupleF, wMt, oApp, oExt, oPop, oPopAt, wFrom, wTo, wTupRg, wLstRg, wSortSetI, wSortSetP, wTGet, wTGetD, wTIn, wDGet, wDNot, wDPut, wDict1, wDictO, wSetIx, wOrL, wWeak, wPar2, wPar3, wRaise, wNever, gN, gT, gsCons, gsNil, wZip, wEnum, wSeqI, wRng1, wRng2, wCb, asV, asVs, asBl, asInt, as1, as2, as3, asSeq, asU, asM0, asO, asD, asDt, asLst, asNil, asNon, asSc, asZip, contL, contS, contT, contP, retD, endV, endU, endX, allV, slots0, scEq, isN, List.map_cons, List.map_nil, Option.map_some, List.getElem?_cons_zero, List.getElem?_cons_succ, List.length_cons, List.length_nil, List.cons_append, List.nil_append, List.set_cons_zero, List.set_cons_succ, Nat.zero_add, Nat.reduceAdd, Nat.reduceSub, List.replicate_succ, List.replicate_zero, Nat.reduceLeDiff, if_pos, if_true, if_false, Bool.false_eq_true, Nat.le_refl, ite_true, ite_false, true_and, and_true, Nat.sub_self, List.replicate, List.length_map]
    obtain ⟨f1, f2, f3⟩ := allc_facts (i := m) hm hm
    exact ⟨allc m m, rfl, fun ns hn => (f2 ns hn).1, by omega, q⟩
abbrev spWov : Spec := fnS (fun (x : Nat × Rl × Dt) ds => ds = [x.2.2] ∧ RuleD x.2.1 x.2.2 ∧ SmallR x.2.1 ∧ Tops x.1 x.2.1 ∧ x.1 ≤ 5) fun x => .lst (((lotsM x.1).filter (wovM x.2.1)).map tI)
theorem ok_wlots (D : Df K mg "woven_lots" s_wlots ["rule"]) (B : Bs mg) (C_all_areas : Cl P w K mg base CX0 1 "all_areas" ["rule"] (spV spAll)) (C_lots_within : Cl P w K mg base CX0 1 "lots_within" ["lot"] (spV spLots)) (C_is_woven : Cl P w K mg base CX0 7 "is_woven" ["rule", "lot"] (spV spIsWov)) :
    Cl P w K mg base CX0 8 "woven_lots" ["rule"] (spV spWov) := by
  refine v_def D sc_wlots (fun y ds h => by rw [h.1]; rfl) fun fa cdv A outer s H E hr => ?_
  have Sc := sc_wlots

  refine ⟨_, (vs_one (v_ret (v_lc (own := [("own", 1)]) rfl Sc.nd (vi_seq (v_c C_lots_within (hr.mono (by omega)) (va_cons (v_c C_all_areas (hr.mono (by omega)) (va_cons (vv 0) va_nil)) va_nil))) (blkOk_by (by rfl)) (fun _ _ _ _ _ => (vg_name (i := 1) Sc.nd)) (fun _ _ _ _ _ => (vts_one (vt_val (v_c C_is_woven (hr.mono (by omega)) (va_cons (vv 0) (va_cons (vv 1) va_nil)))))) (fun _ _ _ _ _ => (vv 1))))), ?_⟩
  rintro ⟨m, r, d⟩ _ Q ⟨rfl, hd, hs, ht, hm⟩ q
  dsimp only at hd hs ht hm q ⊢
  simp only [wSeq, wNext, wSet, wRet, wDrop, wIfS, wIf, wVar, wC, wNil, wCons, wOp, wTest, wAnd, wOr, wNot, wAndV, wOrV, wNotV, wChain, wTup, wLst, wLstO, wCall, wCallU, wCallX, wCB, wIsi, oI, oI0, oB0, oEqS, oNeS, oIsB, oIsN, oCat, oCatT, oRep, oRepO, oRepT, oLen, oInt1, oAll, oAny, oTuple, oList, oListO, oIx, oIn, oInT, oEqT, oNeNil, oMaxL, oMinL, oMaxT, oMinT, oSortT, oSortI, oDictT, oTupleF, wMt, oApp, oExt, oPop, oPopAt, wFrom, wTo, wTupRg, wLstRg, wSortSetI, wSortSetP, wTGet, wTGetD, wTIn, wDGet, wDNot, wDPut, wDict1, wDictO, wSetIx, wOrL, wWeak, wPar2, wPar3, wRaise, wNever, gN, gT, gsCons, gsNil, wZip, wEnum, wSeqI, wRng1, wRng2, wCb, asV, asVs, asBl, asInt, as1, as2, as3, asSeq, asU, asM0, asO, asD, asDt, asLst, asNil, asNon, asSc, asZip, contL, contS, contT, contP, retD, endV, endU, endX, allV, slots0, scEq, isN, List.map_cons, List.map_nil, Option.map_some, List.getElem?_cons_zero, List.getElem?_cons_succ, List.length_cons, List.length_nil, List.cons_append, List.nil_append, List.set_cons_zero, List.set_cons_succ, Nat.zero_add, Nat.reduceAdd, Nat.reduceSub, List.replicate_succ, List.replicate_zero, Nat.reduceLeDiff, if_pos, if_true, if_false, Bool.false_eq_true, Nat.le_refl, ite_true, ite_false, true_and, and_true, Nat.sub_self, List.replicate, List.length_map]
  have hl : (lotsM m).length ≤ 100 := by
    unfold lotsM sortT
    rw [List.length_mergeSort]
    exact (allc_facts hm hm).1
  refine lcF (xs := lotsM m) tI (wovM r) tI (fun Q' q' => ?_) (by omega) (fun l hlm A B h1 h2 => ?_) q
  · simp only [wSeq, wNext, wSet, wRet, wDrop, wIfS, wIf, wVar, wC, wNil, wCons, wOp, wTest, wAnd, wOr, wNot, wAndV, wOrV, wNotV, wChain, wTup, wLst, wLstO, wCall, wCallU, wCallX, wCB, wIsi, oI, oI0, oB0, oEqS, oNeS, oIsB, oIsN, oCat, oCatT, oRep, oRepO, oRepT, oLen, oInt1, oAll, oAny, oTuple, oList, oListO, oIx, oIn, oInT, oEqT, oNeNil, oMaxL, oMinL, oMaxT, oMinT, oSortT, oSortI, oDictT, oTupleF, wMt, oApp, oExt, oPop, oPopAt, wFrom, wTo, wTupRg, wLstRg, wSortSetI, wSortSetP, wTGet, wTGetD, wTIn, wDGet, wDNot, wDPut, wDict1, wDictO, wSetIx, wOrL, wWeak, wPar2, wPar3, wRaise, wNever, gN, gT, gsCons, gsNil, wZip, wEnum, wSeqI, wRng1, wRng2, wCb, asV, asVs, asBl, asInt, as1, as2, as3, asSeq, asU, asM0, asO, asD, asDt, asLst, asNil, asNon, asSc, asZip, contL, contS, contT, contP, retD, endV, endU, endX, allV, slots0, scEq, isN, List.map_cons, List.map_nil, Option.map_some, List.getElem?_cons_zero, List.getElem?_cons_succ, List.length_cons, List.length_nil, List.cons_append, List.nil_append, List.set_cons_zero, List.set_cons_succ, Nat.zero_add, Nat.reduceAdd, Nat.reduceSub, List.replicate_succ, List.replicate_zero, Nat.reduceLeDiff, if_pos, if_true, if_false, Bool.false_eq_true, Nat.le_refl, ite_true, ite_false, true_and, and_true, Nat.sub_self, List.replicate, List.length_map]
    exact ⟨(m, r, d), ⟨rfl, hd, hs, ht, by omega⟩, m, ⟨rfl, ht.pos, hm⟩, q'⟩
  · simp only [wSeq, wNext, wSet, wRet, wDrop, wIfS, wIf, wVar, wC, wNil, wCons, wOp, wTest, wAnd, wOr, wNot, wAndV, wOrV, wNotV, wChain, wTup, wLst, wLstO, wCall, wCallU, wCallX, wCB, wIsi, oI, oI0, oB0, oEqS, oNeS, oIsB, oIsN, oCat, oCatT, oRep, oRepO, oRepT, oLen, oInt1, oAll, oAny, oTuple, oList, oListO, oIx, oIn, oInT, oEqT, oNeNil, oMaxL, oMinL, oMaxT, oMinT, oSortT, oSortI, oDictT, oTupleF, wMt, oApp, oExt, oPop, oPopAt, wFrom, wTo, wTupRg, wLstRg, wSortSetI, wSortSetP, wTGet, wTGetD, wTIn, wDGet, wDNot, wDPut, wDict1, wDictO, wSetIx, wOrL, wWeak, wPar2, wPar3, wRaise, wNever, gN, gT, gsCons, gsNil, wZip, wEnum, wSeqI, wRng1, wRng2, wCb, asV, asVs, asBl, asInt, as1, as2, as3, asSeq, asU, asM0, asO, asD, asDt, asLst, asNil, asNon, asSc, asZip, contL, contS, contT, contP, retD, endV, endU, endX, allV, slots0, scEq, isN, List.map_cons, List.map_nil, Option.map_some, List.getElem?_cons_zero, List.getElem?_cons_succ, List.length_cons, List.length_nil, List.cons_append, List.nil_append, List.set_cons_zero, List.set_cons_succ, Nat.zero_add, Nat.reduceAdd, Nat.reduceSub, List.replicate_succ, List.replicate_zero, Nat.reduceLeDiff, if_pos, if_true, if_false, Bool.false_eq_true, Nat.le_refl, ite_true, ite_false, true_and, and_true, Nat.sub_self, List.replicate, List.length_map, wipeD]
    have h7 := ((allc_facts hm hm).2.1 l (mem_lotsM.mp hlm)).2
    refine ⟨(r, l, d), ⟨rfl, hd, hs, h7⟩, ?_⟩
    dsimp only
    cases hb : wovM r l with
    | true => exact (if_pos rfl).mpr (h1 hb)
    | false => exact (if_neg Bool.false_ne_true).mpr (h2 hb)

end
end VL
set_option Elab.async false
set_option linter.all false
set_option maxRecDepth 100000
set_option maxHeartbeats 4000000
/-! VL22: leads shown. -/
namespace VL
open PySem PySem.Spec PyProof.Rows L2 VLC
section
variable {P : Program} {w : World} {K : PySem.W.Frag} {mg : Str → Option Value} {base : Heap}
abbrev s_shown : Stmt := topS 17
theorem sc_shown : FnScope ["rule", "lot", "one", "other", "found", "own", "picks"] ["rule", "lot", "one", "other"] (defScope s_shown) := ⟨rfl, rfl, rfl, by decide +kernel, rfl, by decide +kernel, by decide +kernel⟩

abbrev s_isshown : Stmt := topS 18
theorem sc_isshown : FnScope ["rule", "lot", "one", "other", "thing"] ["rule", "lot", "one", "other", "thing"] (defScope s_isshown) := ⟨rfl, rfl, rfl, by decide +kernel, rfl, by decide +kernel, by decide +kernel⟩


/-- the class CanNot -/
structure CanN (K : PySem.W.Frag) (mg : Str → Option Value) (C : Addr) : Prop where
  gC : mg "CanNot" = some (.ref C)
  kC : PySem.W.keepIn K (.ref C) = true
  q : PySem.W.excIn K C [.type "ValueError", .type "Exception", .type "BaseException", .type "object"] "ValueError.__new__" = true
  su : PySem.W.subIn K (.ref C) (.type "BaseException") = some true
  ty : PySem.W.typeIn K (.ref C) = some (.type "type")
def shownM (r : Rl) (lot : List Int) (one other : Int) : List (List Int) := ((rowsM r lot).filter fun x => decide (one ∈ x.1) && (decide (other ∈ x.2) && !decide (one = other))).map (·.1)
def leastM : List (List Int) → Option Dt
  | [] => none
  | n :: nr => some (tI (minT n nr))
abbrev spShown (C : Addr) : Sp := spX C (fnX (fun (x : Rl × List Int × Int × Int × Dt) ds => ds = [x.2.2.2.2, tI x.2.1, .int x.2.2.1, .int x.2.2.2.1] ∧ RuleD x.1 x.2.2.2.2 ∧ SmallR x.1 ∧ x.2.2.1 ∈ x.2.1 ∧ x.2.2.2.1 ∈ x.2.1) fun x => leastM (shownM x.1 x.2.1 x.2.2.1 x.2.2.2.1))
theorem ok_shown {C : Addr} (D : Df K mg "lead_shown" s_shown ["rule", "lot", "one", "other"]) (B : Bs mg) (N : CanN K mg C) (C_sure_areas : Cl P w K mg base CX0 1 "sure_areas" ["lot", "areas"] (spV spSure)) (C_rows_within : Cl P w K mg base CX0 5 "rows_within" ["rule", "lot"] (spV spRows)) :
    Cl P w K mg base (L2.CX P w) 6 "lead_shown" ["rule", "lot", "one", "other"] (spShown C) := by
  refine v_defX D sc_shown (fun y ds h => by rw [h.1]; rfl) fun fa cdv A outer s H E hr => ?_
  have Sc := sc_shown

  refine ⟨_, (vs_cons (v_expr (v_c C_sure_areas (hr.mono (by omega)) (va_cons (vv 1) (va_cons (v_tup (va_cons (vv 2) (va_cons (vv 3) va_nil))) va_nil))))
    (vs_cons (v_setLc (own := [("own", 5), ("picks", 6)]) (i := 4) rfl Sc.nd (sw_true rfl rfl rfl (by decide +kernel)) (vi_seq (v_c C_rows_within (hr.mono (by omega)) (va_cons (vv 0) (va_cons (vv 1) va_nil)))) (blkOk_by (by rfl)) (fun _ _ _ _ _ => (vg_tup (n := 2) rfl (vgs_cons (vg_name (i := 5) Sc.nd) (vgs_cons (vg_name (i := 6) Sc.nd) vgs_nil)))) (fun _ _ _ _ _ => (vts_one (VW.vt (vw_and (vt_cmp vo_in (vv 2) (vv 5) (by rfl)) (vw_and (vt_cmp vo_in (vv 3) (vv 6) (by rfl)) (vw_and1 (vt_cmp vo_neS (vv 2) (vv 3) (by rfl)))))))) (fun _ _ _ _ _ => (vv 5)))
    (vs_cons (v_ifS (vt_cmp vo_eqS (v_b vc_len B.len (va_cons (vv 4) va_nil)) v_int (by rfl)) (vs_one (v_raise0 rfl (takes_of rfl rfl rfl rfl) (fun _ _ h => h) PySem.F.excBase_ValueError N.q N.gC N.kC (raises_own N.su N.ty))) vs_nil)
    (vs_one (v_ret (v_b (vc_minT rfl (hu2 hr)) B.min (va_cons (vv 4) va_nil))))))), ?_⟩
  rintro ⟨r, lot, one, other, d⟩ _ Q R ⟨rfl, hd, hs, h1, h2⟩ q1 q2
  dsimp only at hd hs h1 h2 q1 q2 ⊢
  simp only [wSeq, wNext, wSet, wRet, wDrop, wIfS, wIf, wVar, wC, wNil, wCons, wOp, wTest, wAnd, wOr, wNot, wAndV, wOrV, wNotV, wChain, wTup, wLst, wLstO, wCall, wCallU, wCallX, wCB, wIsi, oI, oI0, oB0, oEqS, oNeS, oIsB, oIsN, oCat, oCatT, oRep, oRepO, oRepT, oLen, oInt1, oAll, oAny, oTuple, oList, oListO, oIx, oIn, oInT, oEqT, oNeNil, oMaxL, oMinL, oMaxT, oMinT, oSortT, oSortI, oDictT, oTupleF, wMt, oApp, oExt, oPop, oPopAt, wFrom, wTo, wTupRg, wLstRg, wSortSetI, wSortSetP, wTGet, wTGetD, wTIn, wDGet, wDNot, wDPut, wDict1, wDictO, wSetIx, wOrL, wWeak, wPar2, wPar3, wRaise, wNever, gN, gT, gsCons, gsNil, wZip, wEnum, wSeqI, wRng1, wRng2, wCb, asV, asVs, asBl, asInt, as1, as2, as3, asSeq, asU, asM0, asO, asD, asDt, asLst, asNil, asNon, asSc, asZip, contL, contS, contT, contP, retD, endV, endU, endX, allV, slots0, scEq, isN, List.map_cons, List.map_nil, Option.map_some, List.getElem?_cons_zero, List.getElem?_cons_succ, List.length_cons, List.length_nil, List.cons_append, List.nil_append, List.set_cons_zero, List.set_cons_succ, Nat.zero_add, Nat.reduceAdd, Nat.reduceSub, List.replicate_succ, List.replicate_zero, Nat.reduceLeDiff, if_pos, if_true, if_false, Bool.false_eq_true, Nat.le_refl, ite_true, ite_false, true_and, and_true, Nat.sub_self, List.replicate, List.length_map]
  refine ⟨(lot, [one, other]), ⟨rfl, fun a ha => by simp at ha; rcases ha with rfl | rfl; exact h1; exact h2⟩, ?_⟩
  have S2 := rows_small (lot := lot) hs
  refine lcF (xs := rowsM r lot) prT (fun x => decide (one ∈ x.1) && (decide (other ∈ x.2) && !decide (one = other))) (fun x => tI x.1) (fun Q' q' => ?_) (by have := S2.len; omega) (fun x hx A B h3 h4 => ?_) ?_
  · simp only [wSeq, wNext, wSet, wRet, wDrop, wIfS, wIf, wVar, wC, wNil, wCons, wOp, wTest, wAnd, wOr, wNot, wAndV, wOrV, wNotV, wChain, wTup, wLst, wLstO, wCall, wCallU, wCallX, wCB, wIsi, oI, oI0, oB0, oEqS, oNeS, oIsB, oIsN, oCat, oCatT, oRep, oRepO, oRepT, oLen, oInt1, oAll, oAny, oTuple, oList, oListO, oIx, oIn, oInT, oEqT, oNeNil, oMaxL, oMinL, oMaxT, oMinT, oSortT, oSortI, oDictT, oTupleF, wMt, oApp, oExt, oPop, oPopAt, wFrom, wTo, wTupRg, wLstRg, wSortSetI, wSortSetP, wTGet, wTGetD, wTIn, wDGet, wDNot, wDPut, wDict1, wDictO, wSetIx, wOrL, wWeak, wPar2, wPar3, wRaise, wNever, gN, gT, gsCons, gsNil, wZip, wEnum, wSeqI, wRng1, wRng2, wCb, asV, asVs, asBl, asInt, as1, as2, as3, asSeq, asU, asM0, asO, asD, asDt, asLst, asNil, asNon, asSc, asZip, contL, contS, contT, contP, retD, endV, endU, endX, allV, slots0, scEq, isN, List.map_cons, List.map_nil, Option.map_some, List.getElem?_cons_zero, List.getElem?_cons_succ, List.length_cons, List.length_nil, List.cons_append, List.nil_append, List.set_cons_zero, List.set_cons_succ, Nat.zero_add, Nat.reduceAdd, Nat.reduceSub, List.replicate_succ, List.replicate_zero, Nat.reduceLeDiff, if_pos, if_true, if_false, Bool.false_eq_true, Nat.le_refl, ite_true, ite_false, true_and, and_true, Nat.sub_self, List.replicate, List.length_map]
    exact ⟨(r, lot, d, tI lot), ⟨rfl, hd, hs, .inl rfl⟩, q'⟩
  · simp only [wSeq, wNext, wSet, wRet, wDrop, wIfS, wIf, wVar, wC, wNil, wCons, wOp, wTest, wAnd, wOr, wNot, wAndV, wOrV, wNotV, wChain, wTup, wLst, wLstO, wCall, wCallU, wCallX, wCB, wIsi, oI, oI0, oB0, oEqS, oNeS, oIsB, oIsN, oCat, oCatT, oRep, oRepO, oRepT, oLen, oInt1, oAll, oAny, oTuple, oList, oListO, oIx, oIn, oInT, oEqT, oNeNil, oMaxL, oMinL, oMaxT, oMinT, oSortT, oSortI, oDictT, oTupleF, wMt, oApp, oExt, oPop, oPopAt, wFrom, wTo, wTupRg, wLstRg, wSortSetI, wSortSetP, wTGet, wTGetD, wTIn, wDGet, wDNot, wDPut, wDict1, wDictO, wSetIx, wOrL, wWeak, wPar2, wPar3, wRaise, wNever, gN, gT, gsCons, gsNil, wZip, wEnum, wSeqI, wRng1, wRng2, wCb, asV, asVs, asBl, asInt, as1, as2, as3, asSeq, asU, asM0, asO, asD, asDt, asLst, asNil, asNon, asSc, asZip, contL, contS, contT, contP, retD, endV, endU, endX, allV, slots0, scEq, isN, List.map_cons, List.map_nil, Option.map_some, List.getElem?_cons_zero, List.getElem?_cons_succ, List.length_cons, List.length_nil, List.cons_append, List.nil_append, List.set_cons_zero, List.set_cons_succ, Nat.zero_add, Nat.reduceAdd, Nat.reduceSub, List.replicate_succ, List.replicate_zero, Nat.reduceLeDiff, if_pos, if_true, if_false, Bool.false_eq_true, Nat.le_refl, ite_true, ite_false, true_and, and_true, Nat.sub_self, List.replicate, List.length_map, wipeD, prT]
    refine ⟨x.1, rfl, ?_⟩
    cases c1 : decide (one ∈ x.1) with
    | false =>
      rw [c1, Bool.false_and] at h4
      exact (if_neg Bool.false_ne_true).mpr (h4 rfl)
    | true =>
      rw [c1, Bool.true_and] at h3 h4
      refine (if_pos rfl).mpr ⟨x.2, rfl, ?_⟩
      cases c2 : decide (other ∈ x.2) with
      | false =>
        rw [c2, Bool.false_and] at h4
        exact (if_neg Bool.false_ne_true).mpr (h4 rfl)
      | true =>
        rw [c2, Bool.true_and] at h3 h4
        refine (if_pos rfl).mpr ?_
        cases c3 : !decide (one = other) with
        | false => exact (if_neg Bool.false_ne_true).mpr (h4 c3)
        | true => exact (if_pos rfl).mpr (h3 c3)
  · have e : ((rowsM r lot).filter fun x => decide (one ∈ x.1) && (decide (other ∈ x.2) && !decide (one = other))).map (fun x => tI x.1) = (shownM r lot one other).map tI := by unfold shownM; rw [List.map_map]; rfl
    rw [e]
    simp only [wSeq, wNext, wSet, wRet, wDrop, wIfS, wIf, wVar, wC, wNil, wCons, wOp, wTest, wAnd, wOr, wNot, wAndV, wOrV, wNotV, wChain, wTup, wLst, wLstO, wCall, wCallU, wCallX, wCB, wIsi, oI, oI0, oB0, oEqS, oNeS, oIsB, oIsN, oCat, oCatT, oRep, oRepO, oRepT, oLen, oInt1, oAll, oAny, oTuple, oList, oListO, oIx, oIn, oInT, oEqT, oNeNil, oMaxL, oMinL, oMaxT, oMinT, oSortT, oSortI, oDictT, oTupleF, wMt, oApp, oExt, oPop, oPopAt, wFrom, wTo, wTupRg, wLstRg, wSortSetI, wSortSetP, wTGet, wTGetD, wTIn, wDGet, wDNot, wDPut, wDict1, wDictO, wSetIx, wOrL, wWeak, wPar2, wPar3, wRaise, wNever, gN, gT, gsCons, gsNil, wZip, wEnum, wSeqI, wRng1, wRng2, wCb, asV, asVs, asBl, asInt, as1, as2, as3, asSeq, asU, asM0, asO, asD, asDt, asLst, asNil, asNon, asSc, asZip, contL, contS, contT, contP, retD, endV, endU, endX, allV, slots0, scEq, isN, List.map_cons, List.map_nil, Option.map_some, List.getElem?_cons_zero, List.getElem?_cons_succ, List.length_cons, List.length_nil, List.cons_append, List.nil_append, List.set_cons_zero, List.set_cons_succ, Nat.zero_add, Nat.reduceAdd, Nat.reduceSub, List.replicate_succ, List.replicate_zero, Nat.reduceLeDiff, if_pos, if_true, if_false, Bool.false_eq_true, Nat.le_refl, ite_true, ite_false, true_and, and_true, Nat.sub_self, List.replicate, List.length_map]
    cases hsh : shownM r lot one other with
    | nil =>
      rw [hsh] at q2
      refine (if_pos (by simp)).mpr (q2 rfl)
    | cons n nr =>
      rw [hsh] at q1
      refine (if_neg (by simp; omega)).mpr ⟨n, nr, rfl, q1 _ rfl⟩
def getR (rows : Rl) (t : List Int) : List Int := ((rows.find? fun x => decide (x.1 = t)).map (·.2)).getD []
def maxM : List Int → Int
  | [] => 0
  | n :: ns => ns.foldl max n
def isShM (r : Rl) (lot : List Int) (one other : Int) (t : List Int) : Bool :=
  (isSetM t (maxM lot + 1) && decide (0 < (t.length : Int))) && (!decide (one = other) && (decide (one ∈ t) && decide (other ∈ getR (rowsM r lot) t)))
def rowsK (rows : Rl) : List (List Int × Dt) := rows.map fun x => (x.1, tI x.2)
theorem rowsK_prD (rows : Rl) : (rowsK rows).map prD = rows.map prT := by
  unfold rowsK
  rw [List.map_map]
  rfl
theorem rowsK_keys (rows : Rl) : (rowsK rows).map (·.1) = rows.map (·.1) := by
  unfold rowsK
  rw [List.map_map]
  rfl
theorem rowsK_get (rows : Rl) (t : List Int) : (getT (rowsK rows) t).getD (.tup []) = tI (getR rows t) := by
  unfold getT getR rowsK
  induction rows with
  | nil => rfl
  | cons x rows ih =>
    rw [List.map_cons, List.find?_cons, List.find?_cons]
    cases h : decide (x.1 = t) with
    | true => rfl
    | false => exact ih
theorem rowsK_some (rows : Rl) (t : List Int) : getT (rowsK rows) t = ((rows.find? fun x => decide (x.1 = t)).map fun x => tI x.2) := by
  unfold getT rowsK
  induction rows with
  | nil => rfl
  | cons x rows ih =>
    rw [List.map_cons, List.find?_cons, List.find?_cons]
    cases h : decide (x.1 = t) with
    | true => rfl
    | false => exact ih
def KeysNd (r : Rl) : Prop := (r.map (·.1)).Nodup
theorem rows_nd {r : Rl} {lot : List Int} (h : KeysNd r) : KeysNd (rowsM r lot) := by
  unfold KeysNd rowsM at *
  exact h.sublist (List.Sublist.map _ (List.filter_sublist))
abbrev spIsShown : Spec := fnS (fun (x : Rl × List Int × Int × Int × List Int × Dt) ds => ds = [x.2.2.2.2.2, tI x.2.1, .int x.2.2.1, .int x.2.2.2.1, tI x.2.2.2.2.1] ∧ RuleD x.1 x.2.2.2.2.2 ∧ SmallR x.1 ∧ KeysNd x.1 ∧ x.2.1 ≠ [] ∧ x.2.2.2.2.1.length ≤ 100)
  fun x => .bl (isShM x.1 x.2.1 x.2.2.1 x.2.2.2.1 x.2.2.2.2.1)
theorem ok_isshown (D : Df K mg "is_lead_shown" s_isshown ["rule", "lot", "one", "other", "thing"]) (B : Bs mg) (C_is_lot : Cl P w K mg base CX0 3 "is_lot" ["thing", "m"] (spV spLot)) (C_rows_within : Cl P w K mg base CX0 5 "rows_within" ["rule", "lot"] (spV spRows)) :
    Cl P w K mg base CX0 6 "is_lead_shown" ["rule", "lot", "one", "other", "thing"] (spV spIsShown) := by
  refine v_def D sc_isshown (fun y ds h => by rw [h.1]; rfl) fun fa cdv A outer s H E hr => ?_
  have Sc := sc_isshown

  refine ⟨_, (vs_cons (v_ifS (VW.vt (vw_or (vt_not (vt_val (v_c C_is_lot (hr.mono (by omega)) (va_cons (vv 4) (va_cons (v_op vo_add (v_b (vc_maxT rfl (hu2 hr)) B.max (va_cons (vv 1) va_nil)) v_int) va_nil))))) (vw_or (vt_cmp vo_eqS (vv 2) (vv 3) (by rfl)) (vw_or1 (vt_cmp vo_notIn (vv 2) (vv 4) (by rfl)))))) (vs_one (v_ret v_bl)) vs_nil)
    (vs_one (v_ret (v_cmp vo_in (vv 3) (v_tgetD (hu1 hr) (v_ty (vc_dictT rfl (hu4 hr)) B.dict (va_cons (v_c C_rows_within (hr.mono (by omega)) (va_cons (vv 0) (va_cons (vv 1) va_nil))) va_nil)) (vv 4) (v_tup va_nil)) (by rfl))))), ?_⟩
  rintro ⟨r, lot, one, other, t, d⟩ _ Q ⟨rfl, hd, hs, hn, hne, hz⟩ q
  dsimp only at hd hs hn hne hz q ⊢
  cases lot with
  | nil => exact absurd rfl hne
  | cons h lot =>
    simp only [wSeq, wNext, wSet, wRet, wDrop, wIfS, wIf, wVar, wC, wNil, wCons, wOp, wTest, wAnd, wOr, wNot, wAndV, wOrV, wNotV, wChain, wTup, wLst, wLstO, wCall, wCallU, wCallX, wCB, wIsi, oI, oI0, oB0, oEqS, oNeS, oIsB, oIsN, oCat, oCatT, oRep, oRepO, oRepT, oLen, oInt1, oAll, oAny, oTuple, oList, oListO, oIx, oIn, oInT, oEqT, oNeNil, oMaxL, oMinL, oMaxT, oMinT, oSortT, oSortI, oDictT, oTupleF, wMt, oApp, oExt, oPop, oPopAt, wFrom, wTo, wTupRg, wLstRg, wSortSetI, wSortSetP, wTGet, wTGetD, wTIn, wDGet, wDNot, wDPut, wDict1, wDictO, wSetIx, wOrL, wWeak, wPar2, wPar3, wRaise, wNever, gN, gT, gsCons, gsNil, wZip, wEnum, wSeqI, wRng1, wRng2, wCb, asV, asVs, asBl, asInt, as1, as2, as3, asSeq, asU, asM0, asO, asD, asDt, asLst, asNil, asNon, asSc, asZip, contL, contS, contT, contP, retD, endV, endU, endX, allV, slots0, scEq, isN, List.map_cons, List.map_nil, Option.map_some, List.getElem?_cons_zero, List.getElem?_cons_succ, List.length_cons, List.length_nil, List.cons_append, List.nil_append, List.set_cons_zero, List.set_cons_succ, Nat.zero_add, Nat.reduceAdd, Nat.reduceSub, List.replicate_succ, List.replicate_zero, Nat.reduceLeDiff, if_pos, if_true, if_false, Bool.false_eq_true, Nat.le_refl, ite_true, ite_false, true_and, and_true, Nat.sub_self, List.replicate, List.length_map]
    refine ⟨h, lot, rfl, (t, lot.foldl max h + 1), ⟨rfl, hz⟩, ?_⟩
    dsimp only
    unfold isShM at q
    have em : maxM (h :: lot) = lot.foldl max h := rfl
    rw [em] at q
    cases c1 : (isSetM t (lot.foldl max h + 1) && decide (0 < (t.length : Int))) with
    | false =>
      rw [c1, Bool.false_and] at q
      exact (if_pos rfl).mpr q
    | true =>
      rw [c1, Bool.true_and] at q
      refine (if_neg (by simp)).mpr ?_
      cases c2 : decide (one = other) with
      | true =>
        rw [c2, Bool.not_true, Bool.false_and] at q
        exact (if_pos rfl).mpr q
      | false =>
        rw [c2, Bool.not_false, Bool.true_and] at q
        refine (if_neg (by simp)).mpr ⟨t, rfl, ?_⟩
        cases c3 : decide (one ∈ t) with
        | false =>
          rw [c3, Bool.false_and] at q
          exact (if_pos rfl).mpr q
        | true =>
          rw [c3, Bool.true_and] at q
          refine (if_neg (by simp)).mpr ?_
          refine ⟨(r, h :: lot, d, tI (h :: lot)), ⟨rfl, hd, hs, .inl rfl⟩, ?_⟩
          dsimp only
          refine ⟨rowsK (rowsM r (h :: lot)), (rowsK_prD _).symm, by rw [rowsK_keys]; exact rows_nd hn, by unfold rowsK; rw [List.length_map]; have := (rows_small (lot := h :: lot) hs).len; omega, t, rfl, ?_⟩
          rw [rowsK_get]
          exact ⟨_, rfl, q⟩

end
end VL
set_option Elab.async false
set_option linter.all false
set_option maxRecDepth 100000
set_option maxHeartbeats 4000000
/-! VL23: weaves. -/
namespace VL
open PySem PySem.Spec PyProof.Rows L2 VLC
section
variable {P : Program} {w : World} {K : PySem.W.Frag} {mg : Str → Option Value} {base : Heap}
abbrev s_weave : Stmt := topS 25
theorem sc_weave : FnScope ["rule", "lot", "whole", "pairs", "begin", "found", "left", "here", "one", "other", "area"] ["rule", "lot"] (defScope s_weave) := ⟨rfl, rfl, rfl, by decide +kernel, rfl, by decide +kernel, by decide +kernel⟩

abbrev s_isweave : Stmt := topS 26
theorem sc_isweave : FnScope ["rule", "lot", "thing", "rows", "pairs", "area", "own", "one"] ["rule", "lot", "thing"] (defScope s_isweave) := ⟨rfl, rfl, rfl, by decide +kernel, rfl, by decide +kernel, by decide +kernel⟩


/-! a callee of which a bool comes back may read owned lists -/
def asD1 (r : Rs) (M : Me) : Option Dt := match r with
  | .v d => some d
  | .o n => match M[n]? with | some (.lst ds) => some (.lst ds) | _ => none
def allM (M : Me) : List Rs → Option (List Dt)
  | [] => some []
  | r :: rs => (asD1 r M).bind fun d => (allM M rs).map (d :: ·)
@[reducible] def asVM (rs : List Rs) (M : Me) (k : List Dt → Prop) : Prop := match allM M rs with | some ds => k ds | none => False
theorem asVM_ok {rs : List Rs} {M : Me} {k : List Dt → Prop} (q : asVM rs M k) : ∃ ds, allM M rs = some ds ∧ k ds := by
  unfold asVM at q
  split at q
  · exact ⟨_, by assumption, q⟩
  · exact q.elim
theorem asVM_mono {rs : List Rs} {M : Me} {k k' : List Dt → Prop} (h : ∀ b, k b → k' b) (q : asVM rs M k) : asVM rs M k' := by
  unfold asVM at q ⊢
  split at q
  · exact h _ q
  · exact q
theorem allM_den {C : Fr} {ad : Nat → Addr} {δ : Sl} {M : Me} {τ : List (V × Rs)} {σ : St} {H : Hp} (r : RelA C ad δ M τ σ H) : ∀ {vs : List V} {rs : List Rs} {ds : List Dt}, allM M rs = some ds → vs.length = rs.length → (∀ p ∈ vs.zip rs, DenR ad M.length C.hid H p.1 p.2) → DenL C.hid H vs ds
  | [], [], ds, e, _, _ => by cases e; exact .nil
  | v :: vs, x :: rs, ds, e, hl, h => by
    unfold allM at e
    obtain ⟨d, h1, h2⟩ := Option.bind_eq_some_iff.mp e
    obtain ⟨es, h3, rfl⟩ := Option.map_eq_some_iff.mp h2
    refine .cons ?_ (allM_den r h3 (by simpa using hl) fun p hp => h p (by rw [List.zip_cons_cons]; exact List.mem_cons_of_mem _ hp))
    have hv : DenR ad M.length C.hid H v x := h (v, x) (by rw [List.zip_cons_cons]; exact List.mem_cons_self)
    have ext : Ext (avo ad M.length C.hid) C.hid H H := Ext.less1 fun b hb => .inr hb
    cases x with
    | v d' =>
      cases h1
      exact Den.mono ext hv
    | o n =>
      obtain ⟨hn, rfl⟩ := hv
      unfold asD1 at h1
      dsimp only at h1
      split at h1
      · rename_i ds' em
        cases h1
        obtain ⟨xs, e1, dl⟩ := r.mem n _ em
        exact .lst (r.disj n hn) e1 (dl.mono ext)
      · cases h1
  | [], _ :: _, _, _, hl, _ => by simp at hl
  | _ :: _, [], _, _, hl, _ => by simp at hl
def wCallB (S : Spec) (ws : WA) : WE := fun δ M Q => ws δ M fun rs M1 => asVM rs M1 fun ds => S ds fun d => ∃ b, d = .bl b ∧ Q (.v (.bl b)) M1
theorem v_cB {X : Cx} {e : Expr} {es : List Expr} {ws : WA} {pos : Pos} {k : Nat} {x : Str} {p : Pos} {ps : List Str} {α : Type} {pre : α → List Dt → Prop} {f : α → Dt} (C : Cl X.prog X.w X.K X.mg X.base CX0 k x ps (spV (fnS pre f))) (hr : Room k X.A) (ha : VA X (e :: es) ws) (hg : Gl X x := by rfl)
    (hdb : (x == ("__debug__" : Str)) = false := by decide) (hst : starEach (e :: es) X.env = (false, eval e X.env) :: starEach es X.env := by rfl) (hpl : (backTo pos (starEach es X.env)).any (·.1) = false := by rfl) : VE X (.Call (.Name x p) (e :: es) [] pos) (wCallB (fnS pre f) ws) := by
  obtain ⟨g, fd, F, hm, hk, hb⟩ := C.ex
  refine ⟨PE.imp (pe_call F hr hg hm hk hb .nil (E := E0) pass0 ha.pa hdb hst hpl) ?_, fun δ M Q Q' h q => ha.mono _ _ _ _ (fun rs M1 => asVM_mono fun ds => fnS_mono _ _ _ fun d ⟨b, e, q⟩ => ⟨b, e, h _ _ q⟩) q⟩
  rintro σ H Q ⟨C, δ, M, τ, rel, q⟩
  refine ⟨C, δ, M, τ, rel, ha.mono _ _ _ _ (fun rs M1 q vs H1 hl rel1 => ?_) q⟩
  obtain ⟨ds, e, q⟩ := asVM_ok q
  obtain ⟨ad, r1⟩ := _root_.id rel1
  rw [List.append_nil]
  refine ⟨C.hid, ds, allM_den r1 e hl fun p hp => r1.tmp p (List.mem_append_left _ hp), r1.trk, fnS_mono _ _ _ (fun d ⟨b, e, q⟩ v H' s dn => ?_) q⟩
  subst e
  cases dn
  exact q _ _ (Rel.val1 (r1.same s) (.bl b))
/-! is_weave -/
def wvPairs (lot : List Int) (ts : List (List Int)) : Prs := (lot.zip ts).flatMap fun x => (x.2.filter fun one => !decide (one = x.1)).map fun one => (one, x.1)
noncomputable def isWvM (r : Rl) (lot : List Int) (ts : List (List Int)) : Bool :=
  decide (2 ≤ lot.length) && (decide (ts.length = lot.length) && (ts.all (fun t => isSetM t (maxM lot + 1) && decide (0 < (t.length : Int))) && ((lot.zip ts).all (fun x => decide (x.1 ∈ getR (rowsM r lot) x.2)) && joinsM (wvPairs lot ts) lot)))
theorem isSetM_in {t : List Int} {m : Int} (h : isSetM t m = true) : ∀ a ∈ t, 0 ≤ a ∧ a < m := fun a ha => by
  unfold isSetM at h
  rw [Bool.and_eq_true, List.all_eq_true] at h
  have := h.1 _ (List.mem_map.mpr ⟨a, ha, rfl⟩)
  simpa using this
theorem foldl_max_le (ns : List Int) : ∀ (n b : Int), n ≤ b → (∀ a ∈ ns, a ≤ b) → ns.foldl max n ≤ b := by
  induction ns with
  | nil => intro n b h _; exact h
  | cons x ns ih =>
    intro n b h h2
    rw [List.foldl_cons]
    exact ih _ b (by have := h2 x List.mem_cons_self; omega) fun a ha => h2 a (List.mem_cons_of_mem _ ha)
theorem maxM_lt {lot : List Int} (h : In7 lot) : maxM lot < 7 := by
  cases lot with
  | nil => decide
  | cons n ns =>
    have := foldl_max_le ns n 6 (by have := h n List.mem_cons_self; omega) fun a ha => by have := h a (List.mem_cons_of_mem _ ha); omega
    show ns.foldl max n < 7
    omega
abbrev spIsWeave : Spec := fnS (fun (x : Rl × List Int × List (List Int) × Dt) ds => ds = [x.2.2.2, tI x.2.1, .tup (x.2.2.1.map tI)] ∧ RuleD x.1 x.2.2.2 ∧ SmallR x.1 ∧ KeysNd x.1 ∧ x.2.1 ≠ [] ∧ In7 x.2.1 ∧ x.2.1.length ≤ 7 ∧ x.2.2.1.length ≤ 100 ∧ (∀ t ∈ x.2.2.1, t.length ≤ 10))
  fun x => .bl (isWvM x.1 x.2.1 x.2.2.1)
theorem zipD_tI (lot : List Int) (ts : List (List Int)) : zipD (lot.map .int) (ts.map tI) = (lot.zip ts).map fun x => .tup [.int x.1, tI x.2] := by
  unfold zipD
  rw [List.zip_map, List.map_map]
  rfl
theorem wv_snoc (l : List (Int × List Int)) (x : Int × List Int) : ((l ++ [x]).flatMap fun x => (x.2.filter fun one => !decide (one = x.1)).map fun one => (one, x.1)) = (l.flatMap fun x => (x.2.filter fun one => !decide (one = x.1)).map fun one => (one, x.1)) ++ (x.2.filter fun one => !decide (one = x.1)).map fun one => (one, x.1) := by
  rw [List.flatMap_append]
  simp
theorem wv_len {l : List (Int × List Int)} (h : ∀ x ∈ l, x.2.length ≤ 10) : (l.flatMap fun x => (x.2.filter fun one => !decide (one = x.1)).map fun one => (one, x.1)).length ≤ 10 * l.length := by
  induction l with
  | nil => simp
  | cons x l ih =>
    rw [List.flatMap_cons, List.length_append, List.length_map, List.length_cons]
    have h1 := ih fun y hy => h y (List.mem_cons_of_mem _ hy)
    have h2 := List.length_filter_le (fun one => !decide (one = x.1)) x.2
    have h3 := h x List.mem_cons_self
    omega
theorem ok_isweave (D : Df K mg "is_weave" s_isweave ["rule", "lot", "thing"]) (B : Bs mg) (C_is_tuple_of : Cl P w K mg base CX0 1 "is_tuple_of" ["thing", "many"] (spV (fnS (fun (x : List Dt × Int) ds => ds = [.tup x.1, .int x.2]) fun x => .bl (decide ((x.1.length : Int) = x.2))))) (C_is_lot : Cl P w K mg base CX0 3 "is_lot" ["thing", "m"] (spV spLot)) (C_rows_within : Cl P w K mg base CX0 5 "rows_within" ["rule", "lot"] (spV spRows)) (C_joins_all : Cl P w K mg base CX0 2 "joins_all" ["pairs", "lot"] (spV spJoins)) :
    Cl P w K mg base CX0 6 "is_weave" ["rule", "lot", "thing"] (spV spIsWeave) := by
  refine v_def D sc_isweave (fun y ds h => by rw [h.1]; rfl) fun fa cdv A outer s H E hr => ?_
  have Sc := sc_isweave

  refine ⟨_, (vs_cons (v_ifS (VW.vt (vw_or (vt_cmp vo_lt (v_b vc_len B.len (va_cons (vv 1) va_nil)) v_int (by rfl)) (vw_or (vt_not (vt_val (v_c C_is_tuple_of (hr.mono (by omega)) (va_cons (vv 2) (va_cons (v_b vc_len B.len (va_cons (vv 1) va_nil)) va_nil))))) (vw_or1 (vt_not (vt_val (v_b (vc_all rfl) B.all (va_cons (v_lc (own := [("own", 6)]) rfl Sc.nd (vi_seq (vv 2)) (blkOk_by (by rfl)) (fun _ _ _ _ _ => (vg_name (i := 6) Sc.nd)) (fun _ _ _ _ _ => vts_nil) (fun _ _ _ _ _ => (v_c C_is_lot (hr.mono (by omega)) (va_cons (vv 6) (va_cons (v_op vo_add (v_b (vc_maxT rfl (hu2 hr)) B.max (va_cons (vv 1) va_nil)) v_int) va_nil))))) va_nil)))))))) (vs_one (v_ret v_bl)) vs_nil)
    (vs_cons (v_par2 (i := 3) (j := 4) rfl Sc.nd (va_cons (v_ty (vc_dictT rfl (hu4 hr)) B.dict (va_cons (v_c C_rows_within (hr.mono (by omega)) (va_cons (vv 0) (va_cons (vv 1) va_nil))) va_nil)) (va_cons (v_lstO va_nil) va_nil)))
    (vs_cons (v_for rfl (vi_zip B.zip (va_cons (vv 1) (va_cons (vv 2) va_nil))) (vg_tup (n := 2) rfl (vgs_cons (vg_name (i := 5) Sc.nd) (vgs_cons (vg_name (i := 6) Sc.nd) vgs_nil))) (vs_cons (v_ifS (vt_cmp vo_notIn (vv 5) (v_tgetD (hu1 hr) (vv 3) (vv 6) (v_tup va_nil)) (by rfl)) (vs_one (v_ret v_bl)) vs_nil)
    (vs_one (v_expr (v_mt vm_extend PySem.F.plainAttrs_list PySem.F.slot_list_extend PySem.F.type_list_extend (vv 4) (va_cons (v_lc (own := [("one", 7)]) rfl Sc.nd (vi_seq (vv 6)) (blkOk_by (by rfl)) (fun _ _ _ _ _ => (vg_name (i := 7) Sc.nd)) (fun _ _ _ _ _ => (vts_one (vt_cmp vo_neS (vv 7) (vv 5) (by rfl)))) (fun _ _ _ _ _ => (v_tup (va_cons (vv 7) (va_cons (vv 5) va_nil))))) va_nil))))) PassesOwn.never)
    (vs_one (v_ret (v_cB C_joins_all (hr.mono (by omega)) (va_cons (vv 4) (va_cons (vv 1) va_nil)))))))), ?_⟩
  rintro ⟨r, lot, ts, d⟩ _ Q ⟨rfl, hd, hs, hn, hne, h7, hl7, hz, ht⟩ q
  dsimp only at hd hs hn hne h7 hl7 hz ht q ⊢
  have S2 := rows_small (lot := lot) hs
  simp only [wSeq, wNext, wSet, wRet, wDrop, wIfS, wIf, wVar, wC, wNil, wCons, wOp, wTest, wAnd, wOr, wNot, wAndV, wOrV, wNotV, wChain, wTup, wLst, wLstO, wCall, wCallU, wCallX, wCB, wIsi, oI, oI0, oB0, oEqS, oNeS, oIsB, oIsN, oCat, oCatT, oRep, oRepO, oRepT, oLen, oInt1, oAll, oAny, oTuple, oList, oListO, oIx, oIn, oInT, oEqT, oNeNil, oMaxL, oMinL, oMaxT, oMinT, oSortT, oSortI, oDictT, oTupleF, wMt, oApp, oExt, oPop, oPopAt, wFrom, wTo, wTupRg, wLstRg, wSortSetI, wSortSetP, wTGet, wTGetD, wTIn, wDGet, wDNot, wDPut, wDict1, wDictO, wSetIx, wOrL, wWeak, wPar2, wPar3, wRaise, wNever, gN, gT, gsCons, gsNil, wZip, wEnum, wSeqI, wRng1, wRng2, wCb, asV, asVs, asBl, asInt, as1, as2, as3, asSeq, asU, asM0, asO, asD, asDt, asLst, asNil, asNon, asSc, asZip, contL, contS, contT, contP, retD, endV, endU, endX, allV, slots0, scEq, isN, List.map_cons, List.map_nil, Option.map_some, List.getElem?_cons_zero, List.getElem?_cons_succ, List.length_cons, List.length_nil, List.cons_append, List.nil_append, List.set_cons_zero, List.set_cons_succ, Nat.zero_add, Nat.reduceAdd, Nat.reduceSub, List.replicate_succ, List.replicate_zero, Nat.reduceLeDiff, if_pos, if_true, if_false, Bool.false_eq_true, Nat.le_refl, ite_true, ite_false, true_and, and_true, Nat.sub_self, List.replicate, List.length_map]
  unfold isWvM at q
  cases c0 : decide ((lot.length : Int) < 2) with
  | true =>
    have c0' : decide (2 ≤ lot.length) = false := decide_eq_false (by have := of_decide_eq_true c0; omega)
    rw [c0', Bool.false_and] at q
    exact (if_pos rfl).mpr q
  | false =>
    have c0' : decide (2 ≤ lot.length) = true := decide_eq_true (by have := of_decide_eq_false c0; omega)
    rw [c0', Bool.true_and] at q
    refine (if_neg Bool.false_ne_true).mpr ?_
    refine ⟨(ts.map tI, (lot.length : Int)), rfl, ?_⟩
    simp only [wSeq, wNext, wSet, wRet, wDrop, wIfS, wIf, wVar, wC, wNil, wCons, wOp, wTest, wAnd, wOr, wNot, wAndV, wOrV, wNotV, wChain, wTup, wLst, wLstO, wCall, wCallU, wCallX, wCB, wIsi, oI, oI0, oB0, oEqS, oNeS, oIsB, oIsN, oCat, oCatT, oRep, oRepO, oRepT, oLen, oInt1, oAll, oAny, oTuple, oList, oListO, oIx, oIn, oInT, oEqT, oNeNil, oMaxL, oMinL, oMaxT, oMinT, oSortT, oSortI, oDictT, oTupleF, wMt, oApp, oExt, oPop, oPopAt, wFrom, wTo, wTupRg, wLstRg, wSortSetI, wSortSetP, wTGet, wTGetD, wTIn, wDGet, wDNot, wDPut, wDict1, wDictO, wSetIx, wOrL, wWeak, wPar2, wPar3, wRaise, wNever, gN, gT, gsCons, gsNil, wZip, wEnum, wSeqI, wRng1, wRng2, wCb, asV, asVs, asBl, asInt, as1, as2, as3, asSeq, asU, asM0, asO, asD, asDt, asLst, asNil, asNon, asSc, asZip, contL, contS, contT, contP, retD, endV, endU, endX, allV, slots0, scEq, isN, List.map_cons, List.map_nil, Option.map_some, List.getElem?_cons_zero, List.getElem?_cons_succ, List.length_cons, List.length_nil, List.cons_append, List.nil_append, List.set_cons_zero, List.set_cons_succ, Nat.zero_add, Nat.reduceAdd, Nat.reduceSub, List.replicate_succ, List.replicate_zero, Nat.reduceLeDiff, if_pos, if_true, if_false, Bool.false_eq_true, Nat.le_refl, ite_true, ite_false, true_and, and_true, Nat.sub_self, List.replicate, List.length_map]
    cases c1 : decide (ts.length = lot.length) with
    | false =>
      rw [c1, Bool.false_and] at q
      have c1' : ¬ ((ts.length : Int) = (lot.length : Int)) := by have := of_decide_eq_false c1; omega
      rw [decide_eq_false c1']
      exact (if_pos rfl).mpr q
    | true =>
      rw [c1, Bool.true_and] at q
      have c1n := of_decide_eq_true c1
      have c1' : ((ts.length : Int) = (lot.length : Int)) := by omega
      rw [decide_eq_true c1']
      refine (if_neg (by simp)).mpr ?_
      refine lcM (xs := ts) tI (fun t => .bl (isSetM t (maxM lot + 1) && decide (0 < (t.length : Int)))) (fun Q' q' => q') (by omega) (fun t htm A h => ?_) ?_
      · have := ht t htm
        simp only [wSeq, wNext, wSet, wRet, wDrop, wIfS, wIf, wVar, wC, wNil, wCons, wOp, wTest, wAnd, wOr, wNot, wAndV, wOrV, wNotV, wChain, wTup, wLst, wLstO, wCall, wCallU, wCallX, wCB, wIsi, oI, oI0, oB0, oEqS, oNeS, oIsB, oIsN, oCat, oCatT, oRep, oRepO, oRepT, oLen, oInt1, oAll, oAny, oTuple, oList, oListO, oIx, oIn, oInT, oEqT, oNeNil, oMaxL, oMinL, oMaxT, oMinT, oSortT, oSortI, oDictT, oTupleF, wMt, oApp, oExt, oPop, oPopAt, wFrom, wTo, wTupRg, wLstRg, wSortSetI, wSortSetP, wTGet, wTGetD, wTIn, wDGet, wDNot, wDPut, wDict1, wDictO, wSetIx, wOrL, wWeak, wPar2, wPar3, wRaise, wNever, gN, gT, gsCons, gsNil, wZip, wEnum, wSeqI, wRng1, wRng2, wCb, asV, asVs, asBl, asInt, as1, as2, as3, asSeq, asU, asM0, asO, asD, asDt, asLst, asNil, asNon, asSc, asZip, contL, contS, contT, contP, retD, endV, endU, endX, allV, slots0, scEq, isN, List.map_cons, List.map_nil, Option.map_some, List.getElem?_cons_zero, List.getElem?_cons_succ, List.length_cons, List.length_nil, List.cons_append, List.nil_append, List.set_cons_zero, List.set_cons_succ, Nat.zero_add, Nat.reduceAdd, Nat.reduceSub, List.replicate_succ, List.replicate_zero, Nat.reduceLeDiff, if_pos, if_true, if_false, Bool.false_eq_true, Nat.le_refl, ite_true, ite_false, true_and, and_true, Nat.sub_self, List.replicate, List.length_map, wipeD]
        cases lot with
        | nil => exact absurd rfl hne
        | cons h0 lot0 =>
          have em : maxM (h0 :: lot0) = lot0.foldl max h0 := rfl
          rw [em] at h
          exact ⟨h0, lot0, rfl, (t, lot0.foldl max h0 + 1), ⟨rfl, by dsimp only; omega⟩, h⟩
      · simp only [wSeq, wNext, wSet, wRet, wDrop, wIfS, wIf, wVar, wC, wNil, wCons, wOp, wTest, wAnd, wOr, wNot, wAndV, wOrV, wNotV, wChain, wTup, wLst, wLstO, wCall, wCallU, wCallX, wCB, wIsi, oI, oI0, oB0, oEqS, oNeS, oIsB, oIsN, oCat, oCatT, oRep, oRepO, oRepT, oLen, oInt1, oAll, oAny, oTuple, oList, oListO, oIx, oIn, oInT, oEqT, oNeNil, oMaxL, oMinL, oMaxT, oMinT, oSortT, oSortI, oDictT, oTupleF, wMt, oApp, oExt, oPop, oPopAt, wFrom, wTo, wTupRg, wLstRg, wSortSetI, wSortSetP, wTGet, wTGetD, wTIn, wDGet, wDNot, wDPut, wDict1, wDictO, wSetIx, wOrL, wWeak, wPar2, wPar3, wRaise, wNever, gN, gT, gsCons, gsNil, wZip, wEnum, wSeqI, wRng1, wRng2, wCb, asV, asVs, asBl, asInt, as1, as2, as3, asSeq, asU, asM0, asO, asD, asDt, asLst, asNil, asNon, asSc, asZip, contL, contS, contT, contP, retD, endV, endU, endX, allV, slots0, scEq, isN, List.map_cons, List.map_nil, Option.map_some, List.getElem?_cons_zero, List.getElem?_cons_succ, List.length_cons, List.length_nil, List.cons_append, List.nil_append, List.set_cons_zero, List.set_cons_succ, Nat.zero_add, Nat.reduceAdd, Nat.reduceSub, List.replicate_succ, List.replicate_zero, Nat.reduceLeDiff, if_pos, if_true, if_false, Bool.false_eq_true, Nat.le_refl, ite_true, ite_false, true_and, and_true, Nat.sub_self, List.replicate, List.length_map]
        refine ⟨ts.map fun t => isSetM t (maxM lot + 1) && decide (0 < (t.length : Int)), by rw [List.map_map]; rfl, ?_⟩
        have e : (ts.map fun t => isSetM t (maxM lot + 1) && decide (0 < (t.length : Int))).all id = ts.all fun t => isSetM t (maxM lot + 1) && decide (0 < (t.length : Int)) := by rw [List.all_map]; rfl
        rw [e]
        cases c2 : ts.all fun t => isSetM t (maxM lot + 1) && decide (0 < (t.length : Int)) with
        | false =>
          rw [c2, Bool.false_and] at q
          exact (if_pos rfl).mpr q
        | true =>
          rw [c2, Bool.true_and] at q
          refine (if_neg (by simp)).mpr ?_
          have hset : ∀ t ∈ ts, ∀ a ∈ t, 0 ≤ a ∧ a < 7 := fun t htm a ha => by
            rw [List.all_eq_true] at c2
            have h1 := c2 t htm
            rw [Bool.and_eq_true] at h1
            have h2 := isSetM_in h1.1 a ha
            have h3 := maxM_lt h7
            omega
          refine ⟨(r, lot, d, tI lot), ⟨rfl, hd, hs, .inl rfl⟩, ?_⟩
          dsimp only
          refine ⟨rowsK (rowsM r lot), (rowsK_prD _).symm, by rw [rowsK_keys]; exact rows_nd hn, by unfold rowsK; rw [List.length_map]; have := S2.len; omega, ?_⟩
          have hzl : (lot.zip ts).length = lot.length := by rw [List.length_zip]; omega
          have hzm : ∀ x ∈ lot.zip ts, x.1 ∈ lot ∧ x.2 ∈ ts := fun x hx => List.of_mem_zip hx
          refine for_r (xs := lot.zip ts) (fun x => .tup [.int x.1, tI x.2]) (fun i δ M => M = [.lst ((((lot.zip ts).take i).flatMap fun x => (x.2.filter fun one => !decide (one = x.1)).map fun one => (one, x.1)).map pI)] ∧ (∀ x ∈ (lot.zip ts).take i, x.1 ∈ getR (rowsM r lot) x.2) ∧
              ∃ y5 y6, δ = [some (.v d), some (.v (tI lot)), some (.v (.tup (ts.map tI))), some (.v (.dt (rowsK (rowsM r lot)))), some (.o 0), y5, y6, none]) (fun rr M => rr = .v (.bl false) ∧ (lot.zip ts).all (fun x => decide (x.1 ∈ getR (rowsM r lot) x.2)) = false) (fun Q' q' => ?_) ⟨rfl, fun x hx => by simp at hx, _, _, rfl⟩ (fun i x δ M nx0 rt0 ex0 nx1 e hp hrt hnx => ?_) (fun rr M hr2 => ?_) (fun δ M hp => ?_)
          · simp only [wSeq, wNext, wSet, wRet, wDrop, wIfS, wIf, wVar, wC, wNil, wCons, wOp, wTest, wAnd, wOr, wNot, wAndV, wOrV, wNotV, wChain, wTup, wLst, wLstO, wCall, wCallU, wCallX, wCB, wIsi, oI, oI0, oB0, oEqS, oNeS, oIsB, oIsN, oCat, oCatT, oRep, oRepO, oRepT, oLen, oInt1, oAll, oAny, oTuple, oList, oListO, oIx, oIn, oInT, oEqT, oNeNil, oMaxL, oMinL, oMaxT, oMinT, oSortT, oSortI, oDictT, oTupleF, wMt, oApp, oExt, oPop, oPopAt, wFrom, wTo, wTupRg, wLstRg, wSortSetI, wSortSetP, wTGet, wTGetD, wTIn, wDGet, wDNot, wDPut, wDict1, wDictO, wSetIx, wOrL, wWeak, wPar2, wPar3, wRaise, wNever, gN, gT, gsCons, gsNil, wZip, wEnum, wSeqI, wRng1, wRng2, wCb, asV, asVs, asBl, asInt, as1, as2, as3, asSeq, asU, asM0, asO, asD, asDt, asLst, asNil, asNon, asSc, asZip, contL, contS, contT, contP, retD, endV, endU, endX, allV, slots0, scEq, isN, List.map_cons, List.map_nil, Option.map_some, List.getElem?_cons_zero, List.getElem?_cons_succ, List.length_cons, List.length_nil, List.cons_append, List.nil_append, List.set_cons_zero, List.set_cons_succ, Nat.zero_add, Nat.reduceAdd, Nat.reduceSub, List.replicate_succ, List.replicate_zero, Nat.reduceLeDiff, if_pos, if_true, if_false, Bool.false_eq_true, Nat.le_refl, ite_true, ite_false, true_and, and_true, Nat.sub_self, List.replicate, List.length_map]
            rw [zipD_tI]
            exact q'
          · obtain ⟨rfl, hp1, y5, y6, rfl⟩ := hp
            have hxm := List.mem_of_getElem? e
            obtain ⟨hx1, hx2⟩ := hzm x hxm
            have hi := (List.getElem?_eq_some_iff.mp e).1
            have htk : (lot.zip ts).take (i + 1) = (lot.zip ts).take i ++ [x] := by rw [List.take_succ, e]; rfl
            simp only [gT, List.map_cons, List.map_nil]
            simp only [gsCons]
            simp only [gN]
            simp only [gsNil]
            simp only [List.length_cons, List.length_nil, List.set_cons_succ, List.set_cons_zero, true_and, Nat.zero_add, Nat.reduceAdd]
            simp only [wSeq, wIfS, wDrop, wRet, wNext, wC]
            simp only [wTest, wOp, wVar, wTGetD, wTup, wNil, List.getElem?_cons_succ, List.getElem?_cons_zero, asDt, asV, asVs, allV]
            refine ⟨Nat.zero_le _, x.2, rfl, ?_⟩
            rw [rowsK_get]
            simp only [oIn, asInt, contS]
            refine ⟨_, rfl, ?_⟩
            simp only [asBl, ite_true]
            cases c3 : decide (x.1 ∈ getR (rowsM r lot) x.2) with
            | false =>
              refine (if_pos rfl).mpr ?_
              have c4 : (lot.zip ts).all (fun x => decide (x.1 ∈ getR (rowsM r lot) x.2)) = false := by
                rw [List.all_eq_false]
                exact ⟨x, hxm, by rw [c3]; simp⟩
              exact hrt _ _ ⟨rfl, c4⟩
            | true =>
              refine (if_neg (by simp)).mpr ?_
              have h10 := ht x.2 hx2
              simp only [wMt, wCons, wNil, wVar, asO, List.getElem?_cons_succ, List.getElem?_cons_zero]
              refine lcF (xs := x.2) Dt.int (fun one => !decide (one = x.1)) (fun one => pI (one, x.1)) (fun Q' q' => q') (by omega) (fun n hn A B h1 h2 => ?_) ?_
              · simp only [wSeq, wNext, wSet, wRet, wDrop, wIfS, wIf, wVar, wC, wNil, wCons, wOp, wTest, wAnd, wOr, wNot, wAndV, wOrV, wNotV, wChain, wTup, wLst, wLstO, wCall, wCallU, wCallX, wCB, wIsi, oI, oI0, oB0, oEqS, oNeS, oIsB, oIsN, oCat, oCatT, oRep, oRepO, oRepT, oLen, oInt1, oAll, oAny, oTuple, oList, oListO, oIx, oIn, oInT, oEqT, oNeNil, oMaxL, oMinL, oMaxT, oMinT, oSortT, oSortI, oDictT, oTupleF, wMt, oApp, oExt, oPop, oPopAt, wFrom, wTo, wTupRg, wLstRg, wSortSetI, wSortSetP, wTGet, wTGetD, wTIn, wDGet, wDNot, wDPut, wDict1, wDictO, wSetIx, wOrL, wWeak, wPar2, wPar3, wRaise, wNever, gN, gT, gsCons, gsNil, wZip, wEnum, wSeqI, wRng1, wRng2, wCb, asV, asVs, asBl, asInt, as1, as2, as3, asSeq, asU, asM0, asO, asD, asDt, asLst, asNil, asNon, asSc, asZip, contL, contS, contT, contP, retD, endV, endU, endX, allV, slots0, scEq, isN, List.map_cons, List.map_nil, Option.map_some, List.getElem?_cons_zero, List.getElem?_cons_succ, List.length_cons, List.length_nil, List.cons_append, List.nil_append, List.set_cons_zero, List.set_cons_succ, Nat.zero_add, Nat.reduceAdd, Nat.reduceSub, List.replicate_succ, List.replicate_zero, Nat.reduceLeDiff, if_pos, if_true, if_false, Bool.false_eq_true, Nat.le_refl, ite_true, ite_false, true_and, and_true, Nat.sub_self, List.replicate, List.length_map, wipeD]
                cases hb : decide (n = x.1) with
                | true => exact (if_neg (by simp)).mpr (h2 (by rw [hb]; rfl))
                | false => exact (if_pos rfl).mpr (h1 (by rw [hb]; rfl))
              · simp only [wSeq, wNext, wSet, wRet, wDrop, wIfS, wIf, wVar, wC, wNil, wCons, wOp, wTest, wAnd, wOr, wNot, wAndV, wOrV, wNotV, wChain, wTup, wLst, wLstO, wCall, wCallU, wCallX, wCB, wIsi, oI, oI0, oB0, oEqS, oNeS, oIsB, oIsN, oCat, oCatT, oRep, oRepO, oRepT, oLen, oInt1, oAll, oAny, oTuple, oList, oListO, oIx, oIn, oInT, oEqT, oNeNil, oMaxL, oMinL, oMaxT, oMinT, oSortT, oSortI, oDictT, oTupleF, wMt, oApp, oExt, oPop, oPopAt, wFrom, wTo, wTupRg, wLstRg, wSortSetI, wSortSetP, wTGet, wTGetD, wTIn, wDGet, wDNot, wDPut, wDict1, wDictO, wSetIx, wOrL, wWeak, wPar2, wPar3, wRaise, wNever, gN, gT, gsCons, gsNil, wZip, wEnum, wSeqI, wRng1, wRng2, wCb, asV, asVs, asBl, asInt, as1, as2, as3, asSeq, asU, asM0, asO, asD, asDt, asLst, asNil, asNon, asSc, asZip, contL, contS, contT, contP, retD, endV, endU, endX, allV, slots0, scEq, isN, List.map_cons, List.map_nil, Option.map_some, List.getElem?_cons_zero, List.getElem?_cons_succ, List.length_cons, List.length_nil, List.cons_append, List.nil_append, List.set_cons_zero, List.set_cons_succ, Nat.zero_add, Nat.reduceAdd, Nat.reduceSub, List.replicate_succ, List.replicate_zero, Nat.reduceLeDiff, if_pos, if_true, if_false, Bool.false_eq_true, Nat.le_refl, ite_true, ite_false, true_and, and_true, Nat.sub_self, List.replicate, List.length_map]
                have hw := wv_len (l := (lot.zip ts).take i) fun y hy => ht y.2 (hzm y (List.mem_of_mem_take hy)).2
                have htl := List.length_take_le i (lot.zip ts)
                have hfl := List.length_filter_le (fun one => !decide (one = x.1)) x.2
                refine ⟨by omega, hnx _ _ ⟨?_, fun y hy => ?_, _, _, rfl⟩⟩
                · rw [htk, wv_snoc, List.map_append, List.map_map]
                  rfl
                · rw [htk] at hy
                  rcases List.mem_append.mp hy with hy | hy
                  · exact hp1 y hy
                  · rw [List.mem_singleton.mp hy]
                    exact of_decide_eq_true c3
          · obtain ⟨rfl, c4⟩ := hr2
            rw [c4, Bool.false_and] at q
            exact q
          · obtain ⟨rfl, hp1, y5, y6, rfl⟩ := hp
            rw [List.take_length] at hp1 ⊢
            have c4 : (lot.zip ts).all (fun x => decide (x.1 ∈ getR (rowsM r lot) x.2)) = true := by
              rw [List.all_eq_true]
              exact fun x hx => decide_eq_true (hp1 x hx)
            rw [c4, Bool.true_and] at q
            simp only [wSeq, wNext, wSet, wRet, wDrop, wIfS, wIf, wVar, wC, wNil, wCons, wOp, wTest, wAnd, wOr, wNot, wAndV, wOrV, wNotV, wChain, wTup, wLst, wLstO, wCall, wCallU, wCallX, wCB, wIsi, oI, oI0, oB0, oEqS, oNeS, oIsB, oIsN, oCat, oCatT, oRep, oRepO, oRepT, oLen, oInt1, oAll, oAny, oTuple, oList, oListO, oIx, oIn, oInT, oEqT, oNeNil, oMaxL, oMinL, oMaxT, oMinT, oSortT, oSortI, oDictT, oTupleF, wMt, oApp, oExt, oPop, oPopAt, wFrom, wTo, wTupRg, wLstRg, wSortSetI, wSortSetP, wTGet, wTGetD, wTIn, wDGet, wDNot, wDPut, wDict1, wDictO, wSetIx, wOrL, wWeak, wPar2, wPar3, wRaise, wNever, gN, gT, gsCons, gsNil, wZip, wEnum, wSeqI, wRng1, wRng2, wCb, asV, asVs, asBl, asInt, as1, as2, as3, asSeq, asU, asM0, asO, asD, asDt, asLst, asNil, asNon, asSc, asZip, contL, contS, contT, contP, retD, endV, endU, endX, allV, slots0, scEq, isN, List.map_cons, List.map_nil, Option.map_some, List.getElem?_cons_zero, List.getElem?_cons_succ, List.length_cons, List.length_nil, List.cons_append, List.nil_append, List.set_cons_zero, List.set_cons_succ, Nat.zero_add, Nat.reduceAdd, Nat.reduceSub, List.replicate_succ, List.replicate_zero, Nat.reduceLeDiff, if_pos, if_true, if_false, Bool.false_eq_true, Nat.le_refl, ite_true, ite_false, true_and, and_true, Nat.sub_self, List.replicate, List.length_map, wCallB]
            have hw := wv_len (l := lot.zip ts) fun y hy => ht y.2 (hzm y hy).2
            have hwl : (wvPairs lot ts).length ≤ 1000 := by unfold wvPairs; omega
            refine ⟨(wvPairs lot ts, lot, .lst ((wvPairs lot ts).map pI)), ⟨rfl, .inr rfl, hwl, fun y hy => ?_, hne, h7⟩, _, rfl, q⟩
            have hy : y ∈ wvPairs lot ts := hy
            unfold wvPairs at hy
            obtain ⟨x, hx, hy⟩ := List.mem_flatMap.mp hy
            obtain ⟨n, hn, rfl⟩ := List.mem_map.mp hy
            obtain ⟨a1, a2⟩ := hzm x hx
            exact ⟨hset x.2 a2 n (List.mem_filter.mp hn).1, h7 x.1 a1⟩

end
end VL
set_option Elab.async false
set_option linter.all false
set_option maxRecDepth 100000
set_option maxHeartbeats 4000000
/-! VL24: weave_of. -/
namespace VL
open PySem PySem.Spec PyProof.Rows L2 VLC
section
variable {P : Program} {w : World} {K : PySem.W.Frag} {mg : Str → Option Value} {base : Heap}

/-! a promise that may raise, the result told by a relation -/
def fnR {α : Type} (pre : α → List Dt → Prop) (can : α → Bool) (post : α → Dt → Prop) : SpecX := fun ds Q R => ∃ x, pre x ds ∧ ((can x = true ∧ ∀ d, post x d → Q d) ∨ (can x = false ∧ R))
theorem v_defR {Cc : Addr} {x : Str} {st : Stmt} {N ps : List Str} {k : Nat} {α : Type} {pre : α → List Dt → Prop} {can : α → Bool} {post : α → Dt → Prop} (D : Df K mg x st ps) (Sc : FnScope N ps (defScope st)) (len : ∀ y ds, pre y ds → ds.length = ps.length)
    (hbody : ∀ (fa : Addr) (cdv : Value) (A : Around) (outer : List Env) (s : Shared) (H : Hp) (E : XK), Room k (A.deeper (envOfC x (defScope st) s.heap.objs.size fa cdv)) →
      ∃ wb, VSs (cxOf (L2.CX P w) P w K mg base N x (defScope st) fa cdv A outer s H E) (fun H' => E (.ref Cc) none H') (defBody st) wb ∧
        ∀ y ds (Q : Dt → Prop) (R : Prop), pre y ds → (can y = true → ∀ d, post y d → Q d) → (can y = false → R) → wb (endX Q R) (slots0 N (ds.map .v)) []) : Cl P w K mg base (L2.CX P w) (k + 1) x ps (spX Cc (fnR pre can post)) := by
  obtain ⟨g, fd, F, hm, hk, hb⟩ := D.ex
  refine ⟨g, fd, v_funX F Sc (fun ds Q R ⟨y, h, _⟩ => len y ds h) (fun cdv A outer s H E hr => ?_), hm, hk, hb⟩
  obtain ⟨wb, h1, h2⟩ := hbody g cdv A outer s H E hr
  refine ⟨wb, h1, fun ds Q R ⟨y, a, b⟩ => h2 y ds Q R a (fun e => ?_) fun e => ?_⟩
  · rcases b with ⟨_, q⟩ | ⟨e', _⟩
    · exact q
    · rw [e] at e'; cases e'
  · rcases b with ⟨e', _⟩ | ⟨_, q⟩
    · rw [e] at e'; cases e'
    · exact q
/-! what woven says -/
def Srt (l : List Int) : Prop := l.Pairwise (· < ·)
theorem Srt.nd {l : List Int} (h : Srt l) : l.Nodup := h.imp fun h => by omega
/-- picks lie in their lots -/
def PickIn (r : Rl) : Prop := ∀ x ∈ r, x.2 ≠ [] ∧ ∀ a ∈ x.2, a ∈ x.1
theorem mem_leads {r : Rl} {lot : List Int} (S : SmallR r) {p : Int × Int} : p ∈ leadsM r lot ↔ ∃ x ∈ rowsM r lot, p.1 ∈ x.1 ∧ p.2 ∈ x.2 ∧ p.1 ≠ p.2 := by
  unfold leadsM
  rw [List.mem_filter, decide_eq_true_iff, mem_found]
  constructor
  · exact fun h => h.2
  · intro h
    refine ⟨mem_pairs7.mpr (found_in (rows_small (lot := lot) S) p (mem_found.mpr h)), h⟩
theorem mem_rows {r : Rl} {lot : List Int} {x : List Int × List Int} : x ∈ rowsM r lot ↔ x ∈ r ∧ ∀ a ∈ x.1, a ∈ lot := by
  unfold rowsM
  rw [List.mem_filter, List.all_eq_true]
  simp only [decide_eq_true_eq]
theorem leads_sub {r : Rl} {lot : List Int} (S : SmallR r) (hp : PickIn r) {p : Int × Int} (h : p ∈ leadsM r lot) : p.1 ∈ lot ∧ p.2 ∈ lot := by
  obtain ⟨x, hx, h1, h2, _⟩ := (mem_leads S).mp h
  obtain ⟨hr, hs⟩ := mem_rows.mp hx
  exact ⟨hs _ h1, hs _ ((hp x hr).2 _ h2)⟩
theorem rch_sub {ps : Prs} {lot : List Int} (h : ∀ p ∈ ps, p.2 ∈ lot) {a b : Int} (ha : a ∈ lot) (hr : Rch ps a b) : b ∈ lot := by
  cases hr with
  | base => exact ha
  | step _ e => exact h _ e
theorem rchL_nd (ps : Prs) (a : Int) : (rchL ps a).Nodup := Srt.nd ((rg_sorted 7).filter _)
theorem full_iff {ps : Prs} {lot : List Int} {a : Int} (hp : ∀ x ∈ ps, pIn x) (h7 : In7 lot) (hn : lot.Nodup) (hs : ∀ p ∈ ps, p.2 ∈ lot) (ha : a ∈ lot) : ((rchL ps a).length : Int) = (lot.length : Int) ↔ ∀ b ∈ lot, Rch ps a b := by
  have hm : ∀ b, b ∈ rchL ps a ↔ Rch ps a b := fun b => mem_rchL hp (h7 a ha)
  have hsub : ∀ b ∈ rchL ps a, b ∈ lot := fun b hb => rch_sub hs ha ((hm b).mp hb)
  constructor
  · intro e b hb
    rw [← hm b]
    refine Classical.byContradiction fun hc => ?_
    have h1 : (b :: rchL ps a).Nodup := List.nodup_cons.mpr ⟨hc, rchL_nd ps a⟩
    have h2 := List.Nodup.length_le_of_subset (l₂ := lot) h1 fun x hx => by
      rcases List.mem_cons.mp hx with rfl | hx
      · exact hb
      · exact hsub x hx
    rw [List.length_cons] at h2
    omega
  · intro h
    have h1 := List.Nodup.length_le_of_subset (l₂ := lot) (rchL_nd ps a) hsub
    have h2 := List.Nodup.length_le_of_subset (l₂ := rchL ps a) hn fun b hb => (hm b).mpr (h b hb)
    omega
theorem rch_swp {ps : Prs} {a b : Int} (h : Rch (ps.map swp) a b) : Rch ps b a := by
  induction h with
  | base => exact .base
  | step _ e ih =>
    obtain ⟨x, hx, e⟩ := List.mem_map.mp e
    cases e
    exact Rch.trans (.step .base hx) ih
theorem rch_swp' {ps : Prs} {a b : Int} (h : Rch ps a b) : Rch (ps.map swp) b a := by
  induction h with
  | base => exact .base
  | step _ e ih => exact Rch.trans (.step .base (List.mem_map.mpr ⟨_, e, rfl⟩)) ih
/-- joins_all is: each reaches each -/
theorem joins_iff {ps : Prs} {lot : List Int} (hp : ∀ x ∈ ps, pIn x) (h7 : In7 lot) (hn : lot.Nodup) (hne : lot ≠ []) (hs : ∀ p ∈ ps, p.1 ∈ lot ∧ p.2 ∈ lot) : joinsM ps lot = true ↔ ∀ a ∈ lot, ∀ b ∈ lot, Rch ps a b := by
  cases lot with
  | nil => exact absurd rfl hne
  | cons h lot =>
    show joinsH ps h (h :: lot).length = true ↔ _
    unfold joinsH
    rw [Bool.and_eq_true, decide_eq_true_iff, decide_eq_true_iff, full_iff hp h7 hn (fun p hp => (hs p hp).2) List.mem_cons_self, full_iff (swp_in hp) h7 hn (fun p hp => by
      obtain ⟨x, hx, rfl⟩ := List.mem_map.mp hp
      exact (hs x hx).1) List.mem_cons_self]
    constructor
    · rintro ⟨h1, h2⟩ a ha b hb
      exact (rch_swp (h2 a ha)).trans (h1 b hb)
    · intro h1
      exact ⟨fun b hb => h1 _ List.mem_cons_self b hb, fun b hb => rch_swp' (h1 b hb _ List.mem_cons_self)⟩
theorem wov_iff {r : Rl} {lot : List Int} (S : SmallR r) (hp : PickIn r) (h7 : In7 lot) (hn : lot.Nodup) : wovM r lot = true ↔ 1 < lot.length ∧ ∀ a ∈ lot, ∀ b ∈ lot, Rch (leadsM r lot) a b := by
  unfold wovM
  rw [Bool.and_eq_true, decide_eq_true_iff]
  constructor
  · rintro ⟨h1, h2⟩
    have hne : lot ≠ [] := fun e => by subst e; simp at h1
    exact ⟨by omega, (joins_iff leads_in7 h7 hn hne fun p hq => leads_sub S hp hq).mp h2⟩
  · rintro ⟨h1, h2⟩
    have hne : lot ≠ [] := fun e => by subst e; simp at h1
    exact ⟨by omega, (joins_iff leads_in7 h7 hn hne fun p hq => leads_sub S hp hq).mpr h2⟩
/-! weaves -/
def wvAll (lot : List Int) (ws : List (List Int)) : Prs := (lot.zip ws).flatMap fun x => x.2.map fun one => (one, x.1)
theorem mem_wvAll {lot : List Int} {ws : List (List Int)} {p : Int × Int} : p ∈ wvAll lot ws ↔ ∃ x ∈ lot.zip ws, p.1 ∈ x.2 ∧ p.2 = x.1 := by
  unfold wvAll
  rw [List.mem_flatMap]
  constructor
  · rintro ⟨x, hx, hp⟩
    obtain ⟨n, hn, rfl⟩ := List.mem_map.mp hp
    exact ⟨x, hx, hn, rfl⟩
  · rintro ⟨x, hx, h1, h2⟩
    exact ⟨x, hx, List.mem_map.mpr ⟨p.1, h1, by rw [← h2]⟩⟩
structure GoodWv (r : Rl) (lot : List Int) (ws : List (List Int)) : Prop where
  len : ws.length = lot.length
  rows : ∀ x ∈ lot.zip ws, ∃ y ∈ rowsM r lot, y.1 = x.2 ∧ x.1 ∈ y.2
  conn : ∀ a ∈ lot, ∀ b ∈ lot, Rch (wvAll lot ws) a b
theorem Rch.mono {ps qs : Prs} (h : ∀ p ∈ ps, p ∈ qs) {a b : Int} (hr : Rch ps a b) : Rch qs a b := by
  induction hr with
  | base => exact .base
  | step _ e ih => exact .step ih (h _ e)
theorem minT_mem : ∀ (nr : List (List Int)) (n : List Int), minT n nr ∈ n :: nr
  | [], n => List.mem_cons_self
  | y :: nr, n => by
    have ih := minT_mem nr (if y < n then y else n)
    have e : minT n (y :: nr) = minT (if y < n then y else n) nr := rfl
    rw [e]
    rcases List.mem_cons.mp ih with h | h
    · rw [h]
      split
      · exact List.mem_cons_of_mem _ List.mem_cons_self
      · exact List.mem_cons_self
    · exact List.mem_cons_of_mem _ (List.mem_cons_of_mem _ h)
end
end VL
set_option Elab.async false
set_option linter.all false
set_option maxRecDepth 100000
set_option maxHeartbeats 4000000
/-! VL25: weave_of, its walk. -/
namespace VL
open PySem PySem.Spec PyProof.Rows L2 VLC
section
variable {P : Program} {w : World} {K : PySem.W.Frag} {mg : Str → Option Value} {base : Heap}


abbrev Fs := List (Int × List Int)
def fsD (fs : Fs) : List (Int × Dt) := fs.map fun z => (z.1, tI z.2)
def fsGet (fs : Fs) (a : Int) : List Int := ((fs.find? fun z => decide (z.1 = a)).map (·.2)).getD []
theorem fs_get_none {fs : Fs} {a : Int} : (getD (fsD fs) a).isSome = decide (a ∈ fs.map (·.1)) := by
  unfold getD fsD
  induction fs with
  | nil => rfl
  | cons z fs ih =>
    rw [List.map_cons, List.find?_cons, List.map_cons]
    by_cases h : z.1 = a
    · simp [h]
    · have h' : decide (z.1 = a) = false := decide_eq_false h
      simp only [h']
      rw [ih]
      simp [h, Ne.symm h]
theorem fs_get {fs : Fs} {a : Int} (h : a ∈ fs.map (·.1)) : getD (fsD fs) a = some (tI (fsGet fs a)) ∧ (a, fsGet fs a) ∈ fs := by
  unfold getD fsD fsGet
  induction fs with
  | nil => simp at h
  | cons z fs ih =>
    rw [List.map_cons, List.find?_cons, List.find?_cons]
    by_cases h' : z.1 = a
    · subst h'
      simp
    · have e : decide (z.1 = a) = false := decide_eq_false h'
      simp only [e]
      rw [List.map_cons] at h
      rcases List.mem_cons.mp h with h | h
      · exact absurd h.symm h'
      · obtain ⟨a1, a2⟩ := ih h
        exact ⟨a1, List.mem_cons_of_mem _ a2⟩
theorem fs_put {fs : Fs} {a : Int} {t : List Int} (h : a ∉ fs.map (·.1)) : putD (fsD fs) a (tI t) = fsD (fs ++ [(a, t)]) := by
  unfold putD
  have e : ((fsD fs).any fun kv => decide (kv.1 = a)) = false := by
    rw [List.any_eq_false]
    intro x hx
    obtain ⟨z, hz, rfl⟩ := List.mem_map.mp hx
    simp only [decide_eq_true_eq]
    exact fun e => h (List.mem_map.mpr ⟨z, hz, e⟩)
  rw [e, if_neg Bool.false_ne_true]
  unfold fsD
  rw [List.map_append]
  rfl
def fsP (fs : Fs) : Prs := fs.flatMap fun z => z.2.map fun one => (one, z.1)
theorem mem_fsP {fs : Fs} {p : Int × Int} : p ∈ fsP fs ↔ ∃ z ∈ fs, p.1 ∈ z.2 ∧ p.2 = z.1 := by
  unfold fsP
  rw [List.mem_flatMap]
  constructor
  · rintro ⟨x, hx, hp⟩
    obtain ⟨n, hn, rfl⟩ := List.mem_map.mp hp
    exact ⟨x, hx, hn, rfl⟩
  · rintro ⟨x, hx, h1, h2⟩
    exact ⟨x, hx, List.mem_map.mpr ⟨p.1, h1, by rw [← h2]⟩⟩
structure Wv (r : Rl) (lot : List Int) (b : Int) (fs : Fs) (left : List Int) : Prop where
  nd : (fs.map (·.1)).Nodup
  nl : left.Nodup
  bg : (b, lot) ∈ fs
  row : ∀ z ∈ fs, ∃ y ∈ rowsM r lot, y.1 = z.2 ∧ z.1 ∈ y.2
  rch : ∀ z ∈ fs, Rch (fsP fs) b z.1
  inl : ∀ z ∈ fs, z.1 ∈ lot
  sub : ∀ x ∈ left, x ∈ fs.map (·.1)
theorem Wv.len {r : Rl} {lot : List Int} {b : Int} {fs : Fs} {left : List Int} (W : Wv r lot b fs left) : fs.length ≤ lot.length := by
  have h := List.Nodup.length_le_of_subset (l₂ := lot) W.nd fun x hx => by
    obtain ⟨z, hz, rfl⟩ := List.mem_map.mp hx
    exact W.inl z hz
  rwa [List.length_map] at h
theorem Wv.llen {r : Rl} {lot : List Int} {b : Int} {fs : Fs} {left : List Int} (W : Wv r lot b fs left) : left.length ≤ fs.length := by
  have h := List.Nodup.length_le_of_subset (l₂ := fs.map (·.1)) W.nl fun x hx => W.sub x hx
  rwa [List.length_map] at h
theorem fs_uniq : ∀ {fs : Fs} {z : Int × List Int}, (fs.map (·.1)).Nodup → z ∈ fs → fsGet fs z.1 = z.2
  | [], _, _, h => by simp at h
  | y :: fs, z, hn, h => by
    rw [List.map_cons, List.nodup_cons] at hn
    unfold fsGet
    rw [List.find?_cons]
    rcases List.mem_cons.mp h with rfl | h
    · simp
    · have hne : ¬ y.1 = z.1 := fun e => hn.1 (List.mem_map.mpr ⟨z, h, e.symm⟩)
      have e : decide (y.1 = z.1) = false := decide_eq_false hne
      simp only [e]
      exact fs_uniq hn.2 h
/-- the end: what was found is a weave -/
theorem Wv.good {r : Rl} {lot : List Int} {b : Int} {fs : Fs} (S : SmallR r) (hp : PickIn r) (W : Wv r lot b fs []) (hb : b ∈ lot) (hc : ∀ x ∈ fs.map (·.1), ∀ y, (x, y) ∈ leadsM r lot → y ∈ fs.map (·.1)) (hw : ∀ a ∈ lot, ∀ b ∈ lot, Rch (leadsM r lot) a b) :
    (∀ a ∈ lot, a ∈ fs.map (·.1)) ∧ GoodWv r lot (lot.map (fsGet fs)) := by
  have all : ∀ a ∈ lot, a ∈ fs.map (·.1) := fun a ha => by
    have h := hw b hb a ha
    clear ha
    induction h with
    | base => exact List.mem_map.mpr ⟨_, W.bg, rfl⟩
    | step _ e ih => exact hc _ ih _ e
  have uniq : ∀ z ∈ fs, fsGet fs z.1 = z.2 := fun z hz => fs_uniq W.nd hz
  have zipm : ∀ x, x ∈ lot.zip (lot.map (fsGet fs)) ↔ x.1 ∈ lot ∧ x.2 = fsGet fs x.1 := by
    intro x
    have : lot.zip (lot.map (fsGet fs)) = lot.map fun a => (a, fsGet fs a) := by
      rw [List.zip_map_right]
      clear all uniq hb hw W hc
      induction lot with
      | nil => rfl
      | cons a l ih => simp [ih]
    rw [this, List.mem_map]
    constructor
    · rintro ⟨a, ha, rfl⟩
      exact ⟨ha, rfl⟩
    · rintro ⟨h1, h2⟩
      exact ⟨x.1, h1, by rw [← h2]⟩
  refine ⟨all, ⟨by rw [List.length_map], fun x hx => ?_, fun a ha c hc' => ?_⟩⟩
  · obtain ⟨h1, h2⟩ := (zipm x).mp hx
    obtain ⟨_, h3⟩ := fs_get (all _ h1)
    rw [← h2] at h3
    exact W.row _ h3
  · have sub : ∀ p ∈ fsP fs, p ∈ wvAll lot (lot.map (fsGet fs)) := fun p hp => by
      obtain ⟨z, hz, h1, h2⟩ := mem_fsP.mp hp
      refine mem_wvAll.mpr ⟨(z.1, z.2), (zipm _).mpr ⟨W.inl z hz, (uniq z hz).symm⟩, h1, h2⟩
    have h1 : Rch (fsP fs) a b := .step .base (mem_fsP.mpr ⟨(b, lot), W.bg, ha, rfl⟩)
    obtain ⟨z, hz, ez⟩ := List.mem_map.mp (all c hc')
    have h2 := W.rch z hz
    rw [ez] at h2
    exact (h1.trans h2).mono sub
/-- one more is found -/
theorem Wv.add {r : Rl} {lot : List Int} {b : Int} {fs : Fs} {left : List Int} (S : SmallR r) (hp : PickIn r) (W : Wv r lot b fs left) {x y : Int} {t : List Int} (hx : x ∈ fs.map (·.1)) (hy : y ∉ fs.map (·.1)) (hl : (x, y) ∈ leadsM r lot) (ht : t ∈ shownM r lot x y) :
    Wv r lot b (fs ++ [(y, t)]) (left ++ [y]) := by
  obtain ⟨row, hr, e⟩ := List.mem_map.mp ht
  obtain ⟨hr1, hr2⟩ := List.mem_filter.mp hr
  simp only [Bool.and_eq_true, decide_eq_true_eq, Bool.not_eq_true', decide_eq_false_iff_not] at hr2
  obtain ⟨h1, h2, h3⟩ := hr2
  have mono : ∀ p ∈ fsP fs, p ∈ fsP (fs ++ [(y, t)]) := fun p hp => by
    obtain ⟨z, hz, q⟩ := mem_fsP.mp hp
    exact mem_fsP.mpr ⟨z, List.mem_append_left _ hz, q⟩
  refine ⟨?_, ?_, List.mem_append_left _ W.bg, fun z hz => ?_, fun z hz => ?_, fun z hz => ?_, fun z hz => ?_⟩
  · rw [List.map_append, List.nodup_append]
    exact ⟨W.nd, by simp, fun a ha c hc => by simp at hc; subst hc; exact fun e => hy (by rw [← e]; exact ha)⟩
  · rw [List.nodup_append]
    exact ⟨W.nl, by simp, fun a ha c hc => by rw [List.mem_singleton.mp hc]; exact fun e => hy (by rw [← e]; exact W.sub a ha)⟩
  · rcases List.mem_append.mp hz with hz | hz
    · exact W.row z hz
    · rw [List.mem_singleton.mp hz]
      exact ⟨row, hr1, e, h2⟩
  · rcases List.mem_append.mp hz with hz | hz
    · exact (W.rch z hz).mono mono
    · rw [List.mem_singleton.mp hz]
      obtain ⟨zx, hzx, ex⟩ := List.mem_map.mp hx
      have q := (W.rch zx hzx).mono mono
      rw [ex] at q
      refine .step q (mem_fsP.mpr ⟨(y, t), List.mem_append_right _ List.mem_cons_self, ?_, rfl⟩)
      rw [← e]
      exact h1
  · rcases List.mem_append.mp hz with hz | hz
    · exact W.inl z hz
    · rw [List.mem_singleton.mp hz]
      exact (leads_sub S hp hl).2
  · rw [List.map_append]
    rcases List.mem_append.mp hz with hz | hz
    · exact List.mem_append_left _ (W.sub z hz)
    · rw [List.mem_singleton.mp hz]
      exact List.mem_append_right _ List.mem_cons_self
theorem shown_ne {r : Rl} {lot : List Int} {x y : Int} (S : SmallR r) (hl : (x, y) ∈ leadsM r lot) : ∃ t, leastM (shownM r lot x y) = some (tI t) ∧ t ∈ shownM r lot x y := by
  obtain ⟨row, h1, h2, h3, h4⟩ := (mem_leads S).mp hl
  have hm : row.1 ∈ shownM r lot x y := by
    refine List.mem_map.mpr ⟨row, List.mem_filter.mpr ⟨h1, ?_⟩, rfl⟩
    simp only [Bool.and_eq_true, decide_eq_true_eq, Bool.not_eq_true', decide_eq_false_iff_not]
    exact ⟨h2, h3, h4⟩
  cases hs : shownM r lot x y with
  | nil => rw [hs] at hm; simp at hm
  | cons n nr => exact ⟨minT n nr, rfl, minT_mem nr n⟩

end
end VL
set_option Elab.async false
set_option linter.all false
set_option maxRecDepth 100000
set_option maxHeartbeats 4000000
/-! VL26: weave_of, its walk. -/
namespace VL
open PySem PySem.Spec PyProof.Rows L2 VLC
section
variable {P : Program} {w : World} {K : PySem.W.Frag} {mg : Str → Option Value} {base : Heap}

theorem ok_weaveof {C : Addr} (D : Df K mg "weave_of" s_weave ["rule", "lot"]) (B : Bs mg) (N : CanN K mg C) (C_tuple_of : Cl P w K mg base CX0 4 "tuple_of" ["thing"] (spV (spTof 4))) (C_rows_within : Cl P w K mg base CX0 5 "rows_within" ["rule", "lot"] (spV spRows)) (C_leads_in : Cl P w K mg base CX0 6 "leads_in" ["rule", "lot"] (spV spLeads)) (C_is_woven : Cl P w K mg base CX0 7 "is_woven" ["rule", "lot"] (spV spIsWov))
    (C_lead_shown : Cl P w K mg base (L2.CX P w) 6 "lead_shown" ["rule", "lot", "one", "other"] (spShown C)) :
    Cl P w K mg base (L2.CX P w) 8 "weave_of" ["rule", "lot"] (spX C (fnR (fun (x : Rl × List Int × Dt) ds => ds = [x.2.2, tI x.2.1] ∧ RuleD x.1 x.2.2 ∧ SmallR x.1 ∧ KeysNd x.1 ∧ PickIn x.1 ∧ In7 x.2.1 ∧ Srt x.2.1 ∧ x.2.1.length ≤ 7 ∧ (1 < x.2.1.length → ∃ y ∈ x.1, y.1 = x.2.1)) (fun x => wovM x.1 x.2.1) (fun x d => ∃ ws, d = .tup (ws.map tI) ∧ GoodWv x.1 x.2.1 ws))) := by
  refine v_defR D sc_weave (fun y ds h => by rw [h.1]; rfl) fun fa cdv A outer s H E hr => ?_
  have Sc := sc_weave
  refine ⟨_, (vs_cons (v_ifS (vt_not (vt_val (v_c C_is_woven (hr.mono (by omega)) (va_cons (vv 0) (va_cons (vv 1) va_nil))))) (vs_one (v_raise0 rfl (takes_of rfl rfl rfl rfl) (fun _ _ h => h) PySem.F.excBase_ValueError N.q N.gC N.kC (raises_own N.su N.ty))) vs_nil)
    (vs_cons (v_par2 (i := 2) (j := 3) rfl Sc.nd (va_cons (v_c C_tuple_of (hr.mono (by omega)) (va_cons (vv 1) va_nil)) (va_cons (v_c C_leads_in (hr.mono (by omega)) (va_cons (vv 0) (va_cons (vv 1) va_nil))) va_nil)))
    (vs_cons (v_set (i := 4) Sc.nd (v_ix (v_tget (hu1 hr) (v_ty (vc_dictT rfl (hu4 hr)) B.dict (va_cons (v_c C_rows_within (hr.mono (by omega)) (va_cons (vv 0) (va_cons (vv 1) va_nil))) va_nil)) (vv 2)) v_int))
    (vs_cons (v_parT2 (i := 5) (j := 6) rfl Sc.nd (va_cons (v_dict1 (vv 4) (vv 2)) (va_cons (v_lstO (va_cons (vv 4) va_nil)) va_nil)))
    (vs_cons (v_while (vt_cmp vo_gt (v_b vc_len B.len (va_cons (vv 6) va_nil)) v_int (by rfl)) (vs_cons (v_set (i := 7) Sc.nd (v_mt0 vm_pop PySem.F.plainAttrs_list PySem.F.slot_list_pop PySem.F.type_list_pop (vv 6)))
    (vs_one (v_for rfl (vi_seq (vv 3)) (vg_tup (n := 2) rfl (vgs_cons (vg_name (i := 8) Sc.nd) (vgs_cons (vg_name (i := 9) Sc.nd) vgs_nil))) (vs_one (v_ifS (VW.vt (vw_and (vt_cmp vo_eqS (vv 8) (vv 7) (by rfl)) (vw_and1 (vt_dnot (hu1 hr) (vv 9) (vv 5))))) (vs_cons (v_dput (hu1 hr) (v_cX C_lead_shown (hr.mono (by omega)) (va_cons (vv 0) (va_cons (vv 1) (va_cons (vv 8) (va_cons (vv 9) va_nil))))) (vv 5) (vv 9))
    (vs_one (v_expr (v_mt vm_append PySem.F.plainAttrs_list PySem.F.slot_list_append PySem.F.type_list_append (vv 6) (va_cons (vv 9) va_nil))))) vs_nil)) (passes_of rfl)))) (passes_of rfl))
    (vs_one (v_ret (v_ty vc_tuple B.tuple (va_cons (v_lc (own := [("area", 10)]) rfl Sc.nd (vi_seq (vv 2)) (blkOk_by (by rfl)) (fun _ _ _ _ _ => (vg_name (i := 10) Sc.nd)) (fun _ _ _ _ _ => vts_nil) (fun _ _ _ _ _ => (v_dget (hu1 hr) (vv 5) (vv 10)))) va_nil))))))))), ?_⟩
  rintro ⟨r, lot, d⟩ _ Q R ⟨rfl, hd, hs, hn, hpk, h7, hsr, hl7, hrow⟩ q1 q2
  dsimp only at hd hs hn hpk h7 hsr hl7 hrow q1 q2 ⊢
  have S2 := rows_small (lot := lot) hs
  simp only [wSeq, wIfS, wNot, wTest, wCall, wCons, wNil, wVar, slots0, List.map_cons, List.map_nil, List.length_cons, List.length_nil, Nat.reduceSub, List.replicate_succ, List.replicate_zero, List.cons_append, List.nil_append, List.getElem?_cons_zero, List.getElem?_cons_succ, asVs, allV, Option.map_some]
  refine ⟨(r, lot, d), ⟨rfl, hd, hs, h7⟩, ?_⟩
  dsimp only
  cases hb : wovM r lot with
  | false => exact (if_pos rfl).mpr (q2 hb)
  | true =>
    obtain ⟨hw1, hw2⟩ := (wov_iff hs hpk h7 hsr.nd).mp hb
    obtain ⟨row, hr1, hr2⟩ := hrow hw1
    have hrm : row ∈ rowsM r lot := mem_rows.mpr ⟨hr1, fun a ha => by rw [← hr2]; exact ha⟩
    refine (if_neg (by simp)).mpr ?_
    simp only [wNext]
    simp only [wSeq, wPar2, wCall, wCons, wNil, wVar, asVs, allV, as2, List.getElem?_cons_zero, List.getElem?_cons_succ, Option.map_some]
    refine ⟨(tI lot, tI lot), ⟨rfl, tof_tI 2 (by omega)⟩, (r, lot, d, tI lot), ⟨rfl, hd, hs, .inl rfl⟩, ?_⟩
    try simp only [List.set_cons_zero, List.set_cons_succ]
    simp only [wSet, wOp, wTGet, wCB, oDictT, wCall, wCons, wNil, wVar, wC, asVs, allV, as1, asDt, List.getElem?_cons_zero, List.getElem?_cons_succ, Option.map_some]
    obtain ⟨row0, hf⟩ : ∃ row0, (rowsM r lot).find? (fun x => decide (x.1 = lot)) = some row0 := by
      cases hf : (rowsM r lot).find? (fun x => decide (x.1 = lot)) with
      | some x => exact ⟨x, rfl⟩
      | none =>
        have := List.find?_eq_none.mp hf row hrm
        simp [hr2] at this
    have hf1 : row0.1 = lot := by simpa using List.find?_some hf
    have hf2 : row0 ∈ rowsM r lot := List.mem_of_find?_eq_some hf
    have hf3 := hpk row0 (mem_rows.mp hf2).1
    obtain ⟨b, bs, hbs⟩ : ∃ b bs, row0.2 = b :: bs := by
      cases h : row0.2 with
      | nil => exact absurd h hf3.1
      | cons b bs => exact ⟨b, bs, rfl⟩
    have hbl : b ∈ lot := by
      have := hf3.2 b (by rw [hbs]; exact List.mem_cons_self)
      rwa [hf1] at this
    have hge : getT (rowsK (rowsM r lot)) lot = some (tI (b :: bs)) := by rw [rowsK_some, hf, Option.map_some, hbs]
    refine ⟨(r, lot, d, tI lot), ⟨rfl, hd, hs, .inl rfl⟩, ?_⟩
    refine ⟨rowsK (rowsM r lot), (rowsK_prD _).symm, by rw [rowsK_keys]; exact rows_nd hn, by unfold rowsK; rw [List.length_map]; have := S2.len; omega, lot, rfl, _, hge, ?_⟩
    refine ⟨.int b, at_nat (k := 0) rfl (by simp), ?_⟩
    try simp only [List.set_cons_zero, List.set_cons_succ]
    simp only [wSeq, wPar2, as2, wDict1, wLstO, wCons, wNil, wVar, asVs, allV, asInt, asV, asD, List.nil_append, List.length_nil, List.length_cons, List.getElem?_cons_zero, List.getElem?_cons_succ, Option.map_some, List.set_cons_zero, List.cons_append]
    refine ⟨trivial, by decide, ?_⟩
    simp only [List.set_cons_zero, List.set_cons_succ, Nat.zero_add]
    have hp7 := leads_in7 (r := r) (lot := lot)
    refine ⟨fun δ M => ∃ fs left y7 y8 y9, M = [.di (fsD fs), .lst (left.map .int)] ∧ δ = [some (.v d), some (.v (tI lot)), some (.v (tI lot)), some (.v (.tup ((leadsM r lot).map pI))), some (.v (.int b)), some (.o 0), some (.o 1), y7, y8, y9, none] ∧ Wv r lot b fs left ∧
        (∀ x ∈ fs.map (·.1), x ∉ left → ∀ y, (x, y) ∈ leadsM r lot → y ∈ fs.map (·.1)),
      fun δ M => match M with | [.di f, .lst l] => 2 * (10 - f.length) + l.length | _ => 0, ⟨[(b, lot)], [b], none, none, none, rfl, rfl, ⟨by simp, by simp, by simp, fun z hz => ?_, fun z hz => ?_, fun z hz => ?_, fun x hx => by simpa using hx⟩, fun x hx hnx => absurd (by simpa using hx) hnx⟩, ?_⟩
    · rw [List.mem_singleton.mp hz]
      exact ⟨row0, hf2, hf1, by rw [hbs]; exact List.mem_cons_self⟩
    · rw [List.mem_singleton.mp hz]; exact .base
    · rw [List.mem_singleton.mp hz]; exact hbl
    rintro δ M ⟨fs, left, y7, y8, y9, rfl, rfl, W, Cl⟩
    have hfl := W.len
    have hll := W.llen
    simp only [wTest, wOp, wCB, oLen, wCons, wNil, wVar, wC, as1, contS, oB0, asInt, asBl, List.getElem?_cons_zero, List.getElem?_cons_succ, List.length_map]
    cases hz : decide (0 < (left.length : Int)) with
    | false =>
      refine (if_neg Bool.false_ne_true).mpr ?_
      have hl : left = [] := List.eq_nil_of_length_eq_zero (by simpa using hz)
      subst hl
      obtain ⟨hall, hgood⟩ := W.good hs hpk hbl (fun x hx y hy => Cl x hx (by simp) y hy) hw2
      simp only [wRet, wCB, wCons, wNil]
      refine lcM (xs := lot) Dt.int (fun a => tI (fsGet fs a)) (fun Q' q' => q') (by omega) (fun a ha A h => ?_) ?_
      · simp only [gN, wipeD, wDGet, wVar, asInt, asD, List.set_cons_zero, List.set_cons_succ, List.getElem?_cons_zero, List.getElem?_cons_succ]
        exact ⟨_, (fs_get (hall a ha)).1, h⟩
      · simp only [oTuple, as1, contS, endX, retD]
        exact q1 hb _ ⟨lot.map (fsGet fs), by rw [List.map_map]; rfl, hgood⟩
    | true =>
      refine (if_pos rfl).mpr ?_
      have hne : left ≠ [] := fun e => by subst e; simp at hz
      have hlp : 0 < left.length := List.length_pos_iff.mpr hne
      simp only [wSeq, wSet, wMt, wNil, wVar, asO, oPop, List.getElem?_cons_zero, List.getElem?_cons_succ, List.length_map]
      refine ⟨.int (left.getLast hne), by rw [List.getElem?_map, List.getLast_eq_getElem, List.getElem?_eq_getElem (by omega)]; rfl, ?_⟩
      have hdl : (left.map Dt.int).dropLast = left.dropLast.map .int := by rw [List.map_dropLast]
      have hmem : left.getLast hne ∈ fs.map (·.1) := W.sub _ (List.getLast_mem hne)
      have hsub : ∀ x ∈ left.dropLast, x ∈ left := fun x hx => (List.dropLast_sublist _).subset hx
      have hsplit : ∀ x ∈ left, x ∈ left.dropLast ∨ x = left.getLast hne := fun x hx => by
        have e := List.dropLast_concat_getLast hne
        rw [← e] at hx
        rcases List.mem_append.mp hx with h | h
        · exact .inl h
        · exact .inr (List.mem_singleton.mp h)
      refine for_i (xs := leadsM r lot) pI (fun i δ' M' => ∃ f' l' y8 y9, M' = [.di (fsD f'), .lst (l'.map .int)] ∧ δ' = [some (.v d), some (.v (tI lot)), some (.v (tI lot)), some (.v (.tup ((leadsM r lot).map pI))), some (.v (.int b)), some (.o 0), some (.o 1), some (.v (.int (left.getLast hne))), y8, y9, none] ∧ Wv r lot b f' l' ∧
          (∀ x ∈ fs.map (·.1), x ∈ f'.map (·.1)) ∧ (∀ x ∈ f'.map (·.1), x ∉ l' → x ≠ left.getLast hne → ∀ y, (x, y) ∈ leadsM r lot → y ∈ f'.map (·.1)) ∧ (∀ y, (left.getLast hne, y) ∈ (leadsM r lot).take i → y ∈ f'.map (·.1)) ∧ 2 * (10 - f'.length) + l'.length + 1 ≤ 2 * (10 - fs.length) + left.length) (fun Q' q' => q') ?_ (fun i x δ M e hh => ?_) (fun δ M hh => ?_)
      · refine ⟨fs, left.dropLast, _, _, by rw [hdl]; rfl, rfl, ⟨W.nd, W.nl.sublist (List.dropLast_sublist _), W.bg, W.row, W.rch, W.inl, fun x hx => W.sub x (hsub x hx)⟩, fun x hx => hx, fun x hx hnx hnx2 => Cl x hx fun h => (hsplit x h).elim hnx hnx2, fun y hy => by simp at hy, ?_⟩
        rw [List.length_dropLast]
        omega
      · obtain ⟨f', l', y8, y9, rfl, rfl, W', h1, h2, h3, h4⟩ := hh
        have ht : (leadsM r lot).take (i + 1) = (leadsM r lot).take i ++ [x] := by rw [List.take_succ, e]; rfl
        have hx : x ∈ leadsM r lot := List.mem_of_getElem? e
        have hfl' := W'.len
        have hll' := W'.llen
        simp only [gT, List.map_cons, List.map_nil]
        simp only [gsCons]
        simp only [gN]
        simp only [gsNil]
        simp only [List.length_cons, List.length_nil, List.set_cons_succ, List.set_cons_zero, true_and, Nat.zero_add, Nat.reduceAdd]
        simp only [wIfS, wAnd, wTest, wOp, wVar, oEqS, asSc, scEq, asBl, List.getElem?_cons_zero, List.getElem?_cons_succ]
        by_cases c1 : x.1 = left.getLast hne
        · rw [decide_eq_true c1]
          refine (if_pos rfl).mpr ?_
          simp only [wDNot, wVar, asInt, asD, List.getElem?_cons_zero, List.getElem?_cons_succ]
          rw [fs_get_none]
          by_cases c2 : x.2 ∈ f'.map (·.1)
          · rw [decide_eq_true c2]
            refine (if_neg (by simp)).mpr ?_
            refine ⟨f', l', _, _, rfl, rfl, W', h1, h2, fun y hy => ?_, h4⟩
            rw [ht] at hy
            rcases List.mem_append.mp hy with hy | hy
            · exact h3 y hy
            · have e2 := List.mem_singleton.mp hy
              have e3 : y = x.2 := by rw [← e2]
              rw [e3]; exact c2
          · rw [decide_eq_false c2]
            refine (if_pos (by simp)).mpr ?_
            obtain ⟨t, ht1, ht2⟩ := shown_ne hs hx
            have W2 := W'.add hs hpk (h1 _ hmem) c2 (by rw [← c1]; exact hx) (by rw [← c1]; exact ht2)
            have hf2 := W2.len
            have hl2 := W2.llen
            rw [List.length_append, List.length_singleton] at hf2
            simp only [wSeq, wDPut, wCallX, wCons, wNil, wVar, asVs, allV, asInt, asV, asD, List.getElem?_cons_zero, List.getElem?_cons_succ, Option.map_some]
            refine ⟨(r, lot, x.1, x.2, d), ⟨rfl, hd, hs, (leads_sub hs hpk hx).1, (leads_sub hs hpk hx).2⟩, .inl ⟨tI t, ht1, ?_⟩⟩
            have hkl : (fsD f').length ≤ 1000 := by unfold fsD; rw [List.length_map]; omega
            refine ⟨hkl, ?_⟩
            rw [fs_put c2]
            simp only [wDrop, wMt, wCons, wNil, wVar, asO, oApp, as1, asV, List.getElem?_cons_zero, List.getElem?_cons_succ, List.set_cons_zero, List.set_cons_succ, List.length_map]
            refine ⟨by omega, ?_⟩
            refine ⟨f' ++ [(x.2, t)], l' ++ [x.2], _, _, by simp, rfl, W2, fun y hy => by rw [List.map_append]; exact List.mem_append_left _ (h1 y hy), fun y hy hnx hnx2 z hzz => ?_, fun y hy => ?_, ?_⟩
            · rw [List.map_append] at hy ⊢
              rcases List.mem_append.mp hy with hy | hy
              · exact List.mem_append_left _ (h2 y hy (fun h => hnx (List.mem_append_left _ h)) hnx2 z hzz)
              · exact absurd (List.mem_append_right _ hy) hnx
            · rw [List.map_append]
              rw [ht] at hy
              rcases List.mem_append.mp hy with hy | hy
              · exact List.mem_append_left _ (h3 y hy)
              · have e2 := List.mem_singleton.mp hy
                have e3 : y = x.2 := by rw [← e2]
                rw [e3]
                exact List.mem_append_right _ List.mem_cons_self
            · rw [List.length_append, List.length_append, List.length_singleton, List.length_singleton]
              omega
        · rw [decide_eq_false c1]
          refine (if_neg (by simp)).mpr ?_
          refine ⟨f', l', _, _, rfl, rfl, W', h1, h2, fun y hy => ?_, h4⟩
          rw [ht] at hy
          rcases List.mem_append.mp hy with hy | hy
          · exact h3 y hy
          · have e2 := List.mem_singleton.mp hy
            have e3 : left.getLast hne = x.1 := by rw [← e2]
            exact absurd e3.symm c1
      · obtain ⟨f', l', y8, y9, rfl, rfl, W', h1, h2, h3, h4⟩ := hh
        rw [List.take_length] at h3
        refine ⟨⟨f', l', _, _, _, rfl, rfl, W', fun x hx hnx y hy => ?_⟩, ?_⟩
        · by_cases c : x = left.getLast hne
          · rw [c] at hy; exact h3 y hy
          · exact h2 x hx hnx c y hy
        · have e1 : (fsD f').length = f'.length := by unfold fsD; rw [List.length_map]
          have e2 : (fsD fs).length = fs.length := by unfold fsD; rw [List.length_map]
          simp only [List.length_map, e1, e2]
          omega

end
end VL
set_option Elab.async false
set_option linter.all false
set_option maxRecDepth 100000
set_option maxHeartbeats 4000000
/-! VL27: the law: draws, rows, arrows. -/
namespace VL
open PySem PySem.Spec PyProof.Rows L2 VLC
section
variable {P : Program} {w : World} {K : PySem.W.Frag} {mg : Str → Option Value} {base : Heap}
abbrev s_take : Stmt := topS 29
theorem sc_take : FnScope ["_law_urn", "_law_low_so", "_law_drawn", "_law_once", "_law_far", "_law_twice"] ["_law_urn", "_law_low_so"] (defScope s_take) := ⟨rfl, rfl, rfl, by decide +kernel, rfl, by decide +kernel, by decide +kernel⟩

abbrev s_of : Stmt := topS 33
theorem sc_of : FnScope ["_law_urn", "_law_goods"] ["_law_urn", "_law_goods"] (defScope s_of) := ⟨rfl, rfl, rfl, by decide +kernel, rfl, by decide +kernel, by decide +kernel⟩

abbrev s_llists : Stmt := topS 32
theorem sc_llists : FnScope ["_law_matter", "_law_own"] ["_law_matter"] (defScope s_llists) := ⟨rfl, rfl, rfl, by decide +kernel, rfl, by decide +kernel, by decide +kernel⟩

abbrev s_lrows : Stmt := topS 37
theorem sc_lrows : FnScope ["_law_picked_here", "_law_lot_so", "_law_own", "_law_area"] ["_law_picked_here", "_law_lot_so"] (defScope s_lrows) := ⟨rfl, rfl, rfl, by decide +kernel, rfl, by decide +kernel, by decide +kernel⟩

abbrev s_arrows : Stmt := topS 38
theorem sc_arrows : FnScope ["_law_picked_here", "_law_lot_so", "_law_rows_here", "_law_found", "_law_one", "_law_other", "_law_own"] ["_law_picked_here", "_law_lot_so"] (defScope s_arrows) := ⟨rfl, rfl, rfl, by decide +kernel, rfl, by decide +kernel, by decide +kernel⟩

abbrev s_spread : Stmt := topS 39
theorem sc_spread : FnScope ["_law_arrows_here", "_law_area", "_law_found", "_law_lap", "_law_one", "_law_other"] ["_law_arrows_here", "_law_area"] (defScope s_spread) := ⟨rfl, rfl, rfl, by decide +kernel, rfl, by decide +kernel, by decide +kernel⟩

abbrev s_liswov : Stmt := topS 40
theorem sc_liswov : FnScope ["_law_picked_here", "_law_lot_so", "_law_arrows_here", "_law_area"] ["_law_picked_here", "_law_lot_so"] (defScope s_liswov) := ⟨rfl, rfl, rfl, by decide +kernel, rfl, by decide +kernel, by decide +kernel⟩

abbrev s_least : Stmt := topS 44
theorem sc_least : FnScope ["_law_picked_here", "_law_lot_so", "_law_one", "_law_other", "_law_found", "_law_own"] ["_law_picked_here", "_law_lot_so", "_law_one", "_law_other"] (defScope s_least) := ⟨rfl, rfl, rfl, by decide +kernel, rfl, by decide +kernel, by decide +kernel⟩


/-! the urn: any numbers of which the counter is at most n -/
def UOk (n : Nat) (us : List Dt) : Prop := ∃ a b c : Int, us = [.int a, .int b, .int c] ∧ 0 ≤ a ∧ (0 ≤ b ∧ b < 4611686018427387904) ∧ 0 ≤ c ∧ c ≤ n
theorem UOk.mono {n m : Nat} {us : List Dt} (h : UOk n us) (hm : n ≤ m) : UOk m us := by
  obtain ⟨a, b, c, e, h1, h2, h3, h4⟩ := h
  exact ⟨a, b, c, e, h1, h2, h3, by omega⟩
abbrev spTake : SpecU := fnU (fun (x : Nat × Int) us ds => ds = [.int x.2] ∧ UOk x.1 us ∧ x.1 ≤ 1000000 ∧ 1 ≤ x.2 ∧ x.2 ≤ 1000) (fun x us' d => UOk (x.1 + 1) us' ∧ ∃ r : Int, d = .int r ∧ 0 ≤ r ∧ r < x.2)
theorem ok_take (D : Df K mg "_law_take" s_take ["_law_urn", "_law_low_so"]) (B : Bs mg) : Cl P w K mg base CX0 1 "_law_take" ["_law_urn", "_law_low_so"] (spU spTake) := by
  refine v_defU D sc_take (fun y us ds h => by rw [h.1]; rfl) fun fa cdv A outer s H E hr => ?_
  have Sc := sc_take

  refine ⟨_, (vs_cons (v_ifS (vt_cmp vo_gt (v_ix (vv 0) v_int) v_int (by rfl)) (vs_cons (v_set (i := 2) Sc.nd (v_op vo_mod (v_ty vc_int B.int (va_cons (v_ix (vv 0) v_int) va_nil)) (vv 1)))
    (vs_cons (v_setIx (v_op vo_fdiv (v_ix (vv 0) v_int) (vv 1)) (vv 0) v_int)
    (vs_one (v_ret (vv 2))))) vs_nil)
    (vs_cons (v_setIx (v_op vo_add (v_ix (vv 0) v_int) v_int) (vv 0) v_int)
    (vs_cons (v_set (i := 3) Sc.nd (v_op vo_mod (v_ty vc_int B.int (va_cons (v_op vo_mul (v_op vo_add (v_ix (vv 0) v_int) (v_op vo_mul v_int (v_ix (vv 0) v_int))) (v_op vo_add v_int (v_ix (vv 0) v_int))) va_nil)) v_int))
    (vs_cons (v_set (i := 4) Sc.nd (v_op vo_add (v_op vo_mod (v_ty vc_int B.int (va_cons (vv 3) va_nil)) v_int) v_int))
    (vs_cons (v_set (i := 5) Sc.nd (v_op vo_mod (v_ty vc_int B.int (va_cons (v_op vo_mul (v_op vo_add (v_op vo_add (vv 3) (v_ix (vv 0) v_int)) (v_op vo_fdiv (v_ix (vv 0) v_int) v_int)) (vv 4)) va_nil)) v_int))
    (vs_one (v_ret (v_op vo_mod (v_ty vc_int B.int (va_cons (v_op vo_fdiv (v_op vo_mod (v_ty vc_int B.int (va_cons (v_op vo_add (v_op vo_mul (vv 5) v_int) (vv 3)) va_nil)) v_int) v_int) va_nil)) (vv 1))))))))), ?_⟩
  rintro ⟨n, low⟩ us ds Q ⟨rfl, hu, hn, h1, h2⟩ q
  dsimp only at hu hn h1 h2 q ⊢
  obtain ⟨a, b, c, rfl, ha, ⟨hb0, hb1⟩, hc0, hc1⟩ := hu
  have i0 : atI [Dt.int a, Dt.int b, Dt.int c] 0 = some (.int a) := rfl
  simp only [wSeq, wIfS, wTest, wOp, oIx, wVar, wC, slots0, List.map_cons, List.map_nil, List.length_cons, List.length_nil, Nat.reduceSub, Nat.reduceAdd, List.replicate_succ, List.replicate_zero, List.cons_append, List.nil_append, List.getElem?_cons_zero, List.getElem?_cons_succ, contS, asInt, oB0, asBl]
  refine ⟨_, i0, ?_⟩
  dsimp only
  have i1 : ∀ a c : Int, atI [Dt.int a, Dt.int b, Dt.int c] 1 = some (.int b) := fun _ _ => rfl
  have i2 : ∀ a c : Int, atI [Dt.int a, Dt.int b, Dt.int c] 2 = some (.int c) := fun _ _ => rfl
  by_cases hp : 0 < a
  · refine (if_pos (decide_eq_true hp)).mpr ?_
    simp only [wSeq, wSet, wRet, wOp, oI, wCB, oInt1, wCons, wNil, wVar, wC, oIx, contS, as1, asInt, List.getElem?_cons_zero, List.getElem?_cons_succ]
    refine ⟨_, i0, ?_⟩
    dsimp only
    refine ⟨by omega, ?_⟩
    simp only [wSetIx, wOp, oI, oIx, wVar, wC, contS, asInt, asV, asO, List.set_cons_zero, List.set_cons_succ, List.getElem?_cons_zero, List.getElem?_cons_succ]
    refine ⟨_, i0, ?_⟩
    dsimp only
    refine ⟨⟨by omega, by omega⟩, 0, rfl, ?_⟩
    simp only [wVar, endU, retD, asM0, List.set_cons_zero, List.set_cons_succ, List.getElem?_cons_zero, List.getElem?_cons_succ]
    exact q _ _ ⟨⟨a / low, b, c, rfl, Int.ediv_nonneg ha (by omega), ⟨hb0, hb1⟩, hc0, by omega⟩, _, rfl, Int.emod_nonneg _ (by omega), Int.emod_lt_of_pos _ (by omega)⟩
  · refine (if_neg (by simpa using hp)).mpr ?_
    have w1 : ∀ a' c' : Int, ([Dt.int a', Dt.int b, Dt.int c'] : List Dt).length = 3 := fun _ _ => rfl
    simp only [wNext]
    simp only [wSeq, wSetIx, wOp, oI0, oIx, wVar, wC, contS, asInt, asV, asO, List.getElem?_cons_zero, List.getElem?_cons_succ]
    refine ⟨_, i2 a c, ?_⟩
    dsimp only
    refine ⟨2, rfl, ?_⟩
    simp only [List.set_cons_zero, List.set_cons_succ]
    simp only [wSet, wOp, oI, oI0, oIx, wCB, oInt1, wCons, wNil, wVar, wC, contS, as1, asInt, List.getElem?_cons_zero, List.getElem?_cons_succ]
    refine ⟨_, i1 a (c + 1), _, i2 a (c + 1), ?_⟩
    dsimp only
    refine ⟨.inl ⟨by omega, by omega⟩, _, i2 a (c + 1), ?_⟩
    dsimp only
    refine ⟨.inr ⟨by omega, by omega⟩, by omega, ?_⟩
    simp only [List.set_cons_zero, List.set_cons_succ, List.getElem?_cons_zero, List.getElem?_cons_succ]
    generalize hon : (b + 48271 * (c + 1)) * (39373 + (c + 1)) % 2147483647 = once
    have o1 : 0 ≤ once := by rw [← hon]; exact Int.emod_nonneg _ (by omega)
    have o2 : once < 2147483647 := by rw [← hon]; exact Int.emod_lt_of_pos _ (by omega)
    refine ⟨by omega, ?_⟩
    generalize hfa : once % 40009 + 7 = far
    have f1 : 0 ≤ far := by rw [← hfa]; have := Int.emod_nonneg once (b := 40009) (by omega); omega
    have f2 : far < 40100 := by rw [← hfa]; have := Int.emod_lt_of_pos once (b := 40009) (by omega); omega
    refine ⟨_, i2 a (c + 1), ?_⟩
    dsimp only
    refine ⟨_, i1 a (c + 1), ?_⟩
    dsimp only
    refine ⟨⟨by omega, by omega⟩, .inr ⟨by omega, by omega⟩, by omega, ?_⟩
    simp only [wRet, wOp, oI, oI0, wCB, oInt1, wCons, wNil, wVar, wC, as1, asInt, List.set_cons_zero, List.set_cons_succ, List.getElem?_cons_zero, List.getElem?_cons_succ]
    refine ⟨.inr ⟨by omega, by omega⟩, by omega, ⟨by omega, by omega⟩, by omega, ?_⟩
    simp only [endU, retD, asM0, List.getElem?_cons_zero]
    exact q _ _ ⟨⟨a, b, c + 1, rfl, ha, ⟨hb0, hb1⟩, by omega, by omega⟩, _, rfl, Int.emod_nonneg _ (by omega), Int.emod_lt_of_pos _ (by omega)⟩

end
end VL
set_option Elab.async false
set_option linter.all false
set_option maxRecDepth 100000
set_option maxHeartbeats 4000000
/-! VL28: the law: of, rows, arrows, spread. -/
namespace VL
open PySem PySem.Spec PyProof.Rows L2 VLC
section
variable {P : Program} {w : World} {K : PySem.W.Frag} {mg : Str → Option Value} {base : Heap}

abbrev spOf : SpecU := fnU (fun (x : Nat × List Dt × Dt) us ds => ds = [x.2.2] ∧ (x.2.2 = .lst x.2.1 ∨ x.2.2 = .tup x.2.1) ∧ UOk x.1 us ∧ x.1 ≤ 1000000 ∧ 1 ≤ x.2.1.length ∧ x.2.1.length ≤ 1000) (fun x us' d => UOk (x.1 + 1) us' ∧ d ∈ x.2.1)
theorem ok_of (D : Df K mg "_law_of" s_of ["_law_urn", "_law_goods"]) (B : Bs mg) (C__law_take : Cl P w K mg base CX0 1 "_law_take" ["_law_urn", "_law_low_so"] (spU spTake)) : Cl P w K mg base CX0 2 "_law_of" ["_law_urn", "_law_goods"] (spU spOf) := by
  refine v_defU D sc_of (fun y us ds h => by rw [h.1]; rfl) fun fa cdv A outer s H E hr => ?_
  have Sc := sc_of

  refine ⟨_, (vs_one (v_ret (v_ix (vv 1) (v_cU C__law_take (hr.mono (by omega)) (va_cons (vv 0) (va_cons (v_b vc_len B.len (va_cons (vv 1) va_nil)) va_nil)))))), ?_⟩
  rintro ⟨n, xs, d⟩ us ds Q ⟨rfl, hd, hu, hn, h1, h2⟩ q
  dsimp only at hd hu hn h1 h2 q ⊢
  simp only [wRet, wOp, oIx, wVar, wCallU, wCons, wNil, wCB, oLen, as1, asU, asVs, allV, Option.map_some, slots0, List.map_cons, List.map_nil, List.length_cons, List.length_nil, Nat.reduceSub, Nat.reduceAdd, List.replicate_succ, List.replicate_zero, List.cons_append, List.nil_append, List.getElem?_cons_zero, List.getElem?_cons_succ]
  have fin : ∀ (us' : List Dt) (d' : Dt), (UOk (n + 1) us' ∧ ∃ r : Int, d' = .int r ∧ 0 ≤ r ∧ r < (xs.length : Int)) → asInt (.v d') fun i => ∃ e, atI xs i = some e ∧ (endU Q).rt (.v e) ([Ct.lst us].set 0 (.lst us')) := by
    rintro us' _ ⟨hu', r, rfl, r0, r1⟩
    refine ⟨xs[r.toNat]'(by omega), at_nat (k := r.toNat) (by omega) (by omega), ?_⟩
    simp only [endU, retD, asM0, List.set_cons_zero, List.getElem?_cons_zero]
    exact q _ _ ⟨hu', List.getElem_mem _⟩
  rcases hd with rfl | rfl
  · simp only [contS]
    exact ⟨(n, (xs.length : Int)), ⟨rfl, hu, hn, by omega, by omega⟩, fun us' d' h => fin us' d' h⟩
  · simp only [contS]
    exact ⟨(n, (xs.length : Int)), ⟨rfl, hu, hn, by omega, by omega⟩, fun us' d' h => fin us' d' h⟩
/-! lists of lists -/
def lof : Nat → Dt → Option Dt
  | 0, _ => none
  | n + 1, d => match d with
    | .int i => some (.int i)
    | .tup ds => if ds.length ≤ 1000 then (tofL (lof n) ds).map .lst else none
    | .lst ds => if ds.length ≤ 1000 then (tofL (lof n) ds).map .lst else none
    | _ => none
abbrev spLof (n : Nat) : Spec := fnS (fun (x : Dt × Dt) ds => ds = [x.1] ∧ lof n x.1 = some x.2) (·.2)
theorem ok_lof1 (D : Df K mg "_law_lists" s_llists ["_law_matter"]) (B : Bs mg) (n k : Nat) (C__law_lists : Cl P w K mg base CX0 k "_law_lists" ["_law_matter"] (spV (spLof n))) : Cl P w K mg base CX0 (k + 1) "_law_lists" ["_law_matter"] (spV (spLof (n + 1))) := by
  refine v_def D sc_llists (fun y ds h => by rw [h.1]; rfl) fun fa cdv A outer s H E hr => ?_
  have Sc := sc_llists

  refine ⟨_, (vs_one (v_ret (v_if (vt_val (v_is2 isi_lst isi_tup B.isinstance B.list B.tuple (vv 0))) (v_lc (own := [("_law_own", 1)]) rfl Sc.nd (vi_seq (vv 0)) (blkOk_by (by rfl)) (fun _ _ _ _ _ => (vg_name (i := 1) Sc.nd)) (fun _ _ _ _ _ => vts_nil) (fun _ _ _ _ _ => (v_c C__law_lists (hr.mono (by omega)) (va_cons (vv 1) va_nil)))) (vv 0)))), ?_⟩
  rintro ⟨d, d'⟩ _ Q ⟨rfl, h⟩ q
  have seq : ∀ (d : Dt) (ds : List Dt), (d = .tup ds ∨ d = .lst ds) → (if ds.length ≤ 1000 then (tofL (lof n) ds).map Dt.lst else none) = some d' → wLc [1] (wSeqI (wVar 0)) (gN 1) wYes (wCall (spLof n) (wCons (wVar 1) wNil)) [some (.v d), none] [] (endV Q).rt := by
    intro d ds hd h
    by_cases hz : ds.length ≤ 1000
    · rw [if_pos hz] at h
      obtain ⟨es, h1, rfl⟩ := Option.map_eq_some_iff.mp h
      obtain ⟨hl, hg⟩ := tofL_get h1
      have hi : ∀ Q' : List Dt → Me → Prop, Q' ds [] → wSeqI (wVar 0) [some (.v d), none] [] Q' := fun Q' q' => by
        rcases hd with rfl | rfl <;> exact q'
      refine hi _ ⟨hz, fun i acc M => M = [] ∧ acc = es.take i, ⟨rfl, rfl⟩, fun i e acc M he hp => ?_, fun acc M hp => ?_⟩
      · obtain ⟨rfl, rfl⟩ := hp
        obtain ⟨e', f1, f2⟩ := hg i e he
        simp only [gN, wYes, wipeD, wCall, wCons, wNil, wVar, asVs, allV, asV, List.set_cons_zero, List.set_cons_succ, List.getElem?_cons_zero, List.getElem?_cons_succ, Option.map_some, if_true]
        refine ⟨(e, e'), ⟨rfl, f1⟩, ?_⟩
        rw [List.take_succ, f2]
        exact ⟨trivial, rfl⟩
      · obtain ⟨rfl, rfl⟩ := hp
        rw [hl, List.take_length]
        exact q
    · rw [if_neg hz] at h
      cases h
  simp only [wRet, wIf, wTest, wIsi, wVar, asV, asBl, slots0, List.map_cons, List.map_nil, List.length_cons, List.length_nil, Nat.reduceSub, Nat.reduceAdd, List.replicate_succ, List.replicate_zero, List.cons_append, List.nil_append, List.getElem?_cons_zero, List.getElem?_cons_succ]
  cases d with
  | tup ds => exact (if_pos rfl).mpr (seq _ ds (.inl rfl) h)
  | lst ds => exact (if_pos rfl).mpr (seq _ ds (.inr rfl) h)
  | int i => cases h; exact (if_neg (by simp [isLst, isTup])).mpr q
  | _ => cases h
theorem ok_lof (D : Df K mg "_law_lists" s_llists ["_law_matter"]) (B : Bs mg) : ∀ n : Nat, Cl P w K mg base CX0 n "_law_lists" ["_law_matter"] (spV (spLof n))
  | 0 => by
    obtain ⟨g, fd, F, r⟩ := (cl_none (CX := CX0) (k := 0) (f := fun x : Dt × Dt => x.2) D (P := P) (w := w) (base := base)).ex
    refine ⟨g, fd, F.imp (fun vs H Q E h => ?_), r⟩
    obtain ⟨av, ds, h1, h2, x, ⟨_, h4⟩, _⟩ := h
    cases h4
  | n + 1 => ok_lof1 D B n n (ok_lof D B n)
theorem lof_rule {r : Rl} (S : SmallR r) : lof 4 (ruleT r) = some (ruleL r) := by
  have e0 : ∀ ns : List Int, ns.length ≤ 1000 → lof 2 (tI ns) = some (lI ns) := fun ns h => by
    show (if (ns.map Dt.int).length ≤ 1000 then (tofL (lof 1) (ns.map .int)).map Dt.lst else none) = _
    rw [if_pos (by rw [List.length_map]; exact h), tofL_map (f := lof 1) (g := Dt.int) (h := Dt.int) fun _ _ => rfl]
    rfl
  have e1 : ∀ x ∈ r, lof 3 (prT x) = some (prL x) := fun x hx => by
    obtain ⟨a, b⟩ := S.each x hx
    show (if ([tI x.1, tI x.2] : List Dt).length ≤ 1000 then (tofL (lof 2) [tI x.1, tI x.2]).map Dt.lst else none) = _
    rw [if_pos (by simp), tofL, e0 _ (by omega), Option.bind_some, tofL, e0 _ (by omega)]
    rfl
  have hl := S.len
  show (if (r.map prT).length ≤ 1000 then (tofL (lof 3) (r.map prT)).map Dt.lst else none) = _
  rw [if_pos (by rw [List.length_map]; omega), tofL_map e1]
  rfl
/-! rows -/
abbrev spLRows : Spec := fnS (fun (x : Rl × List Int) ds => ds = [ruleT x.1, tI x.2] ∧ SmallR x.1) fun x => rowsD (rowsM x.1 x.2)
theorem ok_lrows (D : Df K mg "_law_rows" s_lrows ["_law_picked_here", "_law_lot_so"]) (B : Bs mg) : Cl P w K mg base CX0 1 "_law_rows" ["_law_picked_here", "_law_lot_so"] (spV spLRows) := by
  refine v_def D sc_lrows (fun y ds h => by rw [h.1]; rfl) fun fa cdv A outer s H E hr => ?_
  have Sc := sc_lrows

  refine ⟨_, (vs_one (v_ret (v_lc (own := [("_law_own", 2)]) rfl Sc.nd (vi_seq (vv 0)) (blkOk_by (by rfl)) (fun _ _ _ _ _ => (vg_name (i := 2) Sc.nd)) (fun _ _ _ _ _ => (vts_one (vt_val (v_b (vc_all rfl) B.all (va_cons (v_lc (own := [("_law_area", 3)]) rfl Sc.nd (vi_seq (v_ix (vv 2) v_int)) (blkOk_by (by rfl)) (fun _ _ _ _ _ => (vg_name (i := 3) Sc.nd)) (fun _ _ _ _ _ => vts_nil) (fun _ _ _ _ _ => (v_cmp vo_in (vv 3) (vv 1) (by rfl)))) va_nil))))) (fun _ _ _ _ _ => (vv 2))))), ?_⟩
  rintro ⟨r, lot⟩ _ Q ⟨rfl, hs⟩ q
  dsimp only at hs q ⊢
  simp only [wRet, slots0, List.map_cons, List.map_nil, List.length_cons, List.length_nil, Nat.reduceSub, Nat.reduceAdd, List.replicate_succ, List.replicate_zero, List.cons_append, List.nil_append, List.getElem?_cons_zero, List.getElem?_cons_succ]
  refine lcF (xs := r) prT (fun x => x.1.all fun a => decide (a ∈ lot)) prT (fun Q' q' => q') (by have := hs.len; omega) (fun x hx A B h1 h2 => ?_) q
  obtain ⟨a1, a2⟩ := hs.each x hx
  simp only [gN, wipeD, wTest, wCB, wCons, wNil, prT, List.set_cons_zero, List.set_cons_succ]
  refine lcM (xs := x.1) Dt.int (fun a => .bl (decide (a ∈ lot))) (fun Q' q' => ?_) (by omega) (fun a ha A h => ?_) ?_
  · simp only [wSeqI, wOp, oIx, wVar, wC, contS, asInt, List.getElem?_cons_zero, List.getElem?_cons_succ]
    exact ⟨_, rfl, q'⟩
  · simp only [gN, wipeD, wOp, oIn, wVar, contS, asInt, List.set_cons_zero, List.set_cons_succ, List.getElem?_cons_zero, List.getElem?_cons_succ]
    exact ⟨lot, rfl, h⟩
  · simp only [oAll, as1, contL, wVar, List.getElem?_cons_zero, List.getElem?_cons_succ]
    refine ⟨x.1.map fun a => decide (a ∈ lot), by rw [List.map_map]; rfl, ?_⟩
    have e : (x.1.map fun a => decide (a ∈ lot)).all id = x.1.all fun a => decide (a ∈ lot) := by rw [List.all_map]; rfl
    rw [e]
    cases hb : x.1.all fun a => decide (a ∈ lot) with
    | true => exact (if_pos rfl).mpr (h1 hb)
    | false => exact (if_neg Bool.false_ne_true).mpr (h2 hb)

end
end VL
set_option Elab.async false
set_option linter.all false
set_option maxRecDepth 100000
set_option maxHeartbeats 4000000
/-! VL29: the law: arrows, spread, least. -/
namespace VL
open PySem PySem.Spec PyProof.Rows L2 VLC
section
variable {P : Program} {w : World} {K : PySem.W.Frag} {mg : Str → Option Value} {base : Heap}

/-! spread -/
def sprS (ps : Prs) (l : List Int) : List Int := l ++ (ps.filter fun x => decide (x.1 ∈ l) && !decide (x.2 ∈ l)).map (·.2)
def sprN (ps : Prs) (a : Int) : Nat → List Int
  | 0 => [a]
  | k + 1 => sprS ps (sprN ps a k)
theorem mem_sprS {ps : Prs} {l : List Int} {y : Int} : y ∈ sprS ps l ↔ y ∈ l ∨ ∃ x, (x, y) ∈ ps ∧ x ∈ l ∧ y ∉ l := by
  unfold sprS
  rw [List.mem_append, List.mem_map]
  refine or_congr Iff.rfl ?_
  constructor
  · rintro ⟨x, hx, rfl⟩
    obtain ⟨h1, h2⟩ := List.mem_filter.mp hx
    simp only [Bool.and_eq_true, decide_eq_true_eq, Bool.not_eq_true', decide_eq_false_iff_not] at h2
    exact ⟨x.1, h1, h2⟩
  · rintro ⟨x, h1, h2, h3⟩
    refine ⟨(x, y), List.mem_filter.mpr ⟨h1, ?_⟩, rfl⟩
    simp only [Bool.and_eq_true, decide_eq_true_eq, Bool.not_eq_true', decide_eq_false_iff_not]
    exact ⟨h2, h3⟩
theorem spr_rch {ps : Prs} {a : Int} : ∀ k, ∀ y ∈ sprN ps a k, Rch ps a y
  | 0, y, h => by rw [List.mem_singleton.mp h]; exact .base
  | k + 1, y, h => by
    rcases mem_sprS.mp h with h | ⟨x, h1, h2, _⟩
    · exact spr_rch k y h
    · exact .step (spr_rch k x h2) h1
def misN (l : List Int) : Nat := ((rg 7).filter fun b => !decide (b ∈ l)).length
def ClP (ps : Prs) (l : List Int) : Prop := ∀ x y, (x, y) ∈ ps → x ∈ l → y ∈ l
theorem spr_or {ps : Prs} {a : Int} (hp : ∀ x ∈ ps, pIn x) (ha : 0 ≤ a ∧ a < 7) : ∀ k, ClP ps (sprN ps a k) ∨ misN (sprN ps a k) + k ≤ 6
  | 0 => by
    right
    have h : (a :: (rg 7).filter fun b => !decide (b ∈ [a])).Nodup := by
      refine List.nodup_cons.mpr ⟨fun h => ?_, Srt.nd ((rg_sorted 7).filter _)⟩
      have := (List.mem_filter.mp h).2
      simp at this
    have h2 := List.Nodup.length_le_of_subset (l₂ := rg 7) h fun x hx => by
      rcases List.mem_cons.mp hx with rfl | hx
      · exact mem_rg.mpr ha
      · exact (List.mem_filter.mp hx).1
    rw [List.length_cons, rg_len] at h2
    show ((rg 7).filter fun b => !decide (b ∈ [a])).length + 0 ≤ 6
    omega
  | k + 1 => by
    by_cases hc : ClP ps (sprN ps a k)
    · left
      intro x y h hx
      have e : ∀ z, z ∈ sprN ps a (k + 1) ↔ z ∈ sprN ps a k := fun z => by
        constructor
        · intro h
          rcases mem_sprS.mp h with h | ⟨x, h1, h2, _⟩
          · exact h
          · exact hc x z h1 h2
        · intro h
          exact mem_sprS.mpr (.inl h)
      rw [e] at hx ⊢
      exact hc x y h hx
    · right
      have hk := (spr_or hp ha k).resolve_left hc
      have hc' : ∃ x y, (x, y) ∈ ps ∧ x ∈ sprN ps a k ∧ y ∉ sprN ps a k := Classical.byContradiction fun hn => hc fun x y h hx => Classical.byContradiction fun hy => hn ⟨x, y, h, hx, hy⟩
      obtain ⟨x, y, h1, h2, h3⟩ := hc'
      have hy : y ∈ sprN ps a (k + 1) := mem_sprS.mpr (.inr ⟨x, h1, h2, h3⟩)
      have h4 : (y :: (rg 7).filter fun b => !decide (b ∈ sprN ps a (k + 1))).Nodup := by
        refine List.nodup_cons.mpr ⟨fun h => ?_, Srt.nd ((rg_sorted 7).filter _)⟩
        have := (List.mem_filter.mp h).2
        simp [hy] at this
      have h5 := List.Nodup.length_le_of_subset (l₂ := (rg 7).filter fun b => !decide (b ∈ sprN ps a k)) h4 fun z hz => by
        rcases List.mem_cons.mp hz with rfl | hz
        · exact List.mem_filter.mpr ⟨mem_rg.mpr (hp _ h1).2, by simpa using h3⟩
        · obtain ⟨a1, a2⟩ := List.mem_filter.mp hz
          refine List.mem_filter.mpr ⟨a1, ?_⟩
          simp only [Bool.not_eq_true', decide_eq_false_iff_not] at a2 ⊢
          exact fun h => a2 (mem_sprS.mpr (.inl h))
      rw [List.length_cons] at h5
      unfold misN at hk ⊢
      omega
theorem spr_iff {ps : Prs} {a : Int} (hp : ∀ x ∈ ps, pIn x) (ha : 0 ≤ a ∧ a < 7) (y : Int) : y ∈ sprN ps a 7 ↔ Rch ps a y := by
  refine ⟨spr_rch 7 y, fun h => ?_⟩
  have hc : ClP ps (sprN ps a 7) := (spr_or hp ha 7).resolve_right (by omega)
  have h0 : ∀ k, a ∈ sprN ps a k := fun k => by
    induction k with
    | zero => exact List.mem_cons_self
    | succ k ih => exact mem_sprS.mpr (.inl ih)
  induction h with
  | base => exact h0 7
  | step _ e ih => exact hc _ _ e ih
theorem spr_len {ps : Prs} {a : Int} : ∀ k, (sprN ps a k).length ≤ 1 + k * ps.length
  | 0 => by simp [sprN]
  | k + 1 => by
    have h := spr_len (ps := ps) (a := a) k
    have h2 := List.length_filter_le (fun x : Int × Int => decide (x.1 ∈ sprN ps a k) && !decide (x.2 ∈ sprN ps a k)) ps
    show (sprS ps (sprN ps a k)).length ≤ _
    unfold sprS
    rw [List.length_append, List.length_map, Nat.succ_mul]
    omega
abbrev spSpread : Spec := fnS (fun (x : Prs × Int) ds => ds = [.lst (x.1.map pI), .int x.2] ∧ x.1.length ≤ 100 ∧ (∀ y ∈ x.1, pIn y) ∧ 0 ≤ x.2 ∧ x.2 < 7) fun x => tI (rchL x.1 x.2)
theorem ok_spread (D : Df K mg "_law_spread" s_spread ["_law_arrows_here", "_law_area"]) (B : Bs mg) : Cl P w K mg base CX0 1 "_law_spread" ["_law_arrows_here", "_law_area"] (spV spSpread) := by
  refine v_def D sc_spread (fun y ds h => by rw [h.1]; rfl) fun fa cdv A outer s H E hr => ?_
  have Sc := sc_spread

  refine ⟨_, (vs_cons (v_set (i := 2) Sc.nd (v_lst (va_cons (vv 1) va_nil)))
    (vs_cons (v_for rfl (vi_r1 B.range (va_cons v_int va_nil)) (vg_name (i := 3) Sc.nd) (vs_one (v_set (i := 2) Sc.nd (v_op vo_cat (vv 2) (v_lc (own := [("_law_one", 4), ("_law_other", 5)]) rfl Sc.nd (vi_seq (vv 0)) (blkOk_by (by rfl)) (fun _ _ _ _ _ => (vg_tup (n := 2) rfl (vgs_cons (vg_name (i := 4) Sc.nd) (vgs_cons (vg_name (i := 5) Sc.nd) vgs_nil)))) (fun _ _ _ _ _ => (vts_one (VW.vt (vw_and (vt_cmp vo_in (vv 4) (vv 2) (by rfl)) (vw_and1 (vt_cmp vo_notIn (vv 5) (vv 2) (by rfl))))))) (fun _ _ _ _ _ => (vv 5)))))) PassesOwn.never)
    (vs_one (v_ret (v_ty vc_tuple B.tuple (va_cons (v_sortSetI rfl (hu4 hr) B.sorted B.set (vv 2)) va_nil)))))), ?_⟩
  rintro ⟨ps, a⟩ _ Q ⟨rfl, hz, hp, ha⟩ q
  dsimp only at hz hp ha q ⊢
  simp only [wSeq, wSet, wLst, wCons, wNil, wVar, asVs, allV, Option.map_some, slots0, List.map_cons, List.map_nil, List.length_cons, List.length_nil, Nat.reduceSub, Nat.reduceAdd, List.replicate_succ, List.replicate_zero, List.cons_append, List.nil_append, List.getElem?_cons_zero, List.getElem?_cons_succ, List.set_cons_zero, List.set_cons_succ, List.getElem?_cons_zero, List.getElem?_cons_succ]
  refine ⟨by decide, ?_⟩
  refine for_i (xs := List.range 7) (fun i : Nat => Dt.int (0 + (i : Nat))) (fun i δ M => M = [] ∧ ∃ y3, δ = [some (.v (.lst (ps.map pI))), some (.v (.int a)), some (.v (lI (sprN ps a i))), y3, none, none]) (fun Q' q' => ?_) ⟨rfl, _, rfl⟩ (fun i x δ M e hh => ?_) (fun δ M hh => ?_)
  · simp only [wRng1, wCons, wNil, wC, as1, asInt]
    exact ⟨⟨by omega, by omega⟩, q'⟩
  · obtain ⟨rfl, y3, rfl⟩ := hh
    have hi : i < 7 := by have := (List.getElem?_eq_some_iff.mp e).1; rwa [List.length_range] at this
    have hl := spr_len (ps := ps) (a := a) i
    have hl2 : i * ps.length ≤ 6 * 100 := Nat.mul_le_mul (by omega) hz
    simp only [gN, wSet, wOp, wVar, List.set_cons_zero, List.set_cons_succ, List.getElem?_cons_zero, List.getElem?_cons_succ]
    refine lcF (xs := ps) pI (fun x => decide (x.1 ∈ sprN ps a i) && !decide (x.2 ∈ sprN ps a i)) (fun x => .int x.2) (fun Q' q' => q') (by omega) (fun x hx A B h1 h2 => ?_) ?_
    · simp only [gT, List.map_cons, List.map_nil]
      simp only [gsCons]
      simp only [gN]
      simp only [gsNil]
      simp only [List.length_cons, List.length_nil, wipeD, true_and, Nat.zero_add, Nat.reduceAdd, List.set_cons_zero, List.set_cons_succ, List.getElem?_cons_zero, List.getElem?_cons_succ]
      simp only [wAnd, wTest, wOp, oIn, wVar, asInt, contS, asBl, asV, List.set_cons_zero, List.set_cons_succ, List.getElem?_cons_zero, List.getElem?_cons_succ]
      refine ⟨sprN ps a i, rfl, ?_⟩
      simp only [Bool.false_eq_true, if_false]
      cases c1 : decide (x.1 ∈ sprN ps a i) with
      | false =>
        rw [c1, Bool.false_and] at h2
        exact (if_neg Bool.false_ne_true).mpr (h2 rfl)
      | true =>
        rw [c1, Bool.true_and] at h1 h2
        refine (if_pos rfl).mpr ⟨sprN ps a i, rfl, ?_⟩
        simp only [if_true]
        cases c2 : !decide (x.2 ∈ sprN ps a i) with
        | false => exact (if_neg Bool.false_ne_true).mpr (h2 c2)
        | true => exact (if_pos rfl).mpr (h1 c2)
    · simp only [oCat, contL]
      have h2 := List.length_filter_le (fun x : Int × Int => decide (x.1 ∈ sprN ps a i) && !decide (x.2 ∈ sprN ps a i)) ps
      refine ⟨by rw [List.length_map, List.length_map]; omega, trivial, some (.v (.int (0 + (x : Int)))), ?_⟩
      try simp only [List.set_cons_zero, List.set_cons_succ, List.getElem?_cons_zero, List.getElem?_cons_succ]
      have e3 : sprN ps a (i + 1) = sprN ps a i ++ (ps.filter fun x => decide (x.1 ∈ sprN ps a i) && !decide (x.2 ∈ sprN ps a i)).map (·.2) := rfl
      rw [e3]
      simp only [lI, List.map_append, List.map_map]
      rfl
  · obtain ⟨rfl, y3, rfl⟩ := hh
    simp only [wRet, wCB, wCons, wNil, wSortSetI, wVar, contL, oTuple, as1, contS, List.length_range, List.set_cons_zero, List.set_cons_succ, List.getElem?_cons_zero, List.getElem?_cons_succ]
    have hl := spr_len (ps := ps) (a := a) 7
    refine ⟨sprN ps a 7, rg 7, rfl, by omega, fun k hk => mem_rg.mpr ((spr_rch 7 k hk).inn hp ha), by decide +kernel, fun ns h1 h2 => ?_⟩
    rw [rchL_uniq hp ha h1 fun b => by rw [h2 b]; exact spr_iff hp ha b]
    exact q

/-! arrows -/
def arrM (r : Rl) (lot : List Int) : Prs := lot.flatMap fun one => (lot.filter fun other => !decide (one = other) && ((rowsM r lot).any fun x => decide (one ∈ x.1) && decide (other ∈ x.2))).map fun other => (one, other)
theorem mem_arr {r : Rl} {lot : List Int} {p : Int × Int} : p ∈ arrM r lot ↔ p.1 ∈ lot ∧ p.2 ∈ lot ∧ p.1 ≠ p.2 ∧ ∃ x ∈ rowsM r lot, p.1 ∈ x.1 ∧ p.2 ∈ x.2 := by
  unfold arrM
  rw [List.mem_flatMap]
  constructor
  · rintro ⟨one, h1, hp⟩
    obtain ⟨other, h2, rfl⟩ := List.mem_map.mp hp
    obtain ⟨h3, h4⟩ := List.mem_filter.mp h2
    simp only [Bool.and_eq_true, decide_eq_true_eq, Bool.not_eq_true', decide_eq_false_iff_not, List.any_eq_true] at h4
    exact ⟨h1, h3, h4.1, h4.2⟩
  · rintro ⟨h1, h2, h3, h4⟩
    refine ⟨p.1, h1, List.mem_map.mpr ⟨p.2, List.mem_filter.mpr ⟨h2, ?_⟩, rfl⟩⟩
    simp only [Bool.and_eq_true, decide_eq_true_eq, Bool.not_eq_true', decide_eq_false_iff_not, List.any_eq_true]
    exact ⟨h3, h4⟩
abbrev spArr : Spec := fnS (fun (x : Rl × List Int) ds => ds = [ruleT x.1, tI x.2] ∧ SmallR x.1 ∧ x.2.length ≤ 10) fun x => .lst ((arrM x.1 x.2).map pI)
def arrP (r : Rl) (lot : List Int) (one : Int) (l : List Int) : Prs := (l.filter fun other => !decide (one = other) && ((rowsM r lot).any fun x => decide (one ∈ x.1) && decide (other ∈ x.2))).map fun other => (one, other)
theorem arrP_len {r : Rl} {lot : List Int} {one : Int} {l : List Int} : (arrP r lot one l).length ≤ l.length := by
  unfold arrP
  rw [List.length_map]
  exact List.length_filter_le _ _
def arrL (r : Rl) (lot l : List Int) : Prs := l.flatMap fun one => arrP r lot one lot
theorem arrL_len {r : Rl} {lot : List Int} : ∀ l : List Int, (arrL r lot l).length ≤ lot.length * l.length
  | [] => by simp [arrL]
  | one :: l => by
    have h := arrL_len (r := r) (lot := lot) l
    have h2 := arrP_len (r := r) (lot := lot) (one := one) (l := lot)
    have e : arrL r lot (one :: l) = arrP r lot one lot ++ arrL r lot l := by unfold arrL; rw [List.flatMap_cons]
    rw [e, List.length_append, List.length_cons, Nat.mul_succ]
    omega
theorem ok_arrows (D : Df K mg "_law_arrows" s_arrows ["_law_picked_here", "_law_lot_so"]) (B : Bs mg) (C__law_rows : Cl P w K mg base CX0 1 "_law_rows" ["_law_picked_here", "_law_lot_so"] (spV spLRows)) : Cl P w K mg base CX0 2 "_law_arrows" ["_law_picked_here", "_law_lot_so"] (spV spArr) := by
  refine v_def D sc_arrows (fun y ds h => by rw [h.1]; rfl) fun fa cdv A outer s H E hr => ?_
  have Sc := sc_arrows

  refine ⟨_, (vs_cons (v_set (i := 2) Sc.nd (v_c C__law_rows (hr.mono (by omega)) (va_cons (vv 0) (va_cons (vv 1) va_nil))))
    (vs_cons (v_set (i := 3) Sc.nd (v_lstO va_nil))
    (vs_cons (v_for rfl (vi_seq (vv 1)) (vg_name (i := 4) Sc.nd) (vs_one (v_for rfl (vi_seq (vv 1)) (vg_name (i := 5) Sc.nd) (vs_one (v_ifS (VW.vt (vw_and (vt_cmp vo_neS (vv 4) (vv 5) (by rfl)) (vw_and1 (vt_val (v_b (vc_any rfl) B.any (va_cons (v_lc (own := [("_law_own", 6)]) rfl Sc.nd (vi_seq (vv 2)) (blkOk_by (by rfl)) (fun _ _ _ _ _ => (vg_name (i := 6) Sc.nd)) (fun _ _ _ _ _ => vts_nil) (fun _ _ _ _ _ => (v_and (v_cmp vo_in (vv 4) (v_ix (vv 6) v_int) (by rfl)) (v_one (v_cmp vo_in (vv 5) (v_ix (vv 6) v_int) (by rfl)))))) va_nil)))))) (vs_one (v_expr (v_mt vm_append PySem.F.plainAttrs_list PySem.F.slot_list_append PySem.F.type_list_append (vv 3) (va_cons (v_tup (va_cons (vv 4) (va_cons (vv 5) va_nil))) va_nil)))) vs_nil)) PassesOwn.never)) PassesOwn.never)
    (vs_one (v_ret (vv 3)))))), ?_⟩
  rintro ⟨r, lot⟩ _ Q ⟨rfl, hs, hz⟩ q
  dsimp only at hs hz q ⊢
  have S2 := rows_small (lot := lot) hs
  have hS := S2.len
  simp only [wSeq, wSet, wCall, wCons, wNil, wVar, asVs, allV, Option.map_some, slots0, List.map_cons, List.map_nil, List.length_cons, List.length_nil, Nat.reduceSub, Nat.reduceAdd, List.replicate_succ, List.replicate_zero, List.cons_append, List.nil_append, List.getElem?_cons_zero, List.getElem?_cons_succ, List.set_cons_zero, List.set_cons_succ, List.getElem?_cons_zero, List.getElem?_cons_succ]
  refine ⟨(r, lot), ⟨rfl, hs⟩, ?_⟩
  simp only [wLstO, wNil, asVs, allV, List.length_nil, List.nil_append, List.set_cons_zero, List.set_cons_succ, List.getElem?_cons_zero, List.getElem?_cons_succ]
  refine ⟨by decide, ?_⟩
  refine for_i (xs := lot) Dt.int (fun i δ M => M = [.lst ((arrL r lot (lot.take i)).map pI)] ∧ ∃ y4 y5, δ = [some (.v (ruleT r)), some (.v (tI lot)), some (.v (rowsD (rowsM r lot))), some (.o 0), y4, y5, none]) (fun Q' q' => q') ⟨rfl, _, _, rfl⟩ (fun i one δ M e hh => ?_) (fun δ M hh => ?_)
  · obtain ⟨rfl, y4, y5, rfl⟩ := hh
    have ht : lot.take (i + 1) = lot.take i ++ [one] := by rw [List.take_succ, e]; rfl
    have hi := (List.getElem?_eq_some_iff.mp e).1
    simp only [gN, List.set_cons_zero, List.set_cons_succ, List.getElem?_cons_zero, List.getElem?_cons_succ]
    refine for_i (xs := lot) Dt.int (fun j δ M => M = [.lst ((arrL r lot (lot.take i) ++ arrP r lot one (lot.take j)).map pI)] ∧ ∃ y5, δ = [some (.v (ruleT r)), some (.v (tI lot)), some (.v (rowsD (rowsM r lot))), some (.o 0), some (.v (.int one)), y5, none]) (fun Q' q' => q') ⟨by simp [arrP], _, rfl⟩ (fun j oth δ M e2 hh => ?_) (fun δ M hh => ?_)
    · obtain ⟨rfl, y5, rfl⟩ := hh
      have ht2 : lot.take (j + 1) = lot.take j ++ [oth] := by rw [List.take_succ, e2]; rfl
      have hj := (List.getElem?_eq_some_iff.mp e2).1
      have step : arrP r lot one (lot.take (j + 1)) = arrP r lot one (lot.take j) ++ arrP r lot one [oth] := by unfold arrP; rw [ht2, List.filter_append, List.map_append]
      have l1 := arrL_len (r := r) (lot := lot) (lot.take i)
      have l2 := arrP_len (r := r) (lot := lot) (one := one) (l := lot.take j)
      have l3 : lot.length * (lot.take i).length ≤ 10 * 10 := Nat.mul_le_mul hz (Nat.le_trans (List.length_take_le _ _) (by omega))
      have l4 := List.length_take_le j lot
      simp only [gN, wIfS, wAnd, wTest, wOp, oNeS, wVar, asSc, scEq, asBl, List.set_cons_zero, List.set_cons_succ, List.getElem?_cons_zero, List.getElem?_cons_succ]
      cases c1 : !decide (one = oth) with
      | false =>
        refine (if_neg Bool.false_ne_true).mpr ((if_neg Bool.false_ne_true).mpr ⟨?_, _, rfl⟩)
        rw [step]
        have : arrP r lot one [oth] = [] := by unfold arrP; simp only [List.filter_cons, c1, Bool.false_and]; rfl
        rw [this, List.append_nil]
      | true =>
        refine (if_pos rfl).mpr ?_
        simp only [wCB, wCons, wNil]
        refine lcM (xs := rowsM r lot) prT (fun x => .bl (decide (one ∈ x.1) && decide (oth ∈ x.2))) (fun Q' q' => q') (by omega) (fun x hx A h => ?_) ?_
        · simp only [gN, wipeD, wAndV, wOp, oIn, oIx, wVar, wC, contS, asInt, asBl, prT, List.set_cons_zero, List.set_cons_succ, List.getElem?_cons_zero, List.getElem?_cons_succ]
          refine ⟨_, rfl, x.1, rfl, ?_⟩
          simp only [Bool.false_eq_true, if_false]
          cases c2 : decide (one ∈ x.1) with
          | false =>
            rw [c2, Bool.false_and] at h
            exact (if_neg Bool.false_ne_true).mpr h
          | true =>
            rw [c2, Bool.true_and] at h
            refine (if_pos rfl).mpr ⟨_, rfl, x.2, rfl, ?_⟩
            exact h
        · simp only [oAny, as1, contL]
          refine ⟨(rowsM r lot).map fun x => decide (one ∈ x.1) && decide (oth ∈ x.2), by rw [List.map_map]; rfl, ?_⟩
          have e3 : ((rowsM r lot).map fun x => decide (one ∈ x.1) && decide (oth ∈ x.2)).any id = (rowsM r lot).any fun x => decide (one ∈ x.1) && decide (oth ∈ x.2) := by rw [List.any_map]; rfl
          rw [e3]
          cases c2 : (rowsM r lot).any fun x => decide (one ∈ x.1) && decide (oth ∈ x.2) with
          | false =>
            refine (if_neg Bool.false_ne_true).mpr ⟨?_, _, rfl⟩
            rw [step]
            have : arrP r lot one [oth] = [] := by unfold arrP; simp only [List.filter_cons, c1, c2, Bool.true_and]; rfl
            rw [this, List.append_nil]
          | true =>
            refine (if_pos rfl).mpr ?_
            simp only [wDrop, wMt, wCons, wNil, wVar, wTup, asVs, allV, asO, oApp, as1, asV, Option.map_some, List.length_cons, List.length_nil, List.set_cons_zero, List.set_cons_succ, List.getElem?_cons_zero, List.getElem?_cons_succ]
            refine ⟨by decide, by rw [List.length_map, List.length_append]; omega, ?_, _, rfl⟩
            rw [step]
            have : arrP r lot one [oth] = [(one, oth)] := by unfold arrP; simp only [List.filter_cons, c1, c2, Bool.true_and]; rfl
            rw [this, ← List.append_assoc, List.map_append (l₂ := [(one, oth)])]
            rfl
    · obtain ⟨rfl, y5, rfl⟩ := hh
      refine ⟨?_, _, _, rfl⟩
      have e5 : arrL r lot (lot.take (i + 1)) = arrL r lot (lot.take i) ++ arrP r lot one lot := by unfold arrL; rw [ht, List.flatMap_append]; simp
      rw [e5, List.take_length]
  · obtain ⟨rfl, y4, y5, rfl⟩ := hh
    rw [List.take_length]
    simp only [wRet, wVar, endV, retD, List.set_cons_zero, List.set_cons_succ, List.getElem?_cons_zero, List.getElem?_cons_succ]
    exact ⟨Nat.le_refl _, q⟩

end
end VL
set_option Elab.async false
set_option linter.all false
set_option maxRecDepth 100000
set_option maxHeartbeats 4000000
/-! VL30: the law: is_woven, least, lots, same. -/
namespace VL
open PySem PySem.Spec PyProof.Rows L2 VLC
section
variable {P : Program} {w : World} {K : PySem.W.Frag} {mg : Str → Option Value} {base : Heap}
abbrev s_llots : Stmt := topS 34
theorem sc_llots : FnScope ["_law_lot_so", "_law_found", "_law_area", "_law_own"] ["_law_lot_so"] (defScope s_llots) := ⟨rfl, rfl, rfl, by decide +kernel, rfl, by decide +kernel, by decide +kernel⟩

abbrev s_same : Stmt := topS 31
theorem sc_same : FnScope ["_law_got", "_law_goal", "_law_mine_so", "_law_own"] ["_law_got", "_law_goal"] (defScope s_same) := ⟨rfl, rfl, rfl, by decide +kernel, rfl, by decide +kernel, by decide +kernel⟩


theorem arr_in {r : Rl} {lot : List Int} (h7 : In7 lot) : ∀ y ∈ arrM r lot, pIn y := fun y hy => by
  obtain ⟨h1, h2, _⟩ := mem_arr.mp hy
  exact ⟨h7 _ h1, h7 _ h2⟩
theorem arr_len {r : Rl} {lot : List Int} (h : lot.length ≤ 7) : (arrM r lot).length ≤ 49 := by
  have h1 := arrL_len (r := r) (lot := lot) lot
  have h2 : lot.length * lot.length ≤ 7 * 7 := Nat.mul_le_mul h h
  have e : arrM r lot = arrL r lot lot := rfl
  rw [e]
  omega
noncomputable def lwovM (r : Rl) (lot : List Int) : Bool := decide (1 < (lot.length : Int)) && lot.all fun a => decide (rchL (arrM r lot) a = lot)
abbrev spLIsWov : Spec := fnS (fun (x : Rl × List Int) ds => ds = [ruleT x.1, tI x.2] ∧ SmallR x.1 ∧ x.2.length ≤ 7 ∧ In7 x.2) fun x => .bl (lwovM x.1 x.2)
theorem ok_liswov (D : Df K mg "_law_is_woven" s_liswov ["_law_picked_here", "_law_lot_so"]) (B : Bs mg) (C__law_arrows : Cl P w K mg base CX0 2 "_law_arrows" ["_law_picked_here", "_law_lot_so"] (spV spArr)) (C__law_spread : Cl P w K mg base CX0 1 "_law_spread" ["_law_arrows_here", "_law_area"] (spV spSpread)) : Cl P w K mg base CX0 3 "_law_is_woven" ["_law_picked_here", "_law_lot_so"] (spV spLIsWov) := by
  refine v_def D sc_liswov (fun y ds h => by rw [h.1]; rfl) fun fa cdv A outer s H E hr => ?_
  have Sc := sc_liswov

  refine ⟨_, (vs_cons (v_set (i := 2) Sc.nd (v_c C__law_arrows (hr.mono (by omega)) (va_cons (vv 0) (va_cons (vv 1) va_nil))))
    (vs_one (v_ret (v_and (v_cmp vo_gt (v_b vc_len B.len (va_cons (vv 1) va_nil)) v_int (by rfl)) (v_one (v_b (vc_all rfl) B.all (va_cons (v_lc (own := [("_law_area", 3)]) rfl Sc.nd (vi_seq (vv 1)) (blkOk_by (by rfl)) (fun _ _ _ _ _ => (vg_name (i := 3) Sc.nd)) (fun _ _ _ _ _ => vts_nil) (fun _ _ _ _ _ => (v_cmp (vo_eqT (hu64 hr)) (v_c C__law_spread (hr.mono (by omega)) (va_cons (vv 2) (va_cons (vv 3) va_nil))) (vv 1) (by rfl)))) va_nil))))))), ?_⟩
  rintro ⟨r, lot⟩ _ Q ⟨rfl, hs, hz, h7⟩ q
  dsimp only at hs hz h7 q ⊢
  simp only [wSeq, wSet, wCall, wCons, wNil, wVar, asVs, allV, Option.map_some, slots0, List.map_cons, List.map_nil, List.length_cons, List.length_nil, Nat.reduceSub, Nat.reduceAdd, List.replicate_succ, List.replicate_zero, List.cons_append, List.nil_append, List.getElem?_cons_zero, List.getElem?_cons_succ, List.set_cons_zero, List.set_cons_succ, List.getElem?_cons_zero, List.getElem?_cons_succ]
  refine ⟨(r, lot), ⟨rfl, hs, by dsimp only; omega⟩, ?_⟩
  simp only [wRet, wAndV, wOp, wCB, oLen, wCons, wNil, wVar, wC, as1, contS, oB0, asInt, asBl, List.length_map, List.set_cons_zero, List.set_cons_succ, List.getElem?_cons_zero, List.getElem?_cons_succ]
  unfold lwovM at q
  cases c : decide (1 < (lot.length : Int)) with
  | false =>
    rw [c, Bool.false_and] at q
    exact (if_neg Bool.false_ne_true).mpr q
  | true =>
    rw [c, Bool.true_and] at q
    refine (if_pos rfl).mpr ?_
    refine lcM (xs := lot) Dt.int (fun a => .bl (decide (rchL (arrM r lot) a = lot))) (fun Q' q' => q') (by omega) (fun a ha A h => ?_) ?_
    · simp only [gN, wipeD, wOp, wCall, wCons, wNil, wVar, asVs, allV, Option.map_some, List.set_cons_zero, List.set_cons_succ, List.getElem?_cons_zero, List.getElem?_cons_succ]
      exact ⟨(arrM r lot, a), ⟨rfl, by have := arr_len (r := r) hz; dsimp only; omega, arr_in h7, h7 a ha⟩, _, _, rfl, rfl, h⟩
    · simp only [oAll, as1, contL]
      refine ⟨lot.map fun a => decide (rchL (arrM r lot) a = lot), by rw [List.map_map]; rfl, ?_⟩
      have e : (lot.map fun a => decide (rchL (arrM r lot) a = lot)).all id = lot.all fun a => decide (rchL (arrM r lot) a = lot) := by rw [List.all_map]; rfl
      rw [e]
      exact q
/-! least -/
abbrev cantD : Dt := .str "can not"
abbrev spLeast : Spec := fnS (fun (x : Rl × List Int × Int × Int) ds => ds = [ruleT x.1, tI x.2.1, .int x.2.2.1, .int x.2.2.2] ∧ SmallR x.1) fun x => (leastM (shownM x.1 x.2.1 x.2.2.1 x.2.2.2)).getD cantD
theorem ok_least (D : Df K mg "_law_least" s_least ["_law_picked_here", "_law_lot_so", "_law_one", "_law_other"]) (B : Bs mg) (C__law_rows : Cl P w K mg base CX0 1 "_law_rows" ["_law_picked_here", "_law_lot_so"] (spV spLRows)) : Cl P w K mg base CX0 2 "_law_least" ["_law_picked_here", "_law_lot_so", "_law_one", "_law_other"] (spV spLeast) := by
  refine v_def D sc_least (fun y ds h => by rw [h.1]; rfl) fun fa cdv A outer s H E hr => ?_
  have Sc := sc_least

  refine ⟨_, (vs_cons (v_setLc (own := [("_law_own", 5)]) (i := 4) rfl Sc.nd (sw_true rfl rfl rfl (by decide +kernel)) (vi_seq (v_c C__law_rows (hr.mono (by omega)) (va_cons (vv 0) (va_cons (vv 1) va_nil)))) (blkOk_by (by rfl)) (fun _ _ _ _ _ => (vg_name (i := 5) Sc.nd)) (fun _ _ _ _ _ => (vts_one (VW.vt (vw_and (vt_cmp vo_neS (vv 2) (vv 3) (by rfl)) (vw_and (vt_cmp vo_in (vv 2) (v_ix (vv 5) v_int) (by rfl)) (vw_and1 (vt_cmp vo_in (vv 3) (v_ix (vv 5) v_int) (by rfl)))))))) (fun _ _ _ _ _ => (v_ix (vv 5) v_int)))
    (vs_one (v_ret (v_if (vt_cmp (vo_neNil (hu64 hr)) (vv 4) (v_lst va_nil) (by rfl)) (v_b (vc_minT rfl (hu2 hr)) B.min (va_cons (vv 4) va_nil)) v_str)))), ?_⟩
  rintro ⟨r, lot, one, other⟩ _ Q ⟨rfl, hs⟩ q
  dsimp only at hs q ⊢
  have S2 := rows_small (lot := lot) hs
  simp only [wSeq, wSet, slots0, List.map_cons, List.map_nil, List.length_cons, List.length_nil, Nat.reduceSub, Nat.reduceAdd, List.replicate_succ, List.replicate_zero, List.cons_append, List.nil_append, List.getElem?_cons_zero, List.getElem?_cons_succ, List.set_cons_zero, List.set_cons_succ, List.getElem?_cons_zero, List.getElem?_cons_succ]
  refine lcF (xs := rowsM r lot) prT (fun x => decide (one ∈ x.1) && (decide (other ∈ x.2) && !decide (one = other))) (fun x => tI x.1) (fun Q' q' => ?_) (by have := S2.len; omega) (fun x hx A B h1 h2 => ?_) ?_
  · simp only [wSeqI, wCall, wCons, wNil, wVar, asVs, allV, asSeq, Option.map_some, List.set_cons_zero, List.set_cons_succ, List.getElem?_cons_zero, List.getElem?_cons_succ]
    exact ⟨(r, lot), ⟨rfl, hs⟩, q'⟩
  · simp only [gN, wipeD, wAnd, wTest, wOp, oNeS, oIn, oIx, wVar, wC, asSc, scEq, contS, asInt, asBl, asV, prT, List.set_cons_zero, List.set_cons_succ, List.getElem?_cons_zero, List.getElem?_cons_succ]
    cases c0 : !decide (one = other) with
    | false =>
      rw [c0, Bool.and_false, Bool.and_false] at h2
      exact (if_neg Bool.false_ne_true).mpr (h2 rfl)
    | true =>
      rw [c0, Bool.and_true] at h1 h2
      refine (if_pos rfl).mpr ⟨_, rfl, x.1, rfl, ?_⟩
      simp only [Bool.false_eq_true, if_false]
      cases c1 : decide (one ∈ x.1) with
      | false =>
        rw [c1, Bool.false_and] at h2
        exact (if_neg Bool.false_ne_true).mpr (h2 rfl)
      | true =>
        rw [c1, Bool.true_and] at h1 h2
        refine (if_pos rfl).mpr ⟨_, rfl, x.2, rfl, ?_⟩
        cases c2 : decide (other ∈ x.2) with
        | false => exact (if_neg Bool.false_ne_true).mpr (h2 c2)
        | true => exact (if_pos rfl).mpr ⟨_, rfl, h1 c2⟩
  · have e : ((rowsM r lot).filter fun x => decide (one ∈ x.1) && (decide (other ∈ x.2) && !decide (one = other))).map (fun x => tI x.1) = (shownM r lot one other).map tI := by unfold shownM; rw [List.map_map]; rfl
    rw [e]
    simp only [wRet, wIf, wTest, wOp, oNeNil, wVar, wLst, wNil, wC, asVs, allV, contL, asNil, asBl, wCB, wCons, oMinT, as1, List.set_cons_zero, List.set_cons_succ, List.getElem?_cons_zero, List.getElem?_cons_succ]
    refine ⟨Nat.zero_le _, .inr ⟨_, rfl⟩, ?_⟩
    cases hsh : shownM r lot one other with
    | nil =>
      rw [hsh] at q
      exact (if_neg (by simp)).mpr q
    | cons n nr =>
      rw [hsh] at q
      exact (if_pos (by simp)).mpr ⟨n, nr, rfl, q⟩

/-! the law's lots -/
def dbl (l : List (List Int)) (a : Int) : List (List Int) := l ++ l.map fun o => o ++ [a]
def dblN (ns : List Int) : List (List Int) := ns.foldl dbl [[]]
def llotsM (m : Nat) : List (List Int) := sortT ((dblN (rg m)).drop 1)
theorem dbl_tab : ((List.range 6).all fun m => (List.range 6).all fun i => decide ((dblN ((rg m).take i)).length ≤ 40) && (((dblN ((rg m).take i)).all fun l => decide (l.length ≤ 10)) && (((dblN (rg m)).drop 1).all fun l => !l.isEmpty))) = true := by decide +kernel
theorem dbl_facts {m i : Nat} (hm : m ≤ 5) (hi : i ≤ 5) : (dblN ((rg m).take i)).length ≤ 40 ∧ (∀ l ∈ dblN ((rg m).take i), l.length ≤ 10) ∧ ∀ l ∈ (dblN (rg m)).drop 1, l ≠ [] := by
  have h := dbl_tab
  rw [List.all_eq_true] at h
  have h2 := h m (List.mem_range.mpr (by omega))
  rw [List.all_eq_true] at h2
  have h3 := h2 i (List.mem_range.mpr (by omega))
  simp only [Bool.and_eq_true, decide_eq_true_eq, List.all_eq_true, Bool.not_eq_true', List.isEmpty_eq_false_iff] at h3
  exact ⟨h3.1, h3.2.1, h3.2.2⟩
theorem cut_one (ds : List Dt) : cutD ds (some 1) none = ds.drop 1 := by
  unfold cutD
  rw [show HT.sIx ds.length 0 (some 1) = min 1 ds.length from HT.sIx_nat ds.length 0 1, HT.sIx_none]
  cases ds with
  | nil => rfl
  | cons x r =>
    rw [show min 1 (x :: r).length = 1 by rw [List.length_cons]; omega]
    show (List.take ((x :: r).length - 1) r) = r
    rw [List.length_cons, Nat.add_sub_cancel]
    exact List.take_length
abbrev spLLots : Spec := fnS (fun (m : Nat) ds => ds = [tI (rg m)] ∧ m ≤ 5) fun m => .lst ((llotsM m).map tI)
theorem ok_llots (D : Df K mg "_law_lots" s_llots ["_law_lot_so"]) (B : Bs mg) : Cl P w K mg base CX0 1 "_law_lots" ["_law_lot_so"] (spV spLLots) := by
  refine v_def D sc_llots (fun y ds h => by rw [h.1]; rfl) fun fa cdv A outer s H E hr => ?_
  have Sc := sc_llots

  refine ⟨_, (vs_cons (v_set (i := 1) Sc.nd (v_lst (va_cons (v_tup va_nil) va_nil)))
    (vs_cons (v_for rfl (vi_seq (vv 0)) (vg_name (i := 2) Sc.nd) (vs_one (v_set (i := 1) Sc.nd (v_op vo_cat (vv 1) (v_lc (own := [("_law_own", 3)]) rfl Sc.nd (vi_seq (vv 1)) (blkOk_by (by rfl)) (fun _ _ _ _ _ => (vg_name (i := 3) Sc.nd)) (fun _ _ _ _ _ => vts_nil) (fun _ _ _ _ _ => (v_op vo_catT (vv 3) (v_tup (va_cons (vv 2) va_nil)))))))) PassesOwn.never)
    (vs_one (v_ret (v_b (vc_sortT (hu4 hr)) B.sorted (va_cons (v_from (vv 1)) va_nil)))))), ?_⟩
  rintro m _ Q ⟨rfl, hm⟩ q
  simp only [wSeq, wSet, wLst, wTup, wCons, wNil, asVs, allV, Option.map_some, slots0, List.map_cons, List.map_nil, List.length_cons, List.length_nil, Nat.reduceSub, Nat.reduceAdd, List.replicate_succ, List.replicate_zero, List.cons_append, List.nil_append, List.getElem?_cons_zero, List.getElem?_cons_succ, List.set_cons_zero, List.set_cons_succ, List.getElem?_cons_zero, List.getElem?_cons_succ]
  refine ⟨by decide, by decide, ?_⟩
  refine for_i (xs := rg m) Dt.int (fun i δ M => M = [] ∧ ∃ y2, δ = [some (.v (tI (rg m))), some (.v (.lst ((dblN ((rg m).take i)).map tI))), y2, none]) (fun Q' q' => q') ⟨rfl, _, rfl⟩ (fun i a δ M e hh => ?_) (fun δ M hh => ?_)
  · obtain ⟨rfl, y2, rfl⟩ := hh
    have hi : i < m := by have := (List.getElem?_eq_some_iff.mp e).1; rwa [rg_len] at this
    obtain ⟨f1, f2, _⟩ := dbl_facts (i := i) hm (by omega)
    have ht : (rg m).take (i + 1) = (rg m).take i ++ [a] := by rw [List.take_succ, e]; rfl
    simp only [gN, wSet, wOp, wVar, List.set_cons_zero, List.set_cons_succ, List.getElem?_cons_zero, List.getElem?_cons_succ]
    refine lcM (xs := dblN ((rg m).take i)) tI (fun o => tI (o ++ [a])) (fun Q' q' => q') (by omega) (fun o ho A h => ?_) ?_
    · have := f2 o ho
      simp only [gN, wipeD, wOp, oCatT, wVar, wTup, wCons, wNil, asVs, allV, contT, asV, Option.map_some, List.length_cons, List.length_nil, List.length_map, List.set_cons_zero, List.set_cons_succ, List.getElem?_cons_zero, List.getElem?_cons_succ]
      refine ⟨by decide, by omega, ?_⟩
      rw [show o.map Dt.int ++ [Dt.int a] = (o ++ [a]).map .int by rw [List.map_append]; rfl]
      exact h
    · simp only [oCat, contL, List.set_cons_zero, List.set_cons_succ, List.getElem?_cons_zero, List.getElem?_cons_succ]
      refine ⟨by rw [List.length_map, List.length_map]; omega, trivial, some (.v (.int a)), ?_⟩
      have e3 : dblN ((rg m).take (i + 1)) = dbl (dblN ((rg m).take i)) a := by unfold dblN; rw [ht, List.foldl_append]; rfl
      rw [e3]
      unfold dbl
      rw [List.map_append, List.map_map]
      rfl
  · obtain ⟨rfl, y2, rfl⟩ := hh
    rw [List.take_length]
    obtain ⟨f1, _, _⟩ := dbl_facts (m := m) (i := m) hm hm
    obtain ⟨_, _, f3⟩ := dbl_facts (m := m) (i := m) hm hm
    have e1 : (rg m).take m = rg m := by rw [List.take_of_length_le]; rw [rg_len]; exact Nat.le_refl _
    rw [e1] at f1
    simp only [wRet, wCB, wCons, wNil, wFrom, wVar, oSortT, as1, contL, List.set_cons_zero, List.set_cons_succ, List.getElem?_cons_zero, List.getElem?_cons_succ]
    refine ⟨(dblN (rg m)).drop 1, by rw [cut_one, List.map_drop], f3, by rw [List.length_drop]; omega, q⟩
/-! same -/
def smL (f : Dt → Dt → Option Bool) : List Dt → List Dt → Option (List Bool)
  | [], [] => some []
  | d :: ds, e :: es => (f d e).bind fun b => (smL f ds es).map (b :: ·)
  | _, _ => none
def smN : Nat → Dt → Dt → Option Bool
  | 0, _, _ => none
  | n + 1, d, e => match d, e with
    | .int i, .int j => some (decide (i = j))
    | .bl i, .bl j => some (decide (i = j))
    | .str i, .str j => some (decide (i = j))
    | .tup ds, .tup es => if ds.length = es.length then (if ds.length ≤ 1000 then (smL (smN n) ds es).map fun bs => bs.all id else none) else some false
    | .lst ds, .lst es => if ds.length = es.length then (if ds.length ≤ 1000 then (smL (smN n) ds es).map fun bs => bs.all id else none) else some false
    | _, _ => none
theorem smL_get {f : Dt → Dt → Option Bool} : ∀ {ds es : List Dt} {bs : List Bool}, smL f ds es = some bs → bs.length = ds.length ∧ ∀ (i : Nat) d e, ds[i]? = some d → es[i]? = some e → ∃ b, f d e = some b ∧ bs[i]? = some b
  | [], [], bs, h => by cases h; exact ⟨rfl, fun i d e h => by simp at h⟩
  | d :: ds, e :: es, bs, h => by
    unfold smL at h
    obtain ⟨b, h1, h2⟩ := Option.bind_eq_some_iff.mp h
    obtain ⟨bs', h3, rfl⟩ := Option.map_eq_some_iff.mp h2
    obtain ⟨a, c⟩ := smL_get h3
    refine ⟨by rw [List.length_cons, List.length_cons, a], fun i d' e' hd he => ?_⟩
    cases i with
    | zero => cases hd; cases he; exact ⟨b, h1, rfl⟩
    | succ i => exact (c i d' e' (by simpa using hd) (by simpa using he)).imp fun b h => ⟨h.1, by simpa using h.2⟩
  | [], _ :: _, _, h => by cases h
  | _ :: _, [], _, h => by cases h
abbrev spSame (n : Nat) : Spec := fnS (fun (x : Dt × Dt × Bool) ds => ds = [x.1, x.2.1] ∧ smN n x.1 x.2.1 = some x.2.2) fun x => .bl x.2.2
theorem ok_same1 (D : Df K mg "_law_same" s_same ["_law_got", "_law_goal"]) (B : Bs mg) (n k : Nat) (C__law_same : Cl P w K mg base CX0 k "_law_same" ["_law_got", "_law_goal"] (spV (spSame n))) : Cl P w K mg base CX0 (k + 1) "_law_same" ["_law_got", "_law_goal"] (spV (spSame (n + 1))) := by
  refine v_def D sc_same (fun y ds h => by rw [h.1]; rfl) fun fa cdv A outer s H E hr => ?_
  have Sc := sc_same

  refine ⟨_, (vs_cons (v_ifS (vt_val (v_is2 isi_lst isi_tup B.isinstance B.list B.tuple (vv 1))) (vs_cons (v_ifS (VW.vt (vw_or (vt_cmp vo_neS (v_is isi_lst B.isinstance B.list (vv 0)) (v_is isi_lst B.isinstance B.list (vv 1)) (by rfl)) (vw_or1 (vt_cmp vo_neS (v_is isi_tup B.isinstance B.tuple (vv 0)) (v_is isi_tup B.isinstance B.tuple (vv 1)) (by rfl))))) (vs_one (v_ret v_bl)) vs_nil)
    (vs_one (v_ret (v_and (v_cmp vo_eqS (v_b vc_len B.len (va_cons (vv 0) va_nil)) (v_b vc_len B.len (va_cons (vv 1) va_nil)) (by rfl)) (v_one (v_b (vc_all rfl) B.all (va_cons (v_lc (own := [("_law_mine_so", 2), ("_law_own", 3)]) rfl Sc.nd (vi_zip B.zip (va_cons (vv 0) (va_cons (vv 1) va_nil))) (blkOk_by (by rfl)) (fun _ _ _ _ _ => (vg_tup (n := 2) rfl (vgs_cons (vg_name (i := 2) Sc.nd) (vgs_cons (vg_name (i := 3) Sc.nd) vgs_nil)))) (fun _ _ _ _ _ => vts_nil) (fun _ _ _ _ _ => (v_c C__law_same (hr.mono (by omega)) (va_cons (vv 2) (va_cons (vv 3) va_nil))))) va_nil))))))) vs_nil)
    (vs_cons (v_ifS (VW.vt (vw_or (vt_cmp vo_isN (vv 1) v_non (by rfl)) (vw_or1 (vt_val (v_is2 isi_bl isi_str B.isinstance B.bool B.str (vv 1)))))) (vs_one (v_ret (v_and (v_cmp vo_eqS (vv 0) (vv 1) (by rfl)) (v_and (v_cmp vo_eqS (v_is isi_bl B.isinstance B.bool (vv 0)) (v_is isi_bl B.isinstance B.bool (vv 1)) (by rfl)) (v_one (v_cmp vo_eqS (v_cmp vo_isN (vv 0) v_non (by rfl)) (v_cmp vo_isN (vv 1) v_non (by rfl)) (by rfl))))))) vs_nil)
    (vs_one (v_ret (v_and (v_is isi_int B.isinstance B.int (vv 0)) (v_and (v_not (v_is isi_bl B.isinstance B.bool (vv 0))) (v_one (v_cmp vo_eqS (vv 0) (vv 1) (by rfl))))))))), ?_⟩
  rintro ⟨d, e, b⟩ _ Q ⟨rfl, h⟩ q
  dsimp only at h q ⊢
  have seq : ∀ (ds es : List Dt) (d e : Dt), (d = .tup ds ∧ e = .tup es ∨ d = .lst ds ∧ e = .lst es) → (if ds.length = es.length then (if ds.length ≤ 1000 then (smL (smN n) ds es).map fun bs => bs.all id else none) else some false) = some b →
      (wRet (wAndV (wOp oEqS (wCB oLen (wCons (wVar 0) wNil)) (wCB oLen (wCons (wVar 1) wNil))) (wCB oAll (wCons (wLc [2, 3] (wZip (wCons (wVar 0) (wCons (wVar 1) wNil))) (gT 2 (gsCons (gN 2) (gsCons (gN 3) gsNil))) wYes (wCall (spSame n) (wCons (wVar 2) (wCons (wVar 3) wNil)))) wNil)))) (endV Q) [some (.v d), some (.v e), none, none] [] := by
    intro ds es d e hde h
    simp only [wRet, wAndV, wOp, wCB, oLen, wCons, wNil, wVar, as1, List.set_cons_zero, List.set_cons_succ, List.getElem?_cons_zero, List.getElem?_cons_succ]
    have hc : ∀ (k : List Dt → List Dt → Prop), k ds es → contS (.v d) [] fun x => contS (.v e) [] fun y => k x y := fun k hk => by
      rcases hde with ⟨rfl, rfl⟩ | ⟨rfl, rfl⟩ <;> exact hk
    refine hc _ ?_
    simp only [oEqS, asSc, scEq, asBl]
    by_cases hl : ds.length = es.length
    · rw [if_pos hl] at h
      have hl' : ((ds.length : Nat) : Int) = (es.length : Nat) := by omega
      refine (if_pos (decide_eq_true hl')).mpr ?_
      by_cases hz : ds.length ≤ 1000
      · rw [if_pos hz] at h
        obtain ⟨bs, h1, rfl⟩ := Option.map_eq_some_iff.mp h
        obtain ⟨g1, g2⟩ := smL_get h1
        have hi : ∀ Q' : List Dt → Me → Prop, Q' (zipD ds es) [] → wZip (wCons (wVar 0) (wCons (wVar 1) wNil)) [some (.v d), some (.v e), none, none] [] Q' := fun Q' q' => by
          rcases hde with ⟨rfl, rfl⟩ | ⟨rfl, rfl⟩ <;> exact q'
        have hzl : (zipD ds es).length = ds.length := by rw [zipD_length]; omega
        refine hi _ ⟨by omega, fun i acc M => M = [] ∧ acc = (bs.take i).map .bl, ⟨rfl, rfl⟩, fun i z acc M hzz hp => ?_, fun acc M hp => ?_⟩
        · obtain ⟨rfl, rfl⟩ := hp
          have hi' := (List.getElem?_eq_some_iff.mp hzz).1
          rw [hzl] at hi'
          have e1 : ds[i]? = some ds[i] := List.getElem?_eq_getElem hi'
          have e2 : es[i]? = some (es[i]'(by omega)) := List.getElem?_eq_getElem (by omega)
          have e3 := zipD_get e1 e2
          rw [hzz] at e3
          cases e3
          obtain ⟨b, f1, f2⟩ := g2 i _ _ e1 e2
          simp only [gT, List.map_cons, List.map_nil]
          simp only [gsCons]
          simp only [gN]
          simp only [gsNil]
          simp only [List.length_cons, List.length_nil, wipeD, true_and, Nat.zero_add, Nat.reduceAdd, List.set_cons_zero, List.set_cons_succ, List.getElem?_cons_zero, List.getElem?_cons_succ]
          simp only [wYes, wCall, wCons, wNil, wVar, asVs, allV, asV, Option.map_some, if_true, List.set_cons_zero, List.set_cons_succ, List.getElem?_cons_zero, List.getElem?_cons_succ]
          refine ⟨(ds[i], es[i]'(by omega), b), ⟨rfl, f1⟩, ?_⟩
          rw [List.take_succ, f2]
          simp
        · obtain ⟨rfl, rfl⟩ := hp
          rw [hzl, ← g1, List.take_length]
          exact ⟨bs, rfl, q⟩
      · rw [if_neg hz] at h
        cases h
    · rw [if_neg hl] at h
      cases h
      have hl' : ¬ ((ds.length : Nat) : Int) = (es.length : Nat) := by omega
      exact (if_neg (by rw [decide_eq_false hl']; exact Bool.false_ne_true)).mpr q
  simp only [wSeq, wIfS, wOr, wTest, wIsi, wVar, wOp, oNeS, asV, asSc, scEq, asBl, slots0, List.map_cons, List.map_nil, List.length_cons, List.length_nil, Nat.reduceSub, Nat.reduceAdd, List.replicate_succ, List.replicate_zero, List.cons_append, List.nil_append, List.getElem?_cons_zero, List.getElem?_cons_succ]
  cases d with
  | tup ds =>
    cases e with
    | tup es => exact (if_pos rfl).mpr ((if_neg (by simp [isLst, isTup])).mpr ((if_neg (by simp [isLst, isTup])).mpr (seq ds es _ _ (.inl ⟨rfl, rfl⟩) h)))
    | _ => cases h
  | lst ds =>
    cases e with
    | lst es => exact (if_pos rfl).mpr ((if_neg (by simp [isLst, isTup])).mpr ((if_neg (by simp [isLst, isTup])).mpr (seq ds es _ _ (.inr ⟨rfl, rfl⟩) h)))
    | _ => cases h
  | int i =>
    cases e with
    | int j =>
      cases h
      refine (if_neg (by simp [isLst, isTup])).mpr ?_
      simp only [wNext, wSeq, wIfS, wOr, wTest, wOp, oIsN, wVar, wC, asV, asNon, asBl, wIsi, isN, isBl, isStr, isInt, Bool.false_eq_true, if_false, if_true, Bool.or_self, Bool.or_false, Bool.or_true, List.set_cons_zero, List.set_cons_succ, List.getElem?_cons_zero, List.getElem?_cons_succ]
      simp only [wRet, wAndV, wNotV, wOp, oEqS, oIsN, wVar, wC, asV, asNon, asSc, scEq, asBl, wIsi, isN, isBl, isStr, isInt, Bool.not_false, Bool.false_eq_true, if_false, if_true, List.set_cons_zero, List.set_cons_succ, List.getElem?_cons_zero, List.getElem?_cons_succ]
      exact q
    | _ => cases h
  | bl i =>
    cases e with
    | bl j =>
      cases h
      refine (if_neg (by simp [isLst, isTup])).mpr ?_
      simp only [wNext, wSeq, wIfS, wOr, wTest, wOp, oIsN, wVar, wC, asV, asNon, asBl, wIsi, isN, isBl, isStr, isInt, Bool.false_eq_true, if_false, if_true, Bool.or_self, Bool.or_false, Bool.or_true, List.set_cons_zero, List.set_cons_succ, List.getElem?_cons_zero, List.getElem?_cons_succ]
      simp only [wRet, wAndV, wNotV, wOp, oEqS, oIsN, wVar, wC, asV, asNon, asSc, scEq, asBl, wIsi, isN, isBl, isStr, isInt, Bool.not_false, Bool.false_eq_true, if_false, if_true, List.set_cons_zero, List.set_cons_succ, List.getElem?_cons_zero, List.getElem?_cons_succ]
      cases hb : decide (i = j) with
      | false => rw [hb] at q; simpa [endV] using q
      | true => rw [hb] at q; simpa [endV] using q
    | _ => cases h
  | str i =>
    cases e with
    | str j =>
      cases h
      refine (if_neg (by simp [isLst, isTup])).mpr ?_
      simp only [wNext, wSeq, wIfS, wOr, wTest, wOp, oIsN, wVar, wC, asV, asNon, asBl, wIsi, isN, isBl, isStr, isInt, Bool.false_eq_true, if_false, if_true, Bool.or_self, Bool.or_false, Bool.or_true, List.set_cons_zero, List.set_cons_succ, List.getElem?_cons_zero, List.getElem?_cons_succ]
      simp only [wRet, wAndV, wNotV, wOp, oEqS, oIsN, wVar, wC, asV, asNon, asSc, scEq, asBl, wIsi, isN, isBl, isStr, isInt, Bool.not_false, Bool.false_eq_true, if_false, if_true, List.set_cons_zero, List.set_cons_succ, List.getElem?_cons_zero, List.getElem?_cons_succ]
      cases hb : decide (i = j) with
      | false => rw [hb] at q; simpa [endV] using q
      | true => rw [hb] at q; simpa [endV] using q
    | _ => cases h
  | _ => cases h

end
end VL
set_option Elab.async false
set_option linter.all false
set_option maxRecDepth 100000
set_option maxHeartbeats 4000000
/-! VL31: the law: shuffled, ties_all. -/
namespace VL
open PySem PySem.Spec PyProof.Rows L2 VLC
section
variable {P : Program} {w : World} {K : PySem.W.Frag} {mg : Str → Option Value} {base : Heap}
abbrev s_shuf : Stmt := topS 35
theorem sc_shuf : FnScope ["_law_urn", "_law_goods", "_law_pool", "_law_found"] ["_law_urn", "_law_goods"] (defScope s_shuf) := ⟨rfl, rfl, rfl, by decide +kernel, rfl, by decide +kernel, by decide +kernel⟩

abbrev s_ties : Stmt := topS 45
theorem sc_ties : FnScope ["_law_picked_here", "_law_lot_so", "_law_thing", "_law_rows_here", "_law_area", "_law_own", "_law_arrows_here", "_law_one", "_law_its"] ["_law_picked_here", "_law_lot_so", "_law_thing"] (defScope s_ties) := ⟨rfl, rfl, rfl, by decide +kernel, rfl, by decide +kernel, by decide +kernel⟩


theorem ok_same (D : Df K mg "_law_same" s_same ["_law_got", "_law_goal"]) (B : Bs mg) : ∀ n : Nat, Cl P w K mg base CX0 n "_law_same" ["_law_got", "_law_goal"] (spV (spSame n))
  | 0 => by
    obtain ⟨g, fd, F, r⟩ := (cl_none (CX := CX0) (k := 0) (f := fun x : Dt × Dt × Bool => .bl x.2.2) D (P := P) (w := w) (base := base)).ex
    refine ⟨g, fd, F.imp (fun vs H Q E h => ?_), r⟩
    obtain ⟨av, ds, h1, h2, x, ⟨_, h4⟩, _⟩ := h
    unfold smN at h4
    cases h4
  | n + 1 => ok_same1 D B n n (ok_same D B n)
theorem smL_ints (n : Nat) : ∀ (a b : List Int), a.length = b.length → ∃ bs, smL (smN (n + 1)) (a.map .int) (b.map .int) = some bs ∧ bs.all id = decide (a = b)
  | [], [], _ => ⟨[], rfl, rfl⟩
  | x :: a, y :: b, h => by
    obtain ⟨bs, h1, h2⟩ := smL_ints n a b (by simpa using h)
    refine ⟨decide (x = y) :: bs, ?_, ?_⟩
    · rw [List.map_cons, List.map_cons, smL, h1]
      rfl
    · rw [List.all_cons, h2, Bool.eq_iff_iff]
      simp
  | [], _ :: _, h => by simp at h
  | _ :: _, [], h => by simp at h
theorem smN_tI (n : Nat) {a b : List Int} (ha : a.length ≤ 1000) : smN (n + 2) (tI a) (tI b) = some (decide (a = b)) := by
  show (if (a.map Dt.int).length = (b.map Dt.int).length then (if (a.map Dt.int).length ≤ 1000 then (smL (smN (n + 1)) (a.map .int) (b.map .int)).map fun bs => bs.all id else none) else some false) = _
  rw [List.length_map, List.length_map]
  by_cases h : a.length = b.length
  · rw [if_pos h, if_pos ha]
    obtain ⟨bs, h1, h2⟩ := smL_ints n a b h
    rw [h1, Option.map_some, h2]
  · rw [if_neg h]
    have : ¬ a = b := fun e => h (by rw [e])
    rw [decide_eq_false this]
theorem erase_map {α β : Type} (f : α → β) : ∀ (l : List α) (i : Nat), (l.map f).eraseIdx i = (l.eraseIdx i).map f
  | [], _ => rfl
  | _ :: _, 0 => rfl
  | x :: l, i + 1 => by
    show f x :: (l.map f).eraseIdx i = f x :: (l.eraseIdx i).map f
    rw [erase_map f l i]
theorem erase_perm {α : Type} : ∀ (l : List α) (i : Nat) (h : i < l.length), (l.eraseIdx i ++ [l[i]]).Perm l
  | [], _, h => by simp at h
  | x :: l, 0, _ => List.perm_append_comm (l₁ := l) (l₂ := [x])
  | x :: l, i + 1, h => (erase_perm l i (by simpa using h)).cons x
/-! shuffled -/
abbrev spShuf : SpecU := fnU (fun (x : Nat × List Int) us ds => ds = [lI x.2] ∧ UOk x.1 us ∧ x.1 ≤ 900000 ∧ x.2.length ≤ 100) (fun x us' d => UOk (x.1 + x.2.length) us' ∧ ∃ ns, d = lI ns ∧ ns.Perm x.2)
theorem ok_shuf (D : Df K mg "_law_shuffled" s_shuf ["_law_urn", "_law_goods"]) (B : Bs mg) (C__law_take : Cl P w K mg base CX0 1 "_law_take" ["_law_urn", "_law_low_so"] (spU spTake)) : Cl P w K mg base CX0 2 "_law_shuffled" ["_law_urn", "_law_goods"] (spU spShuf) := by
  refine v_defU D sc_shuf (fun y us ds h => by rw [h.1]; rfl) fun fa cdv A outer s H E hr => ?_
  have Sc := sc_shuf

  refine ⟨_, (vs_cons (v_par2 (i := 2) (j := 3) rfl Sc.nd (va_cons (v_ty vc_listO B.list (va_cons (vv 1) va_nil)) (va_cons (v_lstO va_nil) va_nil)))
    (vs_cons (v_while (vt_cmp (vo_neNil (hu64 hr)) (vv 2) (v_lst va_nil) (by rfl)) (vs_one (v_expr (v_mt vm_append PySem.F.plainAttrs_list PySem.F.slot_list_append PySem.F.type_list_append (vv 3) (va_cons (v_mt vm_popAt PySem.F.plainAttrs_list PySem.F.slot_list_pop PySem.F.type_list_pop (vv 2) (va_cons (v_cU C__law_take (hr.mono (by omega)) (va_cons (vv 0) (va_cons (v_b vc_len B.len (va_cons (vv 2) va_nil)) va_nil))) va_nil)) va_nil)))) PassesOwn.never)
    (vs_one (v_ret (vv 3))))), ?_⟩
  rintro ⟨n, ns⟩ us ds Q ⟨rfl, hu, hn, hz⟩ q
  dsimp only at hu hn hz q ⊢
  simp only [wSeq, wPar2, wCB, oListO, wLstO, wCons, wNil, wVar, as1, as2, contS, asVs, allV, Option.map_some, slots0, List.map_cons, List.map_nil, List.length_cons, List.length_nil, Nat.reduceSub, Nat.reduceAdd, List.replicate_succ, List.replicate_zero, List.cons_append, List.nil_append, List.getElem?_cons_zero, List.getElem?_cons_succ, List.set_cons_zero, List.set_cons_succ, List.getElem?_cons_zero, List.getElem?_cons_succ]
  refine ⟨by decide, ?_⟩
  refine ⟨fun δ M => ∃ (us : List Dt) (pool found : List Int), M = [.lst us, .lst (pool.map .int), .lst (found.map .int)] ∧ δ = [some (.o 0), some (.v (lI ns)), some (.o 1), some (.o 2)] ∧ UOk (n + found.length) us ∧ (pool ++ found).Perm ns,
    fun δ M => match M with | [_, .lst l, _] => l.length | _ => 0, ⟨us, ns, [], rfl, rfl, hu, by simp⟩, ?_⟩
  rintro δ M ⟨us, pool, found, rfl, rfl, hu', hpm⟩
  have hlen := hpm.length_eq
  rw [List.length_append] at hlen
  simp only [wTest, wOp, oNeNil, wVar, wLst, wNil, asVs, allV, contL, asNil, asBl, List.set_cons_zero, List.set_cons_succ, List.getElem?_cons_zero, List.getElem?_cons_succ]
  refine ⟨Nat.zero_le _, .inl ⟨pool, rfl⟩, ?_⟩
  cases pool with
  | nil =>
    refine (if_neg (by simp)).mpr ?_
    simp only [wRet, wVar, endU, retD, asM0, List.set_cons_zero, List.set_cons_succ, List.getElem?_cons_zero, List.getElem?_cons_succ]
    exact ⟨by decide, q _ _ ⟨hu'.mono (by simp at hlen; omega), found, rfl, by simpa using hpm⟩⟩
  | cons x pool =>
    refine (if_pos (by simp)).mpr ?_
    simp only [wDrop, wMt, wCons, wNil, wVar, asO, wCallU, asU, wCB, oLen, as1, contS, asVs, allV, Option.map_some, List.set_cons_zero, List.set_cons_succ, List.getElem?_cons_zero, List.getElem?_cons_succ]
    refine ⟨(n + found.length, ((x :: pool).length : Int)), ⟨by rw [List.length_map], hu', by simp at hlen; dsimp only; omega, by dsimp only; simp; omega, by dsimp only; simp at hlen ⊢; omega⟩, ?_⟩
    rintro us' d ⟨hu2, r, rfl, r0, r1⟩
    have hr' : r.toNat < (x :: pool).length := by dsimp only at r1; omega
    simp only [oPopAt, as1, asInt, List.set_cons_zero, List.set_cons_succ, List.getElem?_cons_zero, List.getElem?_cons_succ]
    refine ⟨⟨r0, by dsimp only at r1; simp at r1 hlen; omega⟩, .int ((x :: pool)[r.toNat]), by rw [List.getElem?_map, List.getElem?_eq_getElem hr']; rfl, ?_⟩
    simp only [oApp, as1, asV, List.set_cons_zero, List.set_cons_succ, List.getElem?_cons_zero, List.getElem?_cons_succ]
    refine ⟨by rw [List.length_map]; simp at hlen; omega, ?_⟩
    refine ⟨⟨us', (x :: pool).eraseIdx r.toNat, found ++ [(x :: pool)[r.toNat]], by rw [← erase_map, List.map_append]; rfl, trivial, by rw [List.length_append]; exact hu2, ?_⟩, ?_⟩
    · refine List.Perm.trans ?_ hpm
      have h1 := erase_perm (x :: pool) r.toNat hr'
      have h2 : ((x :: pool).eraseIdx r.toNat ++ (found ++ [(x :: pool)[r.toNat]])).Perm (((x :: pool).eraseIdx r.toNat ++ [(x :: pool)[r.toNat]]) ++ found) := by
        rw [List.append_assoc]
        exact List.Perm.append_left _ List.perm_append_comm
      exact h2.trans (List.Perm.append_right found h1)
    · show ((((x :: pool).map Dt.int).eraseIdx r.toNat)).length < _
      rw [List.length_eraseIdx, List.length_map, if_pos hr']
      simp

end
end VL
set_option Elab.async false
set_option linter.all false
set_option maxRecDepth 100000
set_option maxHeartbeats 4000000
/-! VL32: the law: ties_all, bent. -/
namespace VL
open PySem PySem.Spec PyProof.Rows L2 VLC
section
variable {P : Program} {w : World} {K : PySem.W.Frag} {mg : Str → Option Value} {base : Heap}
abbrev s_bent : Stmt := topS 46
theorem sc_bent : FnScope ["_law_urn", "_law_picked_here", "_law_lot_so", "_law_told", "_law_goods", "_law_own"] ["_law_urn", "_law_picked_here", "_law_lot_so", "_law_told"] (defScope s_bent) := ⟨rfl, rfl, rfl, by decide +kernel, rfl, by decide +kernel, by decide +kernel⟩


noncomputable def tiesM (r : Rl) (lot : List Int) (ts : List (List Int)) : Bool :=
  decide (ts.length = lot.length) && ((lot.zip ts).all (fun x => (rowsM r lot).any fun y => decide (x.2 = y.1) && decide (x.1 ∈ y.2)) && lot.all fun a => decide (rchL (wvAll lot ts) a = lot))
def wvL (l : List (Int × List Int)) : Prs := l.flatMap fun x => x.2.map fun one => (one, x.1)
theorem wvL_len {l : List (Int × List Int)} (h : ∀ x ∈ l, x.2.length ≤ 10) : (wvL l).length ≤ 10 * l.length := by
  unfold wvL
  induction l with
  | nil => simp
  | cons x l ih =>
    rw [List.flatMap_cons, List.length_append, List.length_map, List.length_cons]
    have h1 := ih fun y hy => h y (List.mem_cons_of_mem _ hy)
    have h3 := h x List.mem_cons_self
    omega
abbrev spTies : Spec := fnS (fun (x : Rl × List Int × List (List Int)) ds => ds = [ruleT x.1, tI x.2.1, .tup (x.2.2.map tI)] ∧ SmallR x.1 ∧ x.2.1.length ≤ 7 ∧ In7 x.2.1 ∧ x.2.2.length ≤ 100 ∧ ∀ t ∈ x.2.2, t.length ≤ 10) fun x => .bl (tiesM x.1 x.2.1 x.2.2)
theorem ok_ties (D : Df K mg "_law_ties_all" s_ties ["_law_picked_here", "_law_lot_so", "_law_thing"]) (B : Bs mg) (C__law_rows : Cl P w K mg base CX0 1 "_law_rows" ["_law_picked_here", "_law_lot_so"] (spV spLRows)) (C__law_same : Cl P w K mg base CX0 2 "_law_same" ["_law_got", "_law_goal"] (spV (spSame 2))) (C__law_spread : Cl P w K mg base CX0 1 "_law_spread" ["_law_arrows_here", "_law_area"] (spV spSpread)) :
    Cl P w K mg base CX0 3 "_law_ties_all" ["_law_picked_here", "_law_lot_so", "_law_thing"] (spV spTies) := by
  refine v_def D sc_ties (fun y ds h => by rw [h.1]; rfl) fun fa cdv A outer s H E hr => ?_
  have Sc := sc_ties

  refine ⟨_, (vs_cons (v_set (i := 3) Sc.nd (v_c C__law_rows (hr.mono (by omega)) (va_cons (vv 0) (va_cons (vv 1) va_nil))))
    (vs_cons (v_ifS (VW.vt (vw_or (vt_not (vt_val (v_is isi_tup B.isinstance B.tuple (vv 2)))) (vw_or1 (vt_cmp vo_neS (v_b vc_len B.len (va_cons (vv 2) va_nil)) (v_b vc_len B.len (va_cons (vv 1) va_nil)) (by rfl))))) (vs_one (v_ret v_bl)) vs_nil)
    (vs_cons (v_for rfl (vi_zip B.zip (va_cons (vv 1) (va_cons (vv 2) va_nil))) (vg_tup (n := 2) rfl (vgs_cons (vg_name (i := 4) Sc.nd) (vgs_cons (vg_name (i := 5) Sc.nd) vgs_nil))) (vs_one (v_ifS (vt_not (vt_val (v_b (vc_any rfl) B.any (va_cons (v_lc (own := [("_law_its", 8)]) rfl Sc.nd (vi_seq (vv 3)) (blkOk_by (by rfl)) (fun _ _ _ _ _ => (vg_name (i := 8) Sc.nd)) (fun _ _ _ _ _ => vts_nil) (fun _ _ _ _ _ => (v_and (v_c C__law_same (hr.mono (by omega)) (va_cons (vv 5) (va_cons (v_ix (vv 8) v_int) va_nil))) (v_one (v_cmp vo_in (vv 4) (v_ix (vv 8) v_int) (by rfl)))))) va_nil)))) (vs_one (v_ret v_bl)) vs_nil)) PassesOwn.never)
    (vs_cons (v_set (i := 6) Sc.nd (v_lst va_nil))
    (vs_cons (v_for rfl (vi_zip B.zip (va_cons (vv 1) (va_cons (vv 2) va_nil))) (vg_tup (n := 2) rfl (vgs_cons (vg_name (i := 4) Sc.nd) (vgs_cons (vg_name (i := 5) Sc.nd) vgs_nil))) (vs_one (v_set (i := 6) Sc.nd (v_op vo_cat (vv 6) (v_lc (own := [("_law_one", 7)]) rfl Sc.nd (vi_seq (vv 5)) (blkOk_by (by rfl)) (fun _ _ _ _ _ => (vg_name (i := 7) Sc.nd)) (fun _ _ _ _ _ => vts_nil) (fun _ _ _ _ _ => (v_tup (va_cons (vv 7) (va_cons (vv 4) va_nil)))))))) PassesOwn.never)
    (vs_one (v_ret (v_b (vc_all rfl) B.all (va_cons (v_lc (own := [("_law_area", 4)]) rfl Sc.nd (vi_seq (vv 1)) (blkOk_by (by rfl)) (fun _ _ _ _ _ => (vg_name (i := 4) Sc.nd)) (fun _ _ _ _ _ => vts_nil) (fun _ _ _ _ _ => (v_cmp (vo_eqT (hu64 hr)) (v_c C__law_spread (hr.mono (by omega)) (va_cons (vv 6) (va_cons (vv 4) va_nil))) (vv 1) (by rfl)))) va_nil))))))))), ?_⟩
  rintro ⟨r, lot, ts⟩ _ Q ⟨rfl, hs, hl7, h7, hz, ht⟩ q
  dsimp only at hs hl7 h7 hz ht q ⊢
  have S2 := rows_small (lot := lot) hs
  have hS := S2.len
  unfold tiesM at q
  simp only [wSeq, wSet, wCall, wCons, wNil, wVar, asVs, allV, Option.map_some, slots0, List.map_cons, List.map_nil, List.length_cons, List.length_nil, Nat.reduceSub, Nat.reduceAdd, List.replicate_succ, List.replicate_zero, List.cons_append, List.nil_append, List.getElem?_cons_zero, List.getElem?_cons_succ, List.set_cons_zero, List.set_cons_succ, List.getElem?_cons_zero, List.getElem?_cons_succ]
  refine ⟨(r, lot), ⟨rfl, hs⟩, ?_⟩
  simp only [wIfS, wOr, wNot, wTest, wIsi, wOp, oNeS, wCB, oLen, wCons, wNil, wVar, as1, asV, asSc, scEq, asBl, contS, isTup, Bool.not_true, Bool.false_eq_true, if_false, List.length_map, List.set_cons_zero, List.set_cons_succ, List.getElem?_cons_zero, List.getElem?_cons_succ]
  cases c1 : decide (ts.length = lot.length) with
  | false =>
    rw [c1, Bool.false_and] at q
    have c1' : ¬ ((ts.length : Int) = (lot.length : Int)) := by have := of_decide_eq_false c1; omega
    refine (if_pos (by rw [decide_eq_false c1']; rfl)).mpr ?_
    exact q
  | true =>
    rw [c1, Bool.true_and] at q
    have c1n := of_decide_eq_true c1
    have c1' : ((ts.length : Int) = (lot.length : Int)) := by omega
    refine (if_neg (by rw [decide_eq_true c1']; simp)).mpr ?_
    simp only [wNext]
    simp only [wSeq]
    have hzl : (lot.zip ts).length = lot.length := by rw [List.length_zip]; omega
    have hzm : ∀ x ∈ lot.zip ts, x.1 ∈ lot ∧ x.2 ∈ ts := fun x hx => List.of_mem_zip hx
    refine for_r (xs := lot.zip ts) (fun x => .tup [.int x.1, tI x.2]) (fun i δ M => M = [] ∧ (∀ x ∈ (lot.zip ts).take i, ((rowsM r lot).any fun y => decide (x.2 = y.1) && decide (x.1 ∈ y.2)) = true) ∧
        ∃ y4 y5, δ = [some (.v (ruleT r)), some (.v (tI lot)), some (.v (.tup (ts.map tI))), some (.v (rowsD (rowsM r lot))), y4, y5, none, none, none]) (fun rr M => rr = .v (.bl false) ∧ (lot.zip ts).all (fun x => (rowsM r lot).any fun y => decide (x.2 = y.1) && decide (x.1 ∈ y.2)) = false) (fun Q' q' => ?_) ⟨rfl, fun x hx => by simp at hx, _, _, rfl⟩ (fun i x δ M nx0 rt0 ex0 nx1 e hp hrt hnx => ?_) (fun rr M hr2 => ?_) (fun δ M hp => ?_)
    · simp only [wZip, wCons, wNil, wVar, as2, asZip, List.set_cons_zero, List.set_cons_succ, List.getElem?_cons_zero, List.getElem?_cons_succ]
      rw [zipD_tI]
      exact q'
    · obtain ⟨rfl, hp1, y4, y5, rfl⟩ := hp
      have hxm := List.mem_of_getElem? e
      obtain ⟨hx1, hx2⟩ := hzm x hxm
      have htk : (lot.zip ts).take (i + 1) = (lot.zip ts).take i ++ [x] := by rw [List.take_succ, e]; rfl
      simp only [gT, List.map_cons, List.map_nil]
      simp only [gsCons]
      simp only [gN]
      simp only [gsNil]
      simp only [List.length_cons, List.length_nil, true_and, Nat.zero_add, Nat.reduceAdd, List.set_cons_zero, List.set_cons_succ, List.getElem?_cons_zero, List.getElem?_cons_succ]
      simp only [wIfS, wNot, wTest, wCB, wCons, wNil]
      refine lcM (xs := rowsM r lot) prT (fun y => .bl (decide (x.2 = y.1) && decide (x.1 ∈ y.2))) (fun Q' q' => q') (by omega) (fun y hy A h => ?_) ?_
      · obtain ⟨b1, b2⟩ := S2.each y hy
        have h10 := ht x.2 hx2
        simp only [gN, wipeD, wAndV, wCall, wOp, oIx, oIn, wCons, wNil, wVar, wC, asVs, allV, contS, asInt, asBl, prT, Option.map_some, List.set_cons_zero, List.set_cons_succ, List.getElem?_cons_zero, List.getElem?_cons_succ]
        refine ⟨_, rfl, (tI x.2, tI y.1, decide (x.2 = y.1)), ⟨rfl, smN_tI 0 (by omega)⟩, ?_⟩
        dsimp only
        cases c2 : decide (x.2 = y.1) with
        | false =>
          rw [c2, Bool.false_and] at h
          exact (if_neg Bool.false_ne_true).mpr h
        | true =>
          rw [c2, Bool.true_and] at h
          refine (if_pos rfl).mpr ⟨_, rfl, y.2, rfl, ?_⟩
          exact h
      · simp only [oAny, as1, contL, asBl]
        refine ⟨(rowsM r lot).map fun y => decide (x.2 = y.1) && decide (x.1 ∈ y.2), by rw [List.map_map]; rfl, ?_⟩
        have e3 : ((rowsM r lot).map fun y => decide (x.2 = y.1) && decide (x.1 ∈ y.2)).any id = (rowsM r lot).any fun y => decide (x.2 = y.1) && decide (x.1 ∈ y.2) := by rw [List.any_map]; rfl
        rw [e3]
        cases c2 : (rowsM r lot).any fun y => decide (x.2 = y.1) && decide (x.1 ∈ y.2) with
        | false =>
          refine (if_pos rfl).mpr ?_
          have c4 : (lot.zip ts).all (fun x => (rowsM r lot).any fun y => decide (x.2 = y.1) && decide (x.1 ∈ y.2)) = false := by
            rw [List.all_eq_false]
            exact ⟨x, hxm, by rw [c2]; simp⟩
          exact hrt _ _ ⟨rfl, c4⟩
        | true =>
          refine (if_neg (by simp)).mpr ?_
          refine hnx _ _ ⟨rfl, fun y hy => ?_, _, _, rfl⟩
          rw [htk] at hy
          rcases List.mem_append.mp hy with hy | hy
          · exact hp1 y hy
          · rw [List.mem_singleton.mp hy]; exact c2
    · obtain ⟨rfl, c4⟩ := hr2
      rw [c4, Bool.false_and] at q
      exact q
    · obtain ⟨rfl, hp1, y4, y5, rfl⟩ := hp
      rw [List.take_length] at hp1
      have c4 : (lot.zip ts).all (fun x => (rowsM r lot).any fun y => decide (x.2 = y.1) && decide (x.1 ∈ y.2)) = true := by
        rw [List.all_eq_true]
        exact hp1
      rw [c4, Bool.true_and] at q
      have hrow : ∀ x ∈ lot.zip ts, (∀ a ∈ x.2, 0 ≤ a ∧ a < 7) ∧ x.2.length ≤ 6 := fun x hx => by
        have := hp1 x hx
        rw [List.any_eq_true] at this
        obtain ⟨y, hy, hyy⟩ := this
        simp only [Bool.and_eq_true, decide_eq_true_eq] at hyy
        rw [hyy.1]
        exact ⟨(S2.ins y hy).1, (S2.each y hy).1⟩
      have hw10 : ∀ x ∈ lot.zip ts, x.2.length ≤ 10 := fun x hx => by have := (hrow x hx).2; omega
      simp only [wSet, wLst, wNil, asVs, allV, List.set_cons_zero, List.set_cons_succ, List.getElem?_cons_zero, List.getElem?_cons_succ]
      refine ⟨Nat.zero_le _, ?_⟩
      simp only [wSeq, List.set_cons_zero, List.set_cons_succ, List.getElem?_cons_zero, List.getElem?_cons_succ]
      refine for_i (xs := lot.zip ts) (fun x => .tup [.int x.1, tI x.2]) (fun i δ M => M = [] ∧ ∃ y4 y5, δ = [some (.v (ruleT r)), some (.v (tI lot)), some (.v (.tup (ts.map tI))), some (.v (rowsD (rowsM r lot))), y4, y5, some (.v (.lst ((wvL ((lot.zip ts).take i)).map pI))), none, none]) (fun Q' q' => ?_) ⟨rfl, _, _, rfl⟩ (fun i x δ M e hp => ?_) (fun δ M hp => ?_)
      · simp only [wZip, wCons, wNil, wVar, as2, asZip, List.set_cons_zero, List.set_cons_succ, List.getElem?_cons_zero, List.getElem?_cons_succ]
        rw [zipD_tI]
        exact q'
      · obtain ⟨rfl, y4, y5, rfl⟩ := hp
        have hxm := List.mem_of_getElem? e
        have htk : (lot.zip ts).take (i + 1) = (lot.zip ts).take i ++ [x] := by rw [List.take_succ, e]; rfl
        have hi := (List.getElem?_eq_some_iff.mp e).1
        have hwl := wvL_len (l := (lot.zip ts).take i) fun y hy => hw10 y (List.mem_of_mem_take hy)
        have htl := List.length_take_le i (lot.zip ts)
        have hx6 := (hrow x hxm).2
        simp only [gT, List.map_cons, List.map_nil]
        simp only [gsCons]
        simp only [gN]
        simp only [gsNil]
        simp only [List.length_cons, List.length_nil, true_and, Nat.zero_add, Nat.reduceAdd, List.set_cons_zero, List.set_cons_succ, List.getElem?_cons_zero, List.getElem?_cons_succ]
        simp only [wSet, wOp, wVar, List.set_cons_zero, List.set_cons_succ, List.getElem?_cons_zero, List.getElem?_cons_succ]
        refine lcM (xs := x.2) Dt.int (fun one => pI (one, x.1)) (fun Q' q' => q') (by omega) (fun n hn A h => ?_) ?_
        · simp only [gN, wipeD, wTup, wCons, wNil, wVar, asVs, allV, asV, Option.map_some, List.length_cons, List.length_nil, List.set_cons_zero, List.set_cons_succ, List.getElem?_cons_zero, List.getElem?_cons_succ]
          exact ⟨by decide, h⟩
        · simp only [oCat, contL, List.length_map, List.set_cons_zero, List.set_cons_succ, List.getElem?_cons_zero, List.getElem?_cons_succ]
          refine ⟨by omega, trivial, some (.v (.int x.1)), some (.v (tI x.2)), ?_⟩
          have e3 : wvL ((lot.zip ts).take (i + 1)) = wvL ((lot.zip ts).take i) ++ x.2.map fun one => (one, x.1) := by unfold wvL; rw [htk, List.flatMap_append]; simp
          rw [e3, List.map_append, List.map_map]
          rfl
      · obtain ⟨rfl, y4, y5, rfl⟩ := hp
        rw [List.take_length]
        have hwl := wvL_len (l := lot.zip ts) hw10
        have hin : ∀ y ∈ wvL (lot.zip ts), pIn y := fun y hy => by
          obtain ⟨x, hx, h1, h2⟩ := mem_wvAll.mp hy
          exact ⟨(hrow x hx).1 _ h1, by rw [h2]; exact h7 _ (hzm x hx).1⟩
        simp only [wRet, wCB, wCons, wNil]
        refine lcM (xs := lot) Dt.int (fun a => .bl (decide (rchL (wvAll lot ts) a = lot))) (fun Q' q' => q') (by omega) (fun a ha A h => ?_) ?_
        · simp only [gN, wipeD, wOp, wCall, wCons, wNil, wVar, asVs, allV, asV, Option.map_some, List.set_cons_zero, List.set_cons_succ, List.getElem?_cons_zero, List.getElem?_cons_succ]
          exact ⟨(wvL (lot.zip ts), a), ⟨rfl, by dsimp only; omega, hin, h7 a ha⟩, _, _, rfl, rfl, h⟩
        · simp only [oAll, as1, contL]
          refine ⟨lot.map fun a => decide (rchL (wvAll lot ts) a = lot), by rw [List.map_map]; rfl, ?_⟩
          have e : (lot.map fun a => decide (rchL (wvAll lot ts) a = lot)).all id = lot.all fun a => decide (rchL (wvAll lot ts) a = lot) := by rw [List.all_map]; rfl
          rw [e]
          exact q

end
end VL
set_option Elab.async false
set_option linter.all false
set_option maxRecDepth 100000
set_option maxHeartbeats 4000000
/-! VL33: the law: bent. -/
namespace VL
open PySem PySem.Spec PyProof.Rows L2 VLC
section
variable {P : Program} {w : World} {K : PySem.W.Frag} {mg : Str → Option Value} {base : Heap}

theorem cut_to1 (ds : List Dt) : cutD ds none (some 1) = ds.take 1 := by
  unfold cutD
  rw [HT.sIx_none, show HT.sIx ds.length ds.length (some 1) = min 1 ds.length from HT.sIx_nat ds.length ds.length 1, List.drop_zero, Nat.sub_zero]
  cases ds with
  | nil => rfl
  | cons d ds => rw [List.length_cons, show min 1 (ds.length + 1) = 1 by omega]
def bentIn (r : Rl) (lot : List Int) (ws : List (List Int)) (t : List Int) : Prop := t ∈ ws ∨ (∃ y ∈ r, t = y.1) ∨ t = lot ∨ t = lot.take 1
abbrev spBent : SpecU := fnU (fun (x : Nat × Rl × List Int × List (List Int)) us ds => ds = [ruleT x.2.1, tI x.2.2.1, .tup (x.2.2.2.map tI)] ∧ UOk x.1 us ∧ x.1 ≤ 900000 ∧ SmallR x.2.1 ∧ x.2.2.2.length ≤ 100) (fun x us' d => UOk (x.1 + 2 * x.2.2.2.length) us' ∧ ∃ ts : List (List Int), d = .tup (ts.map tI) ∧ ts.length = x.2.2.2.length ∧ ∀ t ∈ ts, bentIn x.2.1 x.2.2.1 x.2.2.2 t)
theorem ok_bent (D : Df K mg "_law_bent" s_bent ["_law_urn", "_law_picked_here", "_law_lot_so", "_law_told"]) (B : Bs mg) (C__law_take : Cl P w K mg base CX0 1 "_law_take" ["_law_urn", "_law_low_so"] (spU spTake)) (C__law_of : Cl P w K mg base CX0 2 "_law_of" ["_law_urn", "_law_goods"] (spU spOf)) :
    Cl P w K mg base CX0 3 "_law_bent" ["_law_urn", "_law_picked_here", "_law_lot_so", "_law_told"] (spU spBent) := by
  refine v_defU D sc_bent (fun y us ds h => by rw [h.1]; rfl) fun fa cdv A outer s H E hr => ?_
  have Sc := sc_bent

  refine ⟨_, (vs_cons (v_set (i := 4) Sc.nd (v_op vo_cat (v_lc (own := [("_law_own", 5)]) rfl Sc.nd (vi_seq (vv 1)) (blkOk_by (by rfl)) (fun _ _ _ _ _ => (vg_name (i := 5) Sc.nd)) (fun _ _ _ _ _ => vts_nil) (fun _ _ _ _ _ => (v_ix (vv 5) v_int))) (v_lst (va_cons (vv 2) (va_cons (v_to (vv 2)) va_nil)))))
    (vs_one (v_ret (v_ty vc_tuple B.tuple (va_cons (v_lc (own := [("_law_own", 5)]) rfl Sc.nd (vi_seq (vv 3)) (blkOk_by (by rfl)) (fun _ _ _ _ _ => (vg_name (i := 5) Sc.nd)) (fun _ _ _ _ _ => vts_nil) (fun _ _ _ _ _ => (v_if (vt_cmp vo_gt (v_cU C__law_take (hr.mono (by omega)) (va_cons (vv 0) (va_cons v_int va_nil))) v_int (by rfl)) (vv 5) (v_cU C__law_of (hr.mono (by omega)) (va_cons (vv 0) (va_cons (vv 4) va_nil)))))) va_nil))))), ?_⟩
  rintro ⟨n, r, lot, ws⟩ us ds Q ⟨rfl, hu, hn, hs, hw⟩ q
  dsimp only at hu hn hs hw q ⊢
  have hS := hs.len
  simp only [wSeq, wSet, wOp, slots0, List.map_cons, List.map_nil, List.length_cons, List.length_nil, Nat.reduceSub, Nat.reduceAdd, List.replicate_succ, List.replicate_zero, List.cons_append, List.nil_append, List.getElem?_cons_zero, List.getElem?_cons_succ, List.set_cons_zero, List.set_cons_succ, List.getElem?_cons_zero, List.getElem?_cons_succ]
  refine lcM (xs := r) prT (fun y => tI y.1) (fun Q' q' => q') (by omega) (fun y hy A h => ?_) ?_
  · simp only [gN, wipeD, wOp, oIx, wVar, wC, contS, asInt, asV, prT, List.set_cons_zero, List.set_cons_succ, List.getElem?_cons_zero, List.getElem?_cons_succ]
    exact ⟨_, rfl, h⟩
  simp only [wLst, wTo, wVar, wC, wCons, wNil, asVs, allV, asInt, contT, contS, oCat, contL, Option.map_some, List.length_map, slots0, List.map_cons, List.map_nil, List.length_cons, List.length_nil, Nat.reduceSub, Nat.reduceAdd, List.replicate_succ, List.replicate_zero, List.cons_append, List.nil_append, List.getElem?_cons_zero, List.getElem?_cons_succ, List.set_cons_zero, List.set_cons_succ, List.getElem?_cons_zero, List.getElem?_cons_succ]
  refine ⟨by decide, by omega, ?_⟩
  have eg : (r.map fun y => tI y.1) ++ [tI lot, Dt.tup (cutD (lot.map Dt.int) none (some 1))] = ((r.map fun y => y.1) ++ [lot, lot.take 1]).map tI := by
    rw [cut_to1, List.map_append, List.map_map, ← List.map_take]
    rfl
  simp only [eg]
  have hg : ∀ t ∈ (r.map fun y => y.1) ++ [lot, lot.take 1], bentIn r lot ws t := fun t ht => by
    rcases List.mem_append.mp ht with ht | ht
    · obtain ⟨y, hy, rfl⟩ := List.mem_map.mp ht
      exact .inr (.inl ⟨y, hy, rfl⟩)
    · rcases List.mem_cons.mp ht with rfl | ht
      · exact .inr (.inr (.inl rfl))
      · rw [List.mem_singleton] at ht
        exact .inr (.inr (.inr ht))
  generalize hgs : (r.map fun y => y.1) ++ [lot, lot.take 1] = gs at hg ⊢
  have hgl : gs.length = r.length + 2 := by rw [← hgs]; simp
  simp only [wRet, wCB, wCons, wNil]
  have hi : ∀ Q' : List Dt → Me → Prop, Q' (ws.map tI) [.lst us] → wSeqI (wVar 3) [some (.o 0), some (.v (ruleT r)), some (.v (tI lot)), some (.v (.tup (ws.map tI))), some (.v (.lst (gs.map tI))), none] [.lst us] Q' := fun Q' q' => q'
  refine hi _ ⟨by rw [List.length_map]; omega, fun i acc M => ∃ us ts, M = [.lst us] ∧ acc = ts.map tI ∧ UOk (n + 2 * i) us ∧ ts.length = i ∧ ∀ t ∈ ts, bentIn r lot ws t, ⟨us, [], rfl, rfl, hu, rfl, fun t ht => by simp at ht⟩, fun i d acc M e hp => ?_, fun acc M hp => ?_⟩
  · obtain ⟨us, ts, rfl, rfl, hu1, htl, hts⟩ := hp
    rw [List.getElem?_map] at e
    obtain ⟨t, ht, rfl⟩ := Option.map_eq_some_iff.mp e
    have hi := (List.getElem?_eq_some_iff.mp ht).1
    simp only [gN, wipeD, wYes, wIf, wTest, wOp, wCallU, asU, oB0, wVar, wC, wCons, wNil, asVs, allV, asV, Option.map_some, if_true, List.set_cons_zero, List.set_cons_succ, List.getElem?_cons_zero, List.getElem?_cons_succ]
    refine ⟨(n + 2 * i, 3), ⟨rfl, hu1, by dsimp only; omega, by dsimp only; decide, by dsimp only; decide⟩, ?_⟩
    rintro us1 _ ⟨hu2, k, rfl, k0, k1⟩
    simp only [asInt, asBl]
    cases hb : decide ((0 : Int) < k) with
    | true =>
      refine (if_pos rfl).mpr ⟨us1, ts ++ [t], rfl, by rw [List.map_append]; rfl, hu2.mono (by dsimp only; omega), by simp [htl], fun u hu => ?_⟩
      rcases List.mem_append.mp hu with hu | hu
      · exact hts u hu
      · rw [List.mem_singleton.mp hu]
        exact .inl (List.mem_of_getElem? ht)
    | false =>
      refine (if_neg Bool.false_ne_true).mpr ?_
      refine ⟨(n + 2 * i + 1, gs.map tI, .lst (gs.map tI)), ⟨rfl, .inl rfl, hu2, by dsimp only; omega, by dsimp only; rw [List.length_map]; omega, by dsimp only; rw [List.length_map]; omega⟩, ?_⟩
      rintro us2 _ ⟨hu3, hm⟩
      obtain ⟨t', ht', rfl⟩ := List.mem_map.mp hm
      refine ⟨us2, ts ++ [t'], rfl, by rw [List.map_append]; rfl, hu3.mono (by dsimp only; omega), by simp [htl], fun u hu => ?_⟩
      rcases List.mem_append.mp hu with hu | hu
      · exact hts u hu
      · rw [List.mem_singleton.mp hu]
        exact hg _ ht'
  · obtain ⟨us, ts, rfl, rfl, hu1, htl, hts⟩ := hp
    rw [List.length_map] at hu1 htl
    simp only [oTuple, as1, contS, endU, retD, asM0, List.set_cons_zero, List.set_cons_succ, List.getElem?_cons_zero, List.getElem?_cons_succ]
    exact q _ _ ⟨hu1, ts, rfl, htl, hts⟩

end
end VL
set_option Elab.async false
set_option linter.all false
set_option maxRecDepth 100000
set_option maxHeartbeats 4000000
/-! VL34: the law: picked. -/
namespace VL
open PySem PySem.Spec PyProof.Rows L2 VLC
section
variable {P : Program} {w : World} {K : PySem.W.Frag} {mg : Str → Option Value} {base : Heap}
abbrev s_picked : Stmt := topS 36
theorem sc_picked : FnScope ["_law_urn", "_law_m", "_law_loose_so", "_law_names", "_law_blocks", "_law_kind", "_law_k", "_law_own", "_law_found", "_law_first", "_law_goods", "_law_some", "_law_area"] ["_law_urn", "_law_m", "_law_loose_so"] (defScope s_picked) := ⟨rfl, rfl, rfl, by decide +kernel, rfl, by decide +kernel, by decide +kernel⟩


def bD (bs : List (Int × Int)) : List (Int × Dt) := bs.map fun z => (z.1, .int z.2)
theorem b_get {bs : List (Int × Int)} {a : Int} (h : a ∈ bs.map (·.1)) : ∃ v, getD (bD bs) a = some (.int v) := by
  unfold getD bD
  induction bs with
  | nil => simp at h
  | cons z bs ih =>
    rw [List.map_cons, List.find?_cons]
    by_cases h' : z.1 = a
    · subst h'
      simp
    · have e : decide (z.1 = a) = false := decide_eq_false h'
      simp only [e]
      rw [List.map_cons] at h
      rcases List.mem_cons.mp h with h | h
      · exact absurd h.symm h'
      · exact ih h
def bval (bs : List (Int × Int)) (a : Int) : Int := match getD (bD bs) a with | some (.int v) => v | _ => 0
theorem b_val {bs : List (Int × Int)} {a : Int} (h : a ∈ bs.map (·.1)) : getD (bD bs) a = some (.int (bval bs a)) := by
  obtain ⟨v, e⟩ := b_get h
  unfold bval
  rw [e]
theorem b_put {bs : List (Int × Int)} {a : Int} {t : Int} (h : a ∉ bs.map (·.1)) : putD (bD bs) a (.int t) = bD (bs ++ [(a, t)]) := by
  unfold putD
  have e : ((bD bs).any fun kv => decide (kv.1 = a)) = false := by
    rw [List.any_eq_false]
    intro x hx
    obtain ⟨z, hz, rfl⟩ := List.mem_map.mp hx
    simp only [decide_eq_true_eq]
    exact fun e => h (List.mem_map.mpr ⟨z, hz, e⟩)
  rw [e, if_neg Bool.false_ne_true]
  unfold bD
  rw [List.map_append]
  rfl
theorem get_concat {α : Type} (l : List α) (x : α) : (l ++ [x])[l.length]? = some x := by simp
theorem set_concat {α : Type} (l : List α) (x y : α) : (l ++ [x]).set l.length y = l ++ [y] := by
  induction l with
  | nil => rfl
  | cons a l ih => simp
/-- one row as it may be picked -/
structure OkRow (x : List Int × List Int) : Prop where
  ne : x.2 ≠ []
  sub : ∀ a ∈ x.2, a ∈ x.1
  srt : x.2.Pairwise (· < ·)
  len : x.2.length ≤ 2
theorem ll_perm (m : Nat) : (llotsM m).Perm ((dblN (rg m)).drop 1) := List.mergeSort_perm _ _
theorem ll_tab : ((List.range 6).all fun m => decide (((dblN (rg m)).drop 1).length ≤ 40) && (decide (m < 2 ∨ [(0 : Int), 1] ∈ (dblN (rg m)).drop 1) && (((dblN (rg m)).drop 1).all fun l => !l.isEmpty && (decide (l.length ≤ 6) && l.all fun a => decide (a ∈ rg m))))) = true := by decide +kernel
theorem ll_facts {m : Nat} (hm : m ≤ 5) : (llotsM m).length ≤ 40 ∧ (2 ≤ m → [0, 1] ∈ llotsM m) ∧ ∀ l ∈ llotsM m, l ≠ [] ∧ l.length ≤ 6 ∧ ∀ a ∈ l, a ∈ rg m := by
  have h := ll_tab
  rw [List.all_eq_true] at h
  have h2 := h m (List.mem_range.mpr (by omega))
  simp only [Bool.and_eq_true, decide_eq_true_eq, List.all_eq_true, Bool.not_eq_true', List.isEmpty_eq_false_iff] at h2
  have p := ll_perm m
  refine ⟨by rw [p.length_eq]; exact h2.1, fun hm => p.mem_iff.mpr (h2.2.1.resolve_left (by omega)), fun l hl => ?_⟩
  have hl' := p.mem_iff.mp hl
  exact ⟨(h2.2.2 l hl').1, (h2.2.2 l hl').2.1, (h2.2.2 l hl').2.2⟩
theorem okrow_of {own ps ps' : List Int} (hs : ps'.Pairwise (· < ·)) (hm : ∀ k, k ∈ ps' ↔ k ∈ ps) (ho : ∀ a ∈ ps, a ∈ own) (hne : ps ≠ []) (hl : ps.length ≤ 2) : OkRow (own, ps') := by
  refine ⟨?_, fun a ha => ho a ((hm a).mp ha), hs, ?_⟩
  · intro e
    dsimp only at e
    obtain ⟨x, hx⟩ := List.exists_mem_of_ne_nil ps hne
    have := (hm x).mpr hx
    rw [e] at this
    simp at this
  · have hnd : ps'.Nodup := hs.imp fun h => by omega
    have := hnd.length_le_of_subset (l₂ := ps) fun a ha => (hm a).mp ha
    dsimp only
    omega
def PickedOk (m : Nat) (r : Rl) : Prop := r.map (·.1) = (llotsM m).filter (fun l => decide (1 < l.length)) ∧ ∀ x ∈ r, OkRow x
abbrev spPicked : SpecU := fnU (fun (x : Nat × Nat × Bool) us ds => ds = [.int (x.2.1 : Nat), .bl x.2.2] ∧ UOk x.1 us ∧ x.1 ≤ 900000 ∧ 2 ≤ x.2.1 ∧ x.2.1 ≤ 5) (fun x us' d => UOk (x.1 + 200) us' ∧ ∃ r : Rl, d = .tpl (r.map prT) ∧ PickedOk x.2.1 r)
def pkS (m : Nat) (lo : Bool) (ns : List Int) (kd : Int) (y6 y7 y8 y9 y10 y11 y12 : Option Rs) : Sl := [some (.o 0), some (.v (.int m)), some (.v (.bl lo)), some (.v (lI ns)), some (.o 1), some (.v (.int kd)), y6, y7, y8, y9, y10, y11, y12]
def pkA (n m : Nat) (lo : Bool) (ns : List Int) (kd : Int) (i : Nat) (δ : Sl) (M : Me) : Prop := ∃ us bs y6 y7, M = [.lst us, .di (bD bs)] ∧ UOk (n + m + 1 + i) us ∧ bs.map (·.1) = ns.take i ∧ δ = pkS m lo ns kd y6 y7 none none none none none
def pkB (n m : Nat) (lo : Bool) (ns : List Int) (kd : Int) (i : Nat) (δ : Sl) (M : Me) : Prop := ∃ us bs fd ex y6 y7 y9 y10 y11 y12, M = .lst us :: .di (bD bs) :: .lst (List.map prT fd) :: ex ∧ UOk (n + m + 1 + m + 3 * i) us ∧ bs.map (·.1) = ns ∧ fd.map (·.1) = ((llotsM m).take i).filter (fun l => decide (1 < l.length)) ∧ (∀ x ∈ fd, OkRow x) ∧ fd.length ≤ i ∧ δ = pkS m lo ns kd y6 y7 (some (.o 2)) y9 y10 y11 y12
theorem ok_picked (D : Df K mg "_law_picked" s_picked ["_law_urn", "_law_m", "_law_loose_so"]) (B : Bs mg) (C__law_take : Cl P w K mg base CX0 1 "_law_take" ["_law_urn", "_law_low_so"] (spU spTake)) (C__law_of : Cl P w K mg base CX0 2 "_law_of" ["_law_urn", "_law_goods"] (spU spOf)) (C__law_shuffled : Cl P w K mg base CX0 2 "_law_shuffled" ["_law_urn", "_law_goods"] (spU spShuf)) (C__law_lots : Cl P w K mg base CX0 1 "_law_lots" ["_law_lot_so"] (spV spLLots)) :
    Cl P w K mg base CX0 3 "_law_picked" ["_law_urn", "_law_m", "_law_loose_so"] (spU spPicked) := by
  refine v_defU D sc_picked (fun y us ds h => by rw [h.1]; rfl) fun fa cdv A outer s H E hr => ?_
  have Sc := sc_picked

  refine ⟨_, (vs_cons (v_parT3 (i := 3) (j := 4) (l := 5) rfl Sc.nd (va_cons (v_cU C__law_shuffled (hr.mono (by omega)) (va_cons (vv 0) (va_cons (v_lstRg rfl B.list B.range (vv 1)) va_nil))) (va_cons v_dict0 (va_cons (v_cU C__law_take (hr.mono (by omega)) (va_cons (vv 0) (va_cons v_int va_nil))) va_nil))))
    (vs_cons (v_for rfl (vi_enum B.enumerate (va_cons (vv 3) va_nil)) (vg_tup (n := 2) rfl (vgs_cons (vg_name (i := 6) Sc.nd) (vgs_cons (vg_name (i := 7) Sc.nd) vgs_nil))) (vs_one (v_dput (hu1 hr) (v_if (VW.vt (vw_or (vt_cmp vo_eqS (vv 6) v_int (by rfl)) (vw_or1 (vt_cmp vo_eqS (v_cU C__law_take (hr.mono (by omega)) (va_cons (vv 0) (va_cons v_int va_nil))) v_int (by rfl))))) (vv 6) (v_dget (hu1 hr) (vv 4) (v_ix (vv 3) (v_op vo_sub (vv 6) v_int)))) (vv 4) (vv 7))) PassesOwn.never)
    (vs_cons (v_set (i := 8) Sc.nd (v_lstO va_nil))
    (vs_cons (v_for rfl (vi_seq (v_c C__law_lots (hr.mono (by omega)) (va_cons (v_tupRg rfl B.tuple B.range (vv 1)) va_nil))) (vg_name (i := 7) Sc.nd) (vs_cons (v_set (i := 9) Sc.nd (v_b (vc_minL rfl) B.min (va_cons (v_lc (own := [("_law_area", 12)]) rfl Sc.nd (vi_seq (vv 7)) (blkOk_by (by rfl)) (fun _ _ _ _ _ => (vg_name (i := 12) Sc.nd)) (fun _ _ _ _ _ => vts_nil) (fun _ _ _ _ _ => (v_dget (hu1 hr) (vv 4) (vv 12)))) va_nil)))
    (vs_cons (v_set (i := 10) Sc.nd (v_orL (v_lc (own := [("_law_area", 12)]) rfl Sc.nd (vi_seq (vv 7)) (blkOk_by (by rfl)) (fun _ _ _ _ _ => (vg_name (i := 12) Sc.nd)) (fun _ _ _ _ _ => (vts_one (VW.vt (vw_or (vt_cmp vo_eqS (vv 5) v_int (by rfl)) (vw_or1 (vt_cmp vo_neS (v_dget (hu1 hr) (vv 4) (vv 12)) (vv 9) (by rfl))))))) (fun _ _ _ _ _ => (vv 12))) (v_one (v_ty vc_list B.list (va_cons (vv 7) va_nil)))))
    (vs_cons (v_set (i := 11) Sc.nd (v_lstO (va_cons (v_cU C__law_of (hr.mono (by omega)) (va_cons (vv 0) (va_cons (vv 10) va_nil))) va_nil)))
    (vs_cons (v_ifS (VW.vt (vw_and (vt_val (vv 2)) (vw_and1 (vt_cmp vo_eqS (v_cU C__law_take (hr.mono (by omega)) (va_cons (vv 0) (va_cons v_int va_nil))) v_int (by rfl))))) (vs_one (v_expr (v_mt vm_append PySem.F.plainAttrs_list PySem.F.slot_list_append PySem.F.type_list_append (vv 11) (va_cons (v_cU C__law_of (hr.mono (by omega)) (va_cons (vv 0) (va_cons (vv 10) va_nil))) va_nil)))) vs_nil)
    (vs_one (v_ifS (vt_cmp vo_gt (v_b vc_len B.len (va_cons (vv 7) va_nil)) v_int (by rfl)) (vs_one (v_expr (v_mt vm_append PySem.F.plainAttrs_list PySem.F.slot_list_append PySem.F.type_list_append (vv 8) (va_cons (v_tup (va_cons (vv 7) (va_cons (v_ty vc_tuple B.tuple (va_cons (v_sortSetI rfl (hu4 hr) B.sorted B.set (vv 11)) va_nil)) va_nil))) va_nil)))) vs_nil)))))) PassesOwn.never)
    (vs_one (v_ret (v_ty vc_tupleF B.tuple (va_cons (vv 8) va_nil)))))))), ?_⟩
  rintro ⟨n, m, lo⟩ us ds Q ⟨rfl, hu, hn, hm2, hm5⟩ q
  dsimp only at hu hn hm2 hm5 q ⊢
  have rgl := rg_len m
  simp only [wSeq, wPar3, wCallU, asU, wLstRg, wDictO, wVar, wC, wCons, wNil, asVs, allV, asInt, as3, Option.map_some, slots0, List.map_cons, List.map_nil, List.length_cons, List.length_nil, Nat.reduceSub, Nat.reduceAdd, List.replicate_succ, List.replicate_zero, List.cons_append, List.nil_append, List.getElem?_cons_zero, List.getElem?_cons_succ, List.set_cons_zero, List.set_cons_succ, List.getElem?_cons_zero, List.getElem?_cons_succ]
  refine ⟨⟨by omega, by omega⟩, (n, rg m), ⟨by rw [Int.toNat_natCast, rgD_rg], hu, by dsimp only; omega, by dsimp only; omega⟩, ?_⟩
  rintro us1 _ ⟨hu1, ns, rfl, hpm⟩
  dsimp only at hu1 hpm
  have hnl := hpm.length_eq
  rw [rgl] at hu1 hnl
  have hnd : ns.Nodup := hpm.nodup_iff.mpr ((rg_sorted m).imp fun h => by omega)
  refine ⟨(n + m, 4), ⟨rfl, hu1, by dsimp only; omega, by dsimp only; decide, by dsimp only; decide⟩, ?_⟩
  rintro us2 _ ⟨hu2, kd, rfl, k0, k1⟩
  dsimp only at hu2
  refine for_i (xs := ns.zipIdx) (fun x => .tup [.int (x.2 : Nat), .int x.1]) (pkA n m lo ns kd) (fun Q' q' => ?_) ⟨us2, [], _, _, rfl, hu2, rfl, rfl⟩ (fun i x δ M e hp => ?_) (fun δ M hp => ?_)
  · simp only [wEnum, wVar, wCons, wNil, as1, asLst, enumD, List.set_cons_zero, List.set_cons_succ, List.getElem?_cons_zero, List.getElem?_cons_succ]
    rw [List.zipIdx_map, List.map_map]
    exact q'
  · obtain ⟨us, bs, y6, y7, rfl, hu3, hbs, rfl⟩ := hp
    rw [List.getElem?_zipIdx] at e
    obtain ⟨a, ha, rfl⟩ := Option.map_eq_some_iff.mp e
    have hi := (List.getElem?_eq_some_iff.mp ha).1
    rw [Nat.zero_add]
    unfold pkS
    simp only [gT, List.map_cons, List.map_nil]
    simp only [gsCons]
    simp only [gN]
    simp only [gsNil]
    simp only [List.length_cons, List.length_nil, true_and, Nat.zero_add, Nat.reduceAdd, List.set_cons_zero, List.set_cons_succ, List.getElem?_cons_zero, List.getElem?_cons_succ]
    simp only [wDPut, wIf, wTest, wOr, wOp, oEqS, oB0, wVar, wC, asSc, scEq, asBl, List.set_cons_zero, List.set_cons_succ, List.getElem?_cons_zero, List.getElem?_cons_succ]
    have fin : ∀ us' (v : Int), UOk (n + m + 1 + (i + 1)) us' → asInt (.v (.int a)) fun k => asV (.v (.int v)) fun d => asD (.o 1) [.lst us', .di (bD bs)] fun n_1 kvs => kvs.length ≤ 1000 ∧ pkA n m lo ns kd (i + 1) (pkS m lo ns kd (some (.v (.int i))) (some (.v (.int a))) none none none none none) (([.lst us', .di (bD bs)] : Me).set n_1 (.di (putD kvs k d))) := by
      intro us' v hu'
      have hfr : a ∉ bs.map (·.1) := by
        rw [hbs]
        intro hm
        obtain ⟨j, hj, e⟩ := List.mem_iff_getElem.mp hm
        rw [List.getElem_take] at e
        have hj' : j < i := by rw [List.length_take] at hj; omega
        have ha' := (List.getElem?_eq_some_iff.mp ha).2
        exact List.pairwise_iff_getElem.mp hnd j i (by omega) hi hj' (e.trans ha'.symm)
      simp only [asInt, asV, asD, List.set_cons_zero, List.set_cons_succ, List.getElem?_cons_zero, List.getElem?_cons_succ]
      refine ⟨?_, us', bs ++ [(a, v)], _, _, by rw [b_put hfr], hu', by rw [List.map_append, hbs, List.take_succ, ha]; rfl, rfl⟩
      have := congrArg List.length hbs
      rw [List.length_map, List.length_take] at this
      unfold bD
      rw [List.length_map]
      omega
    by_cases hi0 : (i : Int) = 0
    · exact (if_pos (decide_eq_true hi0)).mpr ((if_pos trivial).mpr (fin us i (hu3.mono (by omega))))
    · refine (if_neg (by simpa using hi0)).mpr ?_
      simp only [wCallU, asU, wVar, wC, wCons, wNil, asVs, allV, Option.map_some, List.set_cons_zero, List.set_cons_succ, List.getElem?_cons_zero, List.getElem?_cons_succ]
      refine ⟨(n + m + 1 + i, 2), ⟨rfl, hu3, by dsimp only; omega, by dsimp only; decide, by dsimp only; decide⟩, ?_⟩
      rintro us4 _ ⟨hu4, k, rfl, k0, k1⟩
      dsimp only at hu4 ⊢
      cases hb : decide (k = 0) with
      | true => exact (if_pos rfl).mpr (fin us4 i (hu4.mono (by omega)))
      | false =>
        refine (if_neg Bool.false_ne_true).mpr ?_
        simp only [wDGet, wOp, oIx, oI0, wVar, wC, asInt, asD, contS, List.set_cons_zero, List.set_cons_succ, List.getElem?_cons_zero, List.getElem?_cons_succ]
        have hk : ns.getD (i - 1) 0 ∈ bs.map (·.1) := by
          rw [hbs, List.getD_eq_getElem?_getD, List.getElem?_eq_getElem (by omega), Option.getD_some, List.mem_iff_getElem]
          exact ⟨i - 1, by rw [List.length_take]; omega, by rw [List.getElem_take]⟩
        refine ⟨_, at_int (k := i - 1) (by omega) (by omega), _, b_val hk, ?_⟩
        exact fin us4 _ (hu4.mono (by omega))
  · obtain ⟨us, bs, y6, y7, rfl, hu3, hbs, rfl⟩ := hp
    rw [List.length_zipIdx, hnl] at hu3
    rw [List.length_zipIdx, List.take_length] at hbs
    obtain ⟨ll1, ll2, ll3⟩ := ll_facts hm5
    unfold pkS
    simp only [wSet, wLstO, wNil, asVs, allV, List.length_cons, List.length_nil, Nat.reduceAdd, List.set_cons_zero, List.set_cons_succ, List.getElem?_cons_zero, List.getElem?_cons_succ]
    refine ⟨Nat.zero_le _, ?_⟩
    simp only [wSeq, List.set_cons_zero, List.set_cons_succ, List.getElem?_cons_zero, List.getElem?_cons_succ]
    refine for_i (xs := llotsM m) tI (pkB n m lo ns kd) (fun Q' q' => ?_) ⟨us, bs, [], [], _, _, _, _, _, _, rfl, hu3, hbs, rfl, fun x hx => by simp at hx, Nat.le_refl _, rfl⟩ (fun i own δ M e hp => ?_) (fun δ M hp => ?_)
    · simp only [wSeqI, wCall, wTupRg, wVar, wCons, wNil, asInt, asVs, allV, asSeq, Option.map_some, List.set_cons_zero, List.set_cons_succ, List.getElem?_cons_zero, List.getElem?_cons_succ]
      refine ⟨⟨by omega, by omega⟩, m, ⟨by rw [Int.toNat_natCast, rgD_rg], hm5⟩, ?_⟩
      exact q'
    · obtain ⟨us, bs, fd, ex, y6, y7, y9, y10, y11, y12, rfl, hu3, hbs, hfd, hok, hfl, rfl⟩ := hp
      have hxm := List.mem_of_getElem? e
      obtain ⟨hl1, hl2, hl3⟩ := ll3 own hxm
      have htk : (llotsM m).take (i + 1) = (llotsM m).take i ++ [own] := by rw [List.take_succ, e]; rfl
      have hi := (List.getElem?_eq_some_iff.mp e).1
      have hkey : ∀ a ∈ own, a ∈ bs.map (·.1) := fun a ha => by rw [hbs]; exact hpm.mem_iff.mpr (hl3 a ha)
      unfold pkS
      simp only [gN, List.set_cons_zero, List.set_cons_succ, List.getElem?_cons_zero, List.getElem?_cons_succ]
      simp only [wSeq, wSet, wCB, wCons, wNil, List.set_cons_zero, List.set_cons_succ, List.getElem?_cons_zero, List.getElem?_cons_succ]
      refine lcM (xs := own) Dt.int (fun a => .int (bval bs a)) (fun Q' q' => q') (by omega) (fun a ha A h => ?_) ?_
      · simp only [gN, wipeD, wDGet, wVar, asInt, asD, asV, List.set_cons_zero, List.set_cons_succ, List.getElem?_cons_zero, List.getElem?_cons_succ]
        exact ⟨_, b_val (hkey a ha), h⟩
      simp only [oMinL, as1, contL, List.set_cons_zero, List.set_cons_succ, List.getElem?_cons_zero, List.getElem?_cons_succ]
      refine ⟨own.map (bval bs), by rw [List.map_map]; rfl, by rw [List.length_map]; exact List.length_pos_iff.mpr hl1, fun fst _ _ => ?_⟩
      simp only [wOrL]
      refine lcF (xs := own) Dt.int (fun a => decide (kd = 0) || !decide (bval bs a = fst)) Dt.int (fun Q' q' => q') (by omega) (fun a ha A B h1 h2 => ?_) ?_
      · simp only [gN, wipeD, wTest, wOr, wOp, oEqS, oNeS, wVar, wC, asSc, scEq, asBl, asV, List.set_cons_zero, List.set_cons_succ, List.getElem?_cons_zero, List.getElem?_cons_succ]
        cases c1 : decide (kd = 0) with
        | true =>
          refine (if_pos rfl).mpr ((if_pos trivial).mpr ?_)
          exact h1 (by rw [c1]; rfl)
        | false =>
          refine (if_neg Bool.false_ne_true).mpr ?_
          simp only [wDGet, wVar, asInt, asD, List.set_cons_zero, List.set_cons_succ, List.getElem?_cons_zero, List.getElem?_cons_succ]
          refine ⟨_, b_val (hkey a ha), ?_⟩
          cases c2 : decide (bval bs a = fst) with
          | true => exact (if_neg (by simpa using of_decide_eq_true c2)).mpr (h2 (by rw [c1, c2]; rfl))
          | false => exact (if_pos (by simpa using of_decide_eq_false c2)).mpr (h1 (by rw [c1, c2]; rfl))
      have hgsub : ∀ a ∈ own.filter (fun a => decide (kd = 0) || !decide (bval bs a = fst)), a ∈ own := fun a ha => (List.mem_filter.mp ha).1
      have hglen : (own.filter (fun a => decide (kd = 0) || !decide (bval bs a = fst))).length ≤ own.length := List.length_filter_le _ _
      generalize own.filter (fun a => decide (kd = 0) || !decide (bval bs a = fst)) = gf at hgsub hglen ⊢
      cases hgf : gf with
      | nil =>
        refine (if_pos rfl).mpr ?_
        simp only [wCB, oList, wLstO, wCallU, asU, wVar, wCons, wNil, as1, contS, asVs, allV, Option.map_some, List.set_cons_zero, List.set_cons_succ, List.getElem?_cons_zero, List.getElem?_cons_succ]

        refine ⟨(n + m + 1 + m + 3 * i, own.map Dt.int, .lst (own.map Dt.int)), ⟨rfl, .inl rfl, hu3, by dsimp only; omega, by dsimp only; rw [List.length_map]; exact List.length_pos_iff.mpr hl1, by dsimp only; rw [List.length_map]; omega⟩, ?_⟩
        rintro us4 _ ⟨hu4, hm1⟩
        obtain ⟨g1, hg1, rfl⟩ := List.mem_map.mp hm1
        have own1 : ∀ a ∈ [g1], a ∈ own := fun a ha => by rw [List.mem_singleton.mp ha]; exact hg1
        have sub1 : ∀ a ∈ [g1], a ∈ rg m := fun a ha => hl3 _ (own1 a ha)
        refine ⟨by simp, ?_⟩
        simp only [List.cons_append, List.length_cons, List.set_cons_zero, List.set_cons_succ, List.getElem?_cons_zero, List.getElem?_cons_succ]
        simp only [wIfS, wTest, wAnd, wVar, asBl, List.set_cons_zero, List.set_cons_succ, List.getElem?_cons_zero, List.getElem?_cons_succ]
        cases lo with
        | false =>
          refine (if_neg Bool.false_ne_true).mpr ?_
          refine (if_neg Bool.false_ne_true).mpr ?_
          simp only [wNext]
          simp only [wIfS, wTest, wOp, oB0, wCB, oLen, wCons, wNil, wVar, wC, as1, asInt, asBl, contS, List.length_map, List.set_cons_zero, List.set_cons_succ, List.getElem?_cons_zero, List.getElem?_cons_succ]
          cases c1 : decide ((1 : Int) < (own.length : Int)) with
          | false =>
            refine (if_neg Bool.false_ne_true).mpr ?_
            refine ⟨_, bs, fd, _, _, _, _, _, _, _, rfl, hu4.mono (by dsimp only; omega), hbs, ?_, hok, by omega, rfl⟩
            rw [htk, List.filter_append, hfd]
            have : ¬ 1 < own.length := by have := of_decide_eq_false c1; omega
            simp [this]
          | true =>
            refine (if_pos rfl).mpr ?_
            simp only [wDrop, wMt, wTup, wSortSetI, wCB, oTuple, oApp, wCons, wNil, wVar, as1, asO, asV, asVs, allV, contL, contS, Option.map_some, get_concat, List.set_cons_zero, List.set_cons_succ, List.getElem?_cons_zero, List.getElem?_cons_succ]
            refine ⟨[g1], rg m, rfl, by simp, sub1, by omega, fun ps' hs' hm' => ⟨by simp, by rw [List.length_map]; omega, ?_⟩⟩
            refine ⟨_, bs, fd ++ [(own, ps')], _, _, _, _, _, _, _, by rw [List.map_append]; rfl, hu4.mono (by dsimp only; omega), hbs, ?_, ?_, by rw [List.length_append]; simp; omega, rfl⟩
            · rw [htk, List.filter_append, List.map_append, hfd]
              have : 1 < own.length := by have := of_decide_eq_true c1; omega
              simp [this]
            · intro x hx
              rcases List.mem_append.mp hx with hx | hx
              · exact hok x hx
              · rw [List.mem_singleton.mp hx]
                exact okrow_of hs' hm' own1 (by simp) (by simp)
        | true =>
          refine (if_pos rfl).mpr ?_
          simp only [wOp, oEqS, wCallU, asU, wVar, wC, wCons, wNil, asVs, allV, Option.map_some, List.set_cons_zero, List.set_cons_succ, List.getElem?_cons_zero, List.getElem?_cons_succ]
          refine ⟨(n + m + 1 + m + 3 * i + 1, 3), ⟨rfl, hu4, by dsimp only; omega, by dsimp only; decide, by dsimp only; decide⟩, ?_⟩
          rintro us5 _ ⟨hu5, k2, rfl, k20, k21⟩
          simp only [asSc, scEq, asBl]
          cases c2 : decide (k2 = 0) with
          | true =>
            refine (if_pos rfl).mpr ?_
            simp only [wDrop, wMt, wCallU, asU, oApp, wVar, wCons, wNil, as1, asO, asV, asVs, allV, Option.map_some, get_concat, List.set_cons_zero, List.set_cons_succ, List.getElem?_cons_zero, List.getElem?_cons_succ]
            refine ⟨(n + m + 1 + m + 3 * i + 1 + 1, own.map Dt.int, .lst (own.map Dt.int)), ⟨rfl, .inl rfl, hu5, by dsimp only; omega, by dsimp only; rw [List.length_map]; exact List.length_pos_iff.mpr hl1, by dsimp only; rw [List.length_map]; omega⟩, ?_⟩
            rintro us6 _ ⟨hu6, hm2⟩
            obtain ⟨g2, hg2, rfl⟩ := List.mem_map.mp hm2
            have own2 : ∀ a ∈ [g1, g2], a ∈ own := fun a ha => by
              rcases List.mem_cons.mp ha with rfl | ha
              · exact hg1
              · rw [List.mem_singleton.mp ha]; exact hg2
            have sub2 : ∀ a ∈ [g1, g2], a ∈ rg m := fun a ha => hl3 _ (own2 a ha)
            refine ⟨by simp, ?_⟩
            simp only [set_concat, List.cons_append, List.nil_append]
            simp only [wIfS, wTest, wOp, oB0, wCB, oLen, wCons, wNil, wVar, wC, as1, asInt, asBl, contS, List.length_map, List.set_cons_zero, List.set_cons_succ, List.getElem?_cons_zero, List.getElem?_cons_succ]
            cases c1 : decide ((1 : Int) < (own.length : Int)) with
            | false =>
              refine (if_neg Bool.false_ne_true).mpr ?_
              refine ⟨_, bs, fd, _, _, _, _, _, _, _, rfl, hu6.mono (by dsimp only; omega), hbs, ?_, hok, by omega, rfl⟩
              rw [htk, List.filter_append, hfd]
              have : ¬ 1 < own.length := by have := of_decide_eq_false c1; omega
              simp [this]
            | true =>
              refine (if_pos rfl).mpr ?_
              simp only [wDrop, wMt, wTup, wSortSetI, wCB, oTuple, oApp, wCons, wNil, wVar, as1, asO, asV, asVs, allV, contL, contS, Option.map_some, get_concat, List.set_cons_zero, List.set_cons_succ, List.getElem?_cons_zero, List.getElem?_cons_succ]
              refine ⟨[g1, g2], rg m, rfl, by simp, sub2, by omega, fun ps' hs' hm' => ⟨by simp, by rw [List.length_map]; omega, ?_⟩⟩
              refine ⟨_, bs, fd ++ [(own, ps')], _, _, _, _, _, _, _, by rw [List.map_append]; rfl, hu6.mono (by dsimp only; omega), hbs, ?_, ?_, by rw [List.length_append]; simp; omega, rfl⟩
              · rw [htk, List.filter_append, List.map_append, hfd]
                have : 1 < own.length := by have := of_decide_eq_true c1; omega
                simp [this]
              · intro x hx
                rcases List.mem_append.mp hx with hx | hx
                · exact hok x hx
                · rw [List.mem_singleton.mp hx]
                  exact okrow_of hs' hm' own2 (by simp) (by simp)
          | false =>
            refine (if_neg Bool.false_ne_true).mpr ?_
            simp only [wNext]
            simp only [wIfS, wTest, wOp, oB0, wCB, oLen, wCons, wNil, wVar, wC, as1, asInt, asBl, contS, List.length_map, List.set_cons_zero, List.set_cons_succ, List.getElem?_cons_zero, List.getElem?_cons_succ]
            cases c1 : decide ((1 : Int) < (own.length : Int)) with
            | false =>
              refine (if_neg Bool.false_ne_true).mpr ?_
              refine ⟨_, bs, fd, _, _, _, _, _, _, _, rfl, hu5.mono (by dsimp only; omega), hbs, ?_, hok, by omega, rfl⟩
              rw [htk, List.filter_append, hfd]
              have : ¬ 1 < own.length := by have := of_decide_eq_false c1; omega
              simp [this]
            | true =>
              refine (if_pos rfl).mpr ?_
              simp only [wDrop, wMt, wTup, wSortSetI, wCB, oTuple, oApp, wCons, wNil, wVar, as1, asO, asV, asVs, allV, contL, contS, Option.map_some, get_concat, List.set_cons_zero, List.set_cons_succ, List.getElem?_cons_zero, List.getElem?_cons_succ]
              refine ⟨[g1], rg m, rfl, by simp, sub1, by omega, fun ps' hs' hm' => ⟨by simp, by rw [List.length_map]; omega, ?_⟩⟩
              refine ⟨_, bs, fd ++ [(own, ps')], _, _, _, _, _, _, _, by rw [List.map_append]; rfl, hu5.mono (by dsimp only; omega), hbs, ?_, ?_, by rw [List.length_append]; simp; omega, rfl⟩
              · rw [htk, List.filter_append, List.map_append, hfd]
                have : 1 < own.length := by have := of_decide_eq_true c1; omega
                simp [this]
              · intro x hx
                rcases List.mem_append.mp hx with hx | hx
                · exact hok x hx
                · rw [List.mem_singleton.mp hx]
                  exact okrow_of hs' hm' own1 (by simp) (by simp)
      | cons g0 gf0 =>
        refine (if_neg (by simp)).mpr ?_
        rw [← hgf]
        have gne : gf ≠ [] := by rw [hgf]; simp
        have gsub := hgsub
        clear hgf
        simp only [wLstO, wCallU, asU, wVar, wCons, wNil, as1, contS, asVs, allV, Option.map_some, List.set_cons_zero, List.set_cons_succ, List.getElem?_cons_zero, List.getElem?_cons_succ]

        refine ⟨(n + m + 1 + m + 3 * i, gf.map Dt.int, .lst (gf.map Dt.int)), ⟨rfl, .inl rfl, hu3, by dsimp only; omega, by dsimp only; rw [List.length_map]; exact List.length_pos_iff.mpr gne, by dsimp only; rw [List.length_map]; omega⟩, ?_⟩
        rintro us4 _ ⟨hu4, hm1⟩
        obtain ⟨g1, hg1, rfl⟩ := List.mem_map.mp hm1
        have own1 : ∀ a ∈ [g1], a ∈ own := fun a ha => by rw [List.mem_singleton.mp ha]; exact gsub _ hg1
        have sub1 : ∀ a ∈ [g1], a ∈ rg m := fun a ha => hl3 _ (own1 a ha)
        refine ⟨by simp, ?_⟩
        simp only [List.cons_append, List.length_cons, List.set_cons_zero, List.set_cons_succ, List.getElem?_cons_zero, List.getElem?_cons_succ]
        simp only [wIfS, wTest, wAnd, wVar, asBl, List.set_cons_zero, List.set_cons_succ, List.getElem?_cons_zero, List.getElem?_cons_succ]
        cases lo with
        | false =>
          refine (if_neg Bool.false_ne_true).mpr ?_
          refine (if_neg Bool.false_ne_true).mpr ?_
          simp only [wNext]
          simp only [wIfS, wTest, wOp, oB0, wCB, oLen, wCons, wNil, wVar, wC, as1, asInt, asBl, contS, List.length_map, List.set_cons_zero, List.set_cons_succ, List.getElem?_cons_zero, List.getElem?_cons_succ]
          cases c1 : decide ((1 : Int) < (own.length : Int)) with
          | false =>
            refine (if_neg Bool.false_ne_true).mpr ?_
            refine ⟨_, bs, fd, _, _, _, _, _, _, _, rfl, hu4.mono (by dsimp only; omega), hbs, ?_, hok, by omega, rfl⟩
            rw [htk, List.filter_append, hfd]
            have : ¬ 1 < own.length := by have := of_decide_eq_false c1; omega
            simp [this]
          | true =>
            refine (if_pos rfl).mpr ?_
            simp only [wDrop, wMt, wTup, wSortSetI, wCB, oTuple, oApp, wCons, wNil, wVar, as1, asO, asV, asVs, allV, contL, contS, Option.map_some, get_concat, List.set_cons_zero, List.set_cons_succ, List.getElem?_cons_zero, List.getElem?_cons_succ]
            refine ⟨[g1], rg m, rfl, by simp, sub1, by omega, fun ps' hs' hm' => ⟨by simp, by rw [List.length_map]; omega, ?_⟩⟩
            refine ⟨_, bs, fd ++ [(own, ps')], _, _, _, _, _, _, _, by rw [List.map_append]; rfl, hu4.mono (by dsimp only; omega), hbs, ?_, ?_, by rw [List.length_append]; simp; omega, rfl⟩
            · rw [htk, List.filter_append, List.map_append, hfd]
              have : 1 < own.length := by have := of_decide_eq_true c1; omega
              simp [this]
            · intro x hx
              rcases List.mem_append.mp hx with hx | hx
              · exact hok x hx
              · rw [List.mem_singleton.mp hx]
                exact okrow_of hs' hm' own1 (by simp) (by simp)
        | true =>
          refine (if_pos rfl).mpr ?_
          simp only [wOp, oEqS, wCallU, asU, wVar, wC, wCons, wNil, asVs, allV, Option.map_some, List.set_cons_zero, List.set_cons_succ, List.getElem?_cons_zero, List.getElem?_cons_succ]
          refine ⟨(n + m + 1 + m + 3 * i + 1, 3), ⟨rfl, hu4, by dsimp only; omega, by dsimp only; decide, by dsimp only; decide⟩, ?_⟩
          rintro us5 _ ⟨hu5, k2, rfl, k20, k21⟩
          simp only [asSc, scEq, asBl]
          cases c2 : decide (k2 = 0) with
          | true =>
            refine (if_pos rfl).mpr ?_
            simp only [wDrop, wMt, wCallU, asU, oApp, wVar, wCons, wNil, as1, asO, asV, asVs, allV, Option.map_some, get_concat, List.set_cons_zero, List.set_cons_succ, List.getElem?_cons_zero, List.getElem?_cons_succ]
            refine ⟨(n + m + 1 + m + 3 * i + 1 + 1, gf.map Dt.int, .lst (gf.map Dt.int)), ⟨rfl, .inl rfl, hu5, by dsimp only; omega, by dsimp only; rw [List.length_map]; exact List.length_pos_iff.mpr gne, by dsimp only; rw [List.length_map]; omega⟩, ?_⟩
            rintro us6 _ ⟨hu6, hm2⟩
            obtain ⟨g2, hg2, rfl⟩ := List.mem_map.mp hm2
            have own2 : ∀ a ∈ [g1, g2], a ∈ own := fun a ha => by
              rcases List.mem_cons.mp ha with rfl | ha
              · exact gsub _ hg1
              · rw [List.mem_singleton.mp ha]; exact gsub _ hg2
            have sub2 : ∀ a ∈ [g1, g2], a ∈ rg m := fun a ha => hl3 _ (own2 a ha)
            refine ⟨by simp, ?_⟩
            simp only [set_concat, List.cons_append, List.nil_append]
            simp only [wIfS, wTest, wOp, oB0, wCB, oLen, wCons, wNil, wVar, wC, as1, asInt, asBl, contS, List.length_map, List.set_cons_zero, List.set_cons_succ, List.getElem?_cons_zero, List.getElem?_cons_succ]
            cases c1 : decide ((1 : Int) < (own.length : Int)) with
            | false =>
              refine (if_neg Bool.false_ne_true).mpr ?_
              refine ⟨_, bs, fd, _, _, _, _, _, _, _, rfl, hu6.mono (by dsimp only; omega), hbs, ?_, hok, by omega, rfl⟩
              rw [htk, List.filter_append, hfd]
              have : ¬ 1 < own.length := by have := of_decide_eq_false c1; omega
              simp [this]
            | true =>
              refine (if_pos rfl).mpr ?_
              simp only [wDrop, wMt, wTup, wSortSetI, wCB, oTuple, oApp, wCons, wNil, wVar, as1, asO, asV, asVs, allV, contL, contS, Option.map_some, get_concat, List.set_cons_zero, List.set_cons_succ, List.getElem?_cons_zero, List.getElem?_cons_succ]
              refine ⟨[g1, g2], rg m, rfl, by simp, sub2, by omega, fun ps' hs' hm' => ⟨by simp, by rw [List.length_map]; omega, ?_⟩⟩
              refine ⟨_, bs, fd ++ [(own, ps')], _, _, _, _, _, _, _, by rw [List.map_append]; rfl, hu6.mono (by dsimp only; omega), hbs, ?_, ?_, by rw [List.length_append]; simp; omega, rfl⟩
              · rw [htk, List.filter_append, List.map_append, hfd]
                have : 1 < own.length := by have := of_decide_eq_true c1; omega
                simp [this]
              · intro x hx
                rcases List.mem_append.mp hx with hx | hx
                · exact hok x hx
                · rw [List.mem_singleton.mp hx]
                  exact okrow_of hs' hm' own2 (by simp) (by simp)
          | false =>
            refine (if_neg Bool.false_ne_true).mpr ?_
            simp only [wNext]
            simp only [wIfS, wTest, wOp, oB0, wCB, oLen, wCons, wNil, wVar, wC, as1, asInt, asBl, contS, List.length_map, List.set_cons_zero, List.set_cons_succ, List.getElem?_cons_zero, List.getElem?_cons_succ]
            cases c1 : decide ((1 : Int) < (own.length : Int)) with
            | false =>
              refine (if_neg Bool.false_ne_true).mpr ?_
              refine ⟨_, bs, fd, _, _, _, _, _, _, _, rfl, hu5.mono (by dsimp only; omega), hbs, ?_, hok, by omega, rfl⟩
              rw [htk, List.filter_append, hfd]
              have : ¬ 1 < own.length := by have := of_decide_eq_false c1; omega
              simp [this]
            | true =>
              refine (if_pos rfl).mpr ?_
              simp only [wDrop, wMt, wTup, wSortSetI, wCB, oTuple, oApp, wCons, wNil, wVar, as1, asO, asV, asVs, allV, contL, contS, Option.map_some, get_concat, List.set_cons_zero, List.set_cons_succ, List.getElem?_cons_zero, List.getElem?_cons_succ]
              refine ⟨[g1], rg m, rfl, by simp, sub1, by omega, fun ps' hs' hm' => ⟨by simp, by rw [List.length_map]; omega, ?_⟩⟩
              refine ⟨_, bs, fd ++ [(own, ps')], _, _, _, _, _, _, _, by rw [List.map_append]; rfl, hu5.mono (by dsimp only; omega), hbs, ?_, ?_, by rw [List.length_append]; simp; omega, rfl⟩
              · rw [htk, List.filter_append, List.map_append, hfd]
                have : 1 < own.length := by have := of_decide_eq_true c1; omega
                simp [this]
              · intro x hx
                rcases List.mem_append.mp hx with hx | hx
                · exact hok x hx
                · rw [List.mem_singleton.mp hx]
                  exact okrow_of hs' hm' own1 (by simp) (by simp)
    · obtain ⟨us, bs, fd, ex, y6, y7, y9, y10, y11, y12, rfl, hu3, hbs, hfd, hok, hfl, rfl⟩ := hp
      rw [List.take_length] at hfd
      unfold pkS
      simp only [wRet, wCB, oTupleF, wCons, wNil, wVar, as1, contL, endU, retD, asM0, List.set_cons_zero, List.set_cons_succ, List.getElem?_cons_zero, List.getElem?_cons_succ]
      refine ⟨?_, q _ _ ⟨hu3.mono (by omega), fd, rfl, hfd, hok⟩⟩
      cases fd with
      | nil =>
        have := List.mem_filter (p := fun l : List Int => decide (1 < l.length)) |>.mpr ⟨ll2 hm2, by decide⟩
        rw [← hfd] at this
        simp at this
      | cons x fd => exact ⟨_, _, rfl⟩

end
end VL
set_option Elab.async false
set_option linter.all false
set_option maxRecDepth 100000
set_option maxHeartbeats 4000000
/-! VL35: the law: turn, either. -/
namespace VL
open PySem PySem.Spec PyProof.Rows L2 VLC
section
variable {P : Program} {w : World} {K : PySem.W.Frag} {mg : Str → Option Value} {base : Heap}
abbrev s_turn : Stmt := topS 41
theorem sc_turn : FnScope [] [] (defScope s_turn) := ⟨rfl, rfl, rfl, by decide +kernel, rfl, by decide +kernel, by decide +kernel⟩

abbrev s_either : Stmt := topS 42
theorem sc_either : FnScope [] [] (defScope s_either) := ⟨rfl, rfl, rfl, by decide +kernel, rfl, by decide +kernel, by decide +kernel⟩

abbrev s_heard : Stmt := topS 43
theorem sc_heard : FnScope ["_law_picked_here", "_law_lot_so", "_law_ends"] ["_law_picked_here", "_law_lot_so", "_law_ends"] (defScope s_heard) := ⟨rfl, rfl, rfl, by decide +kernel, rfl, by decide +kernel, by decide +kernel⟩


def turnR : Rl := [([0, 1], [1]), ([0, 1, 2], [0]), ([0, 2], [0]), ([1, 2], [2])]
abbrev spTurn : Spec := fnS (fun (_ : Unit) ds => ds = []) fun _ => ruleT turnR
theorem ok_turn (D : Df K mg "_law_turn" s_turn []) (B : Bs mg) : Cl P w K mg base CX0 1 "_law_turn" [] (spV spTurn) := by
  refine v_def D sc_turn (fun y ds h => by rw [h]; rfl) fun fa cdv A outer s H E hr => ?_
  have Sc := sc_turn

  refine ⟨_, (vs_one (v_ret (v_tup (va_cons (v_tup (va_cons (v_tup (va_cons v_int (va_cons v_int va_nil))) (va_cons (v_tup (va_cons v_int va_nil)) va_nil))) (va_cons (v_tup (va_cons (v_tup (va_cons v_int (va_cons v_int (va_cons v_int va_nil)))) (va_cons (v_tup (va_cons v_int va_nil)) va_nil))) (va_cons (v_tup (va_cons (v_tup (va_cons v_int (va_cons v_int va_nil))) (va_cons (v_tup (va_cons v_int va_nil)) va_nil))) (va_cons (v_tup (va_cons (v_tup (va_cons v_int (va_cons v_int va_nil))) (va_cons (v_tup (va_cons v_int va_nil)) va_nil))) va_nil))))))), ?_⟩
  rintro _ _ Q rfl q
  simp only [wRet, wTup, wCons, wNil, wC, asVs, allV, Option.map_some, endV, retD, slots0, List.map_cons, List.map_nil, List.length_cons, List.length_nil, Nat.reduceSub, Nat.reduceAdd, List.replicate_succ, List.replicate_zero, List.cons_append, List.nil_append, List.getElem?_cons_zero, List.getElem?_cons_succ]
  refine ⟨by decide, by decide, by decide, by decide, by decide, by decide, by decide, by decide, by decide, by decide, by decide, by decide, by decide, ?_⟩
  exact q


def eitherR : Rl := [([0, 1], [0, 1]), ([0, 1, 2], [2]), ([0, 2], [2]), ([1, 2], [2])]
abbrev spEither : Spec := fnS (fun (_ : Unit) ds => ds = []) fun _ => ruleT eitherR
theorem ok_either (D : Df K mg "_law_either" s_either []) (B : Bs mg) : Cl P w K mg base CX0 1 "_law_either" [] (spV spEither) := by
  refine v_def D sc_either (fun y ds h => by rw [h]; rfl) fun fa cdv A outer s H E hr => ?_
  have Sc := sc_either

  refine ⟨_, (vs_one (v_ret (v_tup (va_cons (v_tup (va_cons (v_tup (va_cons v_int (va_cons v_int va_nil))) (va_cons (v_tup (va_cons v_int (va_cons v_int va_nil))) va_nil))) (va_cons (v_tup (va_cons (v_tup (va_cons v_int (va_cons v_int (va_cons v_int va_nil)))) (va_cons (v_tup (va_cons v_int va_nil)) va_nil))) (va_cons (v_tup (va_cons (v_tup (va_cons v_int (va_cons v_int va_nil))) (va_cons (v_tup (va_cons v_int va_nil)) va_nil))) (va_cons (v_tup (va_cons (v_tup (va_cons v_int (va_cons v_int va_nil))) (va_cons (v_tup (va_cons v_int va_nil)) va_nil))) va_nil))))))), ?_⟩
  rintro _ _ Q rfl q
  simp only [wRet, wTup, wCons, wNil, wC, asVs, allV, Option.map_some, endV, retD, slots0, List.map_cons, List.map_nil, List.length_cons, List.length_nil, Nat.reduceSub, Nat.reduceAdd, List.replicate_succ, List.replicate_zero, List.cons_append, List.nil_append, List.getElem?_cons_zero, List.getElem?_cons_succ]
  refine ⟨by decide, by decide, by decide, by decide, by decide, by decide, by decide, by decide, by decide, by decide, by decide, by decide, by decide, ?_⟩
  exact q

end
end VL
set_option Elab.async false
set_option linter.all false
set_option maxRecDepth 100000
set_option maxHeartbeats 4000000
/-! VL36: try: return e / except X: return 'm', e may raise X. -/
namespace VL
open PySem PySem.Spec PyProof.Rows L2
abbrev WEx := Sl → Me → (Rs → Me → Prop) → (Me → Prop) → Prop
def rdX (W : WX) (Cc : Addr) (w : WEx) : TE := fun σ H Q => ∃ C δ M τ, Rel C δ M τ σ H ∧ w δ M (fun r M' => ∀ v H', Rel C δ M' ((v, r) :: τ) σ H' → Q v H') fun M' => ∀ H', Rel C δ M' τ σ H' → W (.ref Cc) none σ H'
structure VEx (X : Cx) (W : WX) (Cc : Addr) (e : Expr) (w : WEx) : Prop where
  pe : PE X e (rdX W Cc w)
  mono : ∀ δ M Q Q' R R', (∀ r M', Q r M' → Q' r M') → (∀ M', R M' → R' M') → w δ M Q R → w δ M Q' R'
theorem takesF {X : Cx} : Takes X (fun _ _ _ _ => False) := fun _ _ x => by
  obtain ⟨_, _, _, _, _, _, _, _, _, _, _, _, _, _, _, _, z⟩ := x
  exact z.elim
section
variable {X : Cx} {e : Expr} {es : List Expr} {ws : WA} {pos : Pos} {k : Nat} {x : Str} {p : Pos} {ps : List Str} {W : WX} {Cc : Addr}
def wCallE (S : SpecX) (ws : WA) : WEx := fun δ M Q R => ws δ M fun rs M1 => asVs rs fun ds => S ds (fun d => Q (.v d) M1) (R M1)
theorem v_cE {S : SpecX} (hSm : ∀ ds Q Q' (R R' : Prop), (∀ d, Q d → Q' d) → (R → R') → S ds Q R → S ds Q' R') (tk : Takes X W) (Cl : Cl X.prog X.w X.K X.mg X.base (L2.CX X.prog X.w) k x ps (spX Cc S)) (hr : Room k X.A) (ha : VA X (e :: es) ws) (hg : Gl X x := by rfl)
    (hdb : (x == ("__debug__" : Str)) = false := by decide) (hst : starEach (e :: es) X.env = (false, eval e X.env) :: starEach es X.env := by rfl) (hpl : (backTo pos (starEach es X.env)).any (·.1) = false := by rfl) : VEx X W Cc (.Call (.Name x p) (e :: es) [] pos) (wCallE S ws) := by
  obtain ⟨g, fd, F, hm, hk, hb⟩ := Cl.ex
  refine ⟨PE.imp (pe_callS F hr hg hm hk hb (fun σ => passAt tk σ) ha.pa hdb hst hpl) ?_, fun δ M Q Q' R R' h h' q => ha.mono _ _ _ _ (fun rs M1 => asVs_mono fun ds => hSm _ _ _ _ _ (fun d => h _ _) (h' _)) q⟩
  rintro σ H Q ⟨C, δ, M, τ, rel, q⟩
  refine ⟨C, δ, M, τ, rel, ha.mono _ _ _ _ (fun rs M1 q vs H1 hl rel1 => ?_) q⟩
  obtain ⟨ds, e, q⟩ := asVs_ok q
  obtain ⟨ad, r1⟩ := _root_.id rel1
  refine ⟨_, ds, Rel.args e hl rel1 ad r1, r1.trkA, hSm _ _ _ _ _ (fun d q v H' s dn => q v H' ?_) (fun q H' s => q H' ?_) q⟩
  · exact ⟨ad, (r1.same s).sub fun p hp => (List.mem_cons.mp hp).elim (fun e => by rw [e]; exact dn) fun hp => (r1.same s).tmp p (List.mem_append_right _ hp)⟩
  · exact ⟨ad, (r1.same s).sub fun p hp => (r1.same s).tmp p (List.mem_append_right _ hp)⟩
def wIfE (t : WT) (wa wb : WEx) : WEx := fun δ M Q R => t δ M fun b M1 => if b = true then wa δ M1 Q R else wb δ M1 Q R
theorem v_ifE {c a b : Expr} {t : WT} {wa wb : WEx} (hc : VT X c t) (ha : VEx X W Cc a wa) (hb : VEx X W Cc b wb) : VEx X W Cc (.IfExp c a b pos) (wIfE t wa wb) := by
  refine ⟨PE.imp (pe_ifExp hc.pt ha.pe hb.pe) ?_, fun δ M Q Q' R R' hq hr q => hc.mono _ _ _ _ (fun r M1 q1 => ite_mono (ha.mono _ _ _ _ _ _ hq hr) (hb.mono _ _ _ _ _ _ hq hr) q1) q⟩
  rintro σ H Q ⟨C, δ, M, τ, rel, q⟩
  refine ⟨C, δ, M, τ, rel, hc.mono _ _ _ _ (fun r M1 q1 H' rel' => ?_) q⟩
  exact ite_mono (fun q3 => ⟨C, δ, M1, τ, rel', q3⟩) (fun q3 => ⟨C, δ, M1, τ, rel', q3⟩) q1
def wTry (we : WEx) (m : Str) : WS := fun E δ M => we δ M (fun r M' => E.rt r M') fun M' => E.rt (.v (.str m)) M'
theorem v_try {we : WEx} {m : Str} {EX : Hp → Prop} {np p1 p2 pos' : Pos} {j : Nat}
    (he : ∀ (W : WX) (pn : List (Addr × Obj)) (xe : Value → Shared → Prop), Takes (X.tr pn xe) W → VEx (X.tr pn xe) W Cc e we) (hc : Names X x (.ref Cc)) (hx : PySem.W.exmOne X.K (.ref Cc) (.ref Cc) = some true)
    (hs : X.stack = X.env :: X.outer := by rfl) (hf : X.env.frame = some X.env.locals := by rfl) :
    VS X EX (.Try [.Return (some e) p1] [.ExceptHandler (some (.Name x np)) none [.Return (some (.Constant (.str m) j p2)) p3] pos'] [] [] pos) (wTry we m) := by
  have hm := (he _ X.pn X.xe takesF).mono
  refine ⟨PS.imp (ps_try_only (c := .ref Cc) (Wout := fun _ _ _ _ => False) (tb := fun W D σ H => rdX W Cc we σ H fun v H' => D.rt v H') (ts := fun _ _ _ D σ H => D.rt (.str m) H) hs hf hc takesF (fun W pn xe tk _ => pss_one (ps_ret (he W pn xe tk).pe)) (fun a oe cls d pn _ _ => pss_one (ps_ret pe_str))) ?_,
    fun E E' δ M h q => hm _ _ _ _ _ _ (fun _ _ => h.rt _ _) (fun _ => h.rt _ _) q⟩
  rintro D σ H ⟨C, δ, M, τ, rel, q⟩
  refine ⟨C, δ, M, τ, rel, hm _ _ _ _ _ _ (fun r M' q v H' rel' => q v δ σ H' rel') (fun M' q H' rel' => ?_) q⟩
  refine ⟨true, hx, fun _ a _ => q (.str m) δ σ H' ?_, fun z => by cases z⟩
  obtain ⟨ad, r⟩ := rel'
  exact ⟨ad, r.sub fun p hp => (List.mem_cons.mp hp).elim (fun e => by rw [e]; exact .str m) (r.tmp p)⟩
end
end VL
set_option Elab.async false
set_option linter.all false
set_option maxRecDepth 100000
set_option maxHeartbeats 4000000
/-! VL37: the law: heard. -/
namespace VL
open PySem PySem.Spec PyProof.Rows L2 VLC
section
variable {P : Program} {w : World} {K : PySem.W.Frag} {mg : Str → Option Value} {base : Heap}

/-! promises by a relation -/
def fnP {α : Type} (pre : α → List Dt → Prop) (post : α → Dt → Prop) : Spec := fun ds Q => ∃ x, pre x ds ∧ ∀ d, post x d → Q d
theorem fnP_mono {α : Type} {pre : α → List Dt → Prop} {post : α → Dt → Prop} : ∀ ds Q Q', (∀ d, Q d → Q' d) → fnP pre post ds Q → fnP pre post ds Q' := fun _ _ _ h ⟨x, a, b⟩ => ⟨x, a, fun d p => h _ (b d p)⟩
theorem fnR_mono' {α : Type} {pre : α → List Dt → Prop} {can : α → Bool} {post : α → Dt → Prop} : ∀ ds Q Q' (R R' : Prop), (∀ d, Q d → Q' d) → (R → R') → fnR pre can post ds Q R → fnR pre can post ds Q' R' := fun _ _ _ _ _ h h' ⟨x, a, b⟩ => ⟨x, a, b.imp (fun ⟨e, q⟩ => ⟨e, fun d p => h _ (q d p)⟩) fun ⟨e, q⟩ => ⟨e, h' q⟩⟩
theorem v_cP {X : Cx} {e : Expr} {es : List Expr} {ws : WA} {pos : Pos} {k : Nat} {x : Str} {p : Pos} {ps : List Str} {α : Type} {pre : α → List Dt → Prop} {post : α → Dt → Prop} (C : Cl X.prog X.w X.K X.mg X.base CX0 k x ps (spV (fnP pre post))) (hr : Room k X.A) (ha : VA X (e :: es) ws) (hg : Gl X x := by rfl)
    (hdb : (x == ("__debug__" : Str)) = false := by decide) (hst : starEach (e :: es) X.env = (false, eval e X.env) :: starEach es X.env := by rfl) (hpl : (backTo pos (starEach es X.env)).any (·.1) = false := by rfl) : VE X (.Call (.Name x p) (e :: es) [] pos) (wCall (fnP pre post) ws) := by
  obtain ⟨g, fd, F, hm, hk, hb⟩ := C.ex
  exact v_call fnP_mono F hr hm hk hb (E := E0) pass0 ha hg hdb hst hpl
theorem v_defP {x : Str} {st : Stmt} {N ps : List Str} {k : Nat} {α : Type} {pre : α → List Dt → Prop} {post : α → Dt → Prop} (D : Df K mg x st ps) (Sc : FnScope N ps (defScope st)) (len : ∀ y ds, pre y ds → ds.length = ps.length)
    (hbody : ∀ (fa : Addr) (cdv : Value) (A : Around) (outer : List Env) (s : Shared) (H : Hp) (E : XK), Room k (A.deeper (envOfC x (defScope st) s.heap.objs.size fa cdv)) →
      ∃ wb, VSs (cxOf CX0 P w K mg base N x (defScope st) fa cdv A outer s H E).nox (fun _ => False) (defBody st) wb ∧
        ∀ y ds (Q : Dt → Prop), pre y ds → (∀ d, post y d → Q d) → wb (endV Q) (slots0 N (ds.map .v)) []) : Cl P w K mg base CX0 (k + 1) x ps (spV (fnP pre post)) := by
  obtain ⟨g, fd, F, hm, hk, hb⟩ := D.ex
  refine ⟨g, fd, v_fun F Sc (fun ds Q ⟨y, h, _⟩ => len y ds h) (fun cdv A outer s H E hr => ?_), hm, hk, hb⟩
  obtain ⟨wb, h1, h2⟩ := hbody g cdv A outer s H E hr
  exact ⟨wb, h1, fun ds Q ⟨y, a, b⟩ => h2 y ds Q a b⟩
def wvPre (x : Rl × List Int × Dt) : Prop := RuleD x.1 x.2.2 ∧ SmallR x.1 ∧ KeysNd x.1 ∧ PickIn x.1 ∧ In7 x.2.1 ∧ Srt x.2.1 ∧ x.2.1.length ≤ 7 ∧ (1 < x.2.1.length → ∃ y ∈ x.1, y.1 = x.2.1)
def endsD : Option (Int × Int) → Dt
  | none => .non
  | some (a, b) => .tup [.int a, .int b]
def heardP (r : Rl) (lot : List Int) (en : Option (Int × Int)) (d : Dt) : Prop := match en with
  | none => if wovM r lot = true then ∃ ws, d = .tup (ws.map tI) ∧ GoodWv r lot ws else d = .str "can not"
  | some (a, b) => d = (leastM (shownM r lot a b)).getD (.str "can not")
abbrev spHeard : Spec := fnP (fun (x : Rl × List Int × Dt × Option (Int × Int)) ds => ds = [x.2.2.1, tI x.2.1, endsD x.2.2.2] ∧ RuleD x.1 x.2.2.1 ∧ SmallR x.1 ∧ (match x.2.2.2 with | none => wvPre (x.1, x.2.1, x.2.2.1) | some (a, b) => a ∈ x.2.1 ∧ b ∈ x.2.1)) fun x d => heardP x.1 x.2.1 x.2.2.2 d
theorem ok_heard {C : Addr} (D : Df K mg "_law_heard" s_heard ["_law_picked_here", "_law_lot_so", "_law_ends"]) (B : Bs mg) (N : CanN K mg C) (hx : PySem.W.exmOne K (.ref C) (.ref C) = some true) (C_lead_shown : Cl P w K mg base (L2.CX P w) 6 "lead_shown" ["rule", "lot", "one", "other"] (spShown C))
    (C_weave_of : Cl P w K mg base (L2.CX P w) 8 "weave_of" ["rule", "lot"] (spX C (fnR (fun (x : Rl × List Int × Dt) ds => ds = [x.2.2, tI x.2.1] ∧ RuleD x.1 x.2.2 ∧ SmallR x.1 ∧ KeysNd x.1 ∧ PickIn x.1 ∧ In7 x.2.1 ∧ Srt x.2.1 ∧ x.2.1.length ≤ 7 ∧ (1 < x.2.1.length → ∃ y ∈ x.1, y.1 = x.2.1)) (fun x => wovM x.1 x.2.1) (fun x d => ∃ ws, d = .tup (ws.map tI) ∧ GoodWv x.1 x.2.1 ws)))) :
    Cl P w K mg base CX0 9 "_law_heard" ["_law_picked_here", "_law_lot_so", "_law_ends"] (spV spHeard) := by
  refine v_defP D sc_heard (fun y ds h => by rw [h.1]; rfl) fun fa cdv A outer s H E hr => ?_
  have Sc := sc_heard
  refine ⟨_, (vs_one (v_try (fun W pn xe tk => v_ifE (vt_cmp vo_isN (vv 2) v_non (by rfl)) (v_cE fnR_mono' tk C_weave_of (hr.mono (by omega)) (va_cons (vv 0) (va_cons (vv 1) va_nil))) (v_cE fnX_mono tk C_lead_shown (hr.mono (by omega)) (va_cons (vv 0) (va_cons (vv 1) (va_cons (v_ix (vv 2) v_int) (va_cons (v_ix (vv 2) v_int) va_nil)))))) ⟨rfl, by decide, .inl N.gC⟩ hx)), ?_⟩
  rintro ⟨r, lot, d, en⟩ _ Q ⟨rfl, hd, hs, hp⟩ q
  dsimp only at hd hs hp q ⊢
  cases en with
  | none =>
    obtain ⟨p1, p2, p3, p4, p5, p6, p7, p8⟩ := hp
    simp only [wTry, wIfE, wCallE, wTest, wOp, oIsN, isN, wVar, wC, wCons, wNil, asVs, allV, asBl, endsD, Option.map_some, endV, retD, slots0, List.map_cons, List.map_nil, List.length_cons, List.length_nil, Nat.reduceSub, Nat.reduceAdd, List.replicate_succ, List.replicate_zero, List.cons_append, List.nil_append, List.getElem?_cons_zero, List.getElem?_cons_succ]
    refine (if_pos rfl).mpr ?_
    refine ⟨(r, lot, d), ⟨rfl, p1, p2, p3, p4, p5, p6, p7, p8⟩, ?_⟩
    dsimp only
    unfold heardP at q
    cases hw : wovM r lot with
    | true =>
      rw [hw] at q
      exact .inl ⟨rfl, fun d' h => q d' ((if_pos rfl).mpr h)⟩
    | false =>
      rw [hw] at q
      exact .inr ⟨rfl, q _ ((if_neg Bool.false_ne_true).mpr rfl)⟩
  | some en =>
    obtain ⟨a, b⟩ := en
    obtain ⟨p1, p2⟩ := hp
    simp only [wTry, wIfE, wCallE, wTest, wOp, oIsN, isN, oIx, contS, asInt, wVar, wC, wCons, wNil, asVs, allV, asBl, endsD, Option.map_some, endV, retD, slots0, List.map_cons, List.map_nil, List.length_cons, List.length_nil, Nat.reduceSub, Nat.reduceAdd, List.replicate_succ, List.replicate_zero, List.cons_append, List.nil_append, List.getElem?_cons_zero, List.getElem?_cons_succ]
    refine (if_neg Bool.false_ne_true).mpr ?_
    refine ⟨_, rfl, _, rfl, ?_⟩
    refine ⟨(r, lot, a, b, d), ⟨rfl, hd, hs, p1, p2⟩, ?_⟩
    dsimp only
    unfold heardP at q
    dsimp only at q
    cases hl : leastM (shownM r lot a b) with
    | none =>
      rw [hl] at q
      exact .inr ⟨rfl, q _ rfl⟩
    | some t =>
      rw [hl] at q
      exact .inl ⟨t, rfl, q _ rfl⟩

end
end VL
set_option Elab.async false
set_option linter.all false
set_option maxRecDepth 100000
set_option maxHeartbeats 4000000
/-! VL38: plain law: the picked rule and its lots. -/
namespace VL
open PySem PySem.Spec PyProof.Rows L2
theorem lt_tab : ((List.range 6).all fun m => decide ((((dblN (rg m)).drop 1)).Nodup) && ((((dblN (rg m)).drop 1).all fun l => decide (l.Pairwise (· < ·))) && (decide (m = 0 ∨ rg m ∈ (dblN (rg m)).drop 1) && ((allc m m).isPerm ((dblN (rg m)).drop 1))))) = true := by decide +kernel
structure LotF (m : Nat) : Prop where
  nd : (llotsM m).Nodup
  srt : ∀ l ∈ llotsM m, Srt l
  all : 1 ≤ m → rg m ∈ llotsM m
  perm : (lotsM m).Perm (llotsM m)
theorem lotF {m : Nat} (hm : m ≤ 5) : LotF m := by
  have h := lt_tab
  rw [List.all_eq_true] at h
  have h2 := h m (List.mem_range.mpr (by omega))
  simp only [Bool.and_eq_true, decide_eq_true_eq, List.all_eq_true] at h2
  obtain ⟨h3, h4, h5, h6⟩ := h2
  have p := ll_perm m
  refine ⟨p.nodup_iff.mpr h3, fun l hl => h4 l (p.mem_iff.mp hl), fun h1 => p.mem_iff.mpr (h5.resolve_left (by omega)), ?_⟩
  exact (List.mergeSort_perm _ _).trans ((List.isPerm_iff.mp h6).trans p.symm)
theorem sortT_pw (l : List (List Int)) : (sortT l).Pairwise fun p q => ¬ q < p := by
  have := List.pairwise_mergeSort (le := fun p q : List Int => !decide (q < p)) (fun a b c h1 h2 => ?_) (fun a b => ?_) l
  · exact this.imp fun h => by simpa using h
  · simp only [Bool.not_eq_true', decide_eq_false_iff_not] at h1 h2 ⊢
    exact List.le_trans (α := Int) h1 h2
  · simp only [Bool.or_eq_true, Bool.not_eq_true', decide_eq_false_iff_not]
    exact List.le_total a b
theorem lots_eq {m : Nat} (hm : m ≤ 5) : lotsM m = llotsM m := by
  refine List.Perm.eq_of_pairwise (le := fun p q : List Int => ¬ q < p) (fun a b _ _ h1 h2 => ?_) (sortT_pw _) (sortT_pw _) (lotF hm).perm
  exact List.le_antisymm (α := Int) h1 h2
section
variable {m : Nat} {r : Rl} {lot : List Int}
theorem pk_mem (h : PickedOk m r) {x : List Int × List Int} (hx : x ∈ r) : x.1 ∈ llotsM m ∧ 1 < x.1.length := by
  have : x.1 ∈ r.map (·.1) := List.mem_map.mpr ⟨x, hx, rfl⟩
  rw [h.1, List.mem_filter, decide_eq_true_iff] at this
  exact this
theorem ll_in7 (hm : m ≤ 5) {l : List Int} (hl : l ∈ llotsM m) : In7 l := fun a ha => by
  have := ((ll_facts hm).2.2 l hl).2.2 a ha
  rw [mem_rg] at this
  omega
theorem pk_small (hm : m ≤ 5) (h : PickedOk m r) : SmallR r := by
  have hl : r.length ≤ 40 := by
    have e := congrArg List.length h.1
    rw [List.length_map] at e
    have := List.length_filter_le (fun l : List Int => decide (1 < l.length)) (llotsM m)
    have := (ll_facts hm).1
    omega
  refine ⟨hl, fun x hx => ?_, fun x hx => ?_⟩
  · have a := ((ll_facts hm).2.2 _ (pk_mem h hx).1).2.1
    have b := (h.2 x hx).len
    omega
  · have a := ll_in7 hm (pk_mem h hx).1
    exact ⟨a, fun y hy => a y ((h.2 x hx).sub y hy)⟩
theorem pk_nd (hm : m ≤ 5) (h : PickedOk m r) : KeysNd r := by
  unfold KeysNd
  rw [h.1]
  exact (lotF hm).nd.filter _
theorem pk_in (h : PickedOk m r) : PickIn r := fun x hx => ⟨(h.2 x hx).ne, (h.2 x hx).sub⟩
theorem pk_full (h : PickedOk m r) (hl : lot ∈ llotsM m) (h1 : 1 < lot.length) : ∃ y ∈ r, y.1 = lot := by
  have : lot ∈ r.map (·.1) := by
    rw [h.1, List.mem_filter]
    exact ⟨hl, by simpa using h1⟩
  obtain ⟨y, hy, e⟩ := List.mem_map.mp this
  exact ⟨y, hy, e⟩
theorem pk_tops (h2 : 2 ≤ m) (hm : m ≤ 5) (h : PickedOk m r) : Tops m r := by
  have hf := (ll_facts hm).2.2
  refine ⟨fun x hx => (hf _ (pk_mem h hx).1).1, fun x hx hn => ?_, ?_, by omega⟩
  · have := (hf _ (pk_mem h hx).1).2.2 _ (List.getLast_mem hn)
    rw [mem_rg] at this
    omega
  · obtain ⟨y, hy, e⟩ := pk_full h ((lotF hm).all (by omega)) (by rw [rg_len]; omega)
    refine ⟨y, hy, by rw [e]; intro z; have := congrArg List.length z; rw [rg_len] at this; simp at this; omega, ?_⟩
    simp only [e]
    unfold rg
    rw [List.getLast_map, List.getLast_range]
    omega
theorem leads_arr (S : SmallR r) (hp : PickIn r) (hs : Srt lot) (h7 : In7 lot) : leadsM r lot = arrM r lot := by
  refine sorted_uniq pLt_as (pairs7_sorted.filter _) ?_ fun p => ?_
  · unfold arrM
    rw [List.pairwise_flatMap]
    refine ⟨fun a _ => ?_, hs.imp fun h x hx y hy => ?_⟩
    · rw [List.pairwise_map]
      exact (hs.filter _).imp fun h => .inr ⟨rfl, h⟩
    · obtain ⟨x', _, rfl⟩ := List.mem_map.mp hx
      obtain ⟨y', _, rfl⟩ := List.mem_map.mp hy
      exact .inl h
  · rw [mem_leads S, mem_arr]
    constructor
    · rintro ⟨x, hx, a, b, c⟩
      have h2 := (mem_rows.mp hx).2
      exact ⟨h2 _ a, h2 _ ((hp x (mem_rows.mp hx).1).2 _ b), c, x, hx, a, b⟩
    · rintro ⟨_, _, c, x, hx, a, b⟩
      exact ⟨x, hx, a, b, c⟩
theorem arr_in7 (h7 : In7 lot) : ∀ p ∈ arrM r lot, pIn p := fun p hp => by
  obtain ⟨a, b, _⟩ := mem_arr.mp hp
  exact ⟨h7 _ a, h7 _ b⟩
theorem rchL_srt (ps : Prs) (a : Int) : Srt (rchL ps a) := (rg_sorted 7).filter _
/-- spread = the lot iff all of the lot is reached -/
theorem rch_lot {ps : Prs} {a : Int} (hp : ∀ x ∈ ps, pIn x) (hs : Srt lot) (h7 : In7 lot) (hsub : ∀ p ∈ ps, p.2 ∈ lot) (ha : a ∈ lot) : rchL ps a = lot ↔ ∀ b ∈ lot, Rch ps a b := by
  have hm : ∀ b, b ∈ rchL ps a ↔ Rch ps a b := fun b => mem_rchL hp (h7 a ha)
  constructor
  · intro e b hb
    rw [← e] at hb
    exact (hm b).mp hb
  · intro h
    refine sorted_uniq int_as (rchL_srt ps a) hs fun b => ?_
    exact ⟨fun hb => rch_sub hsub ha ((hm b).mp hb), fun hb => (hm b).mpr (h b hb)⟩
theorem wov_lwov (S : SmallR r) (hp : PickIn r) (hs : Srt lot) (h7 : In7 lot) : wovM r lot = lwovM r lot := by
  rw [Bool.eq_iff_iff, wov_iff S hp h7 hs.nd, leads_arr S hp hs h7]
  unfold lwovM
  rw [Bool.and_eq_true, decide_eq_true_iff, List.all_eq_true]
  refine and_congr (by omega) (forall_congr' fun a => forall_congr' fun ha => ?_)
  rw [decide_eq_true_iff, rch_lot (arr_in7 h7) hs h7 (fun p hp => (mem_arr.mp hp).2.1) ha]
end
end VL
set_option Elab.async false
set_option linter.all false
set_option maxRecDepth 100000
set_option maxHeartbeats 4000000
/-! VL39: plain law: weaves. -/
namespace VL
open PySem PySem.Spec PyProof.Rows L2
section
variable {m : Nat} {r : Rl} {lot : List Int}
theorem mem_getR {rows : Rl} (h : KeysNd rows) {t : List Int} {a : Int} : a ∈ getR rows t ↔ ∃ y ∈ rows, y.1 = t ∧ a ∈ y.2 := by
  unfold getR
  induction rows with
  | nil => simp
  | cons x rows ih =>
    unfold KeysNd at h ih
    rw [List.map_cons, List.nodup_cons] at h
    rw [List.find?_cons]
    by_cases e : x.1 = t
    · rw [decide_eq_true e]
      simp only [Option.map_some, Option.getD_some]
      constructor
      · exact fun ha => ⟨x, List.mem_cons_self, e, ha⟩
      · rintro ⟨y, hy, e2, ha⟩
        rcases List.mem_cons.mp hy with rfl | hy
        · exact ha
        · exact absurd (List.mem_map.mpr ⟨y, hy, e2.trans e.symm⟩) h.1
    · rw [decide_eq_false e]
      dsimp only
      rw [ih h.2]
      constructor
      · rintro ⟨y, hy, z⟩
        exact ⟨y, List.mem_cons_of_mem _ hy, z⟩
      · rintro ⟨y, hy, e2, ha⟩
        rcases List.mem_cons.mp hy with rfl | hy
        · exact absurd e2 e
        · exact ⟨y, hy, e2, ha⟩
theorem foldl_max_up : ∀ (l : List Int) (n : Int), n ≤ l.foldl max n ∧ ∀ a ∈ l, a ≤ l.foldl max n
  | [], n => ⟨Int.le_refl _, fun a h => by simp at h⟩
  | x :: l, n => by
    obtain ⟨h1, h2⟩ := foldl_max_up l (max n x)
    rw [List.foldl_cons]
    refine ⟨by omega, fun a ha => ?_⟩
    rcases List.mem_cons.mp ha with rfl | ha
    · omega
    · exact h2 a ha
theorem le_maxM : ∀ {l : List Int} {a : Int}, a ∈ l → a ≤ maxM l
  | [], _, h => by simp at h
  | x :: l, a, h => by
    obtain ⟨h1, h2⟩ := foldl_max_up l x
    rcases List.mem_cons.mp h with rfl | h
    · exact h1
    · exact h2 a h
theorem isSetM_of {t : List Int} {k : Int} (h : ∀ a ∈ t, 0 ≤ a ∧ a < k) (hs : Srt t) : isSetM t k = true := by
  unfold isSetM
  rw [Bool.and_eq_true, List.all_eq_true, List.all_eq_true]
  refine ⟨fun b hb => ?_, fun b hb => ?_⟩
  · obtain ⟨a, ha, rfl⟩ := List.mem_map.mp hb
    have := h a ha
    simp only [_root_.id, Bool.and_eq_true, decide_eq_true_eq]
    exact this
  · obtain ⟨i, hi, rfl⟩ := List.mem_map.mp hb
    rw [List.mem_range] at hi
    simp only [_root_.id, decide_eq_true_eq]
    rw [List.getD_eq_getElem?_getD, List.getD_eq_getElem?_getD, List.getElem?_eq_getElem (by omega), List.getElem?_eq_getElem (by omega), Option.getD_some, Option.getD_some]
    exact List.pairwise_iff_getElem.mp hs i (i + 1) (by omega) (by omega) (by omega)
/-- what is known of the rule and a lot -/
structure Ok2 (m : Nat) (r : Rl) (lot : List Int) : Prop where
  m2 : 2 ≤ m
  m5 : m ≤ 5
  pk : PickedOk m r
  lt : lot ∈ llotsM m
theorem Ok2.S (O : Ok2 m r lot) : SmallR r := pk_small O.m5 O.pk
theorem Ok2.in7 (O : Ok2 m r lot) : In7 lot := ll_in7 O.m5 O.lt
theorem Ok2.srt (O : Ok2 m r lot) : Srt lot := (lotF O.m5).srt _ O.lt
theorem Ok2.ne (O : Ok2 m r lot) : lot ≠ [] := ((ll_facts O.m5).2.2 _ O.lt).1
theorem Ok2.len (O : Ok2 m r lot) : lot.length ≤ 6 := ((ll_facts O.m5).2.2 _ O.lt).2.1
theorem Ok2.nd (O : Ok2 m r lot) : KeysNd (rowsM r lot) := rows_nd (pk_nd O.m5 O.pk)
theorem Ok2.leads (O : Ok2 m r lot) : leadsM r lot = arrM r lot := leads_arr O.S (pk_in O.pk) O.srt O.in7
theorem Ok2.wov (O : Ok2 m r lot) : wovM r lot = lwovM r lot := wov_lwov O.S (pk_in O.pk) O.srt O.in7
theorem Ok2.row (O : Ok2 m r lot) {y : List Int × List Int} (hy : y ∈ rowsM r lot) : y.1 ∈ llotsM m ∧ (∀ a ∈ y.1, a ∈ lot) ∧ Srt y.1 ∧ y.1 ≠ [] ∧ In7 y.1 ∧ isSetM y.1 (maxM lot + 1) = true := by
  obtain ⟨h1, h2⟩ := mem_rows.mp hy
  have hk := (pk_mem O.pk h1).1
  have h7 := ll_in7 O.m5 hk
  have hs := (lotF O.m5).srt _ hk
  exact ⟨hk, h2, hs, ((ll_facts O.m5).2.2 _ hk).1, h7, isSetM_of (fun a ha => ⟨(h7 a ha).1, by have := le_maxM (h2 a ha); omega⟩) hs⟩
theorem mem_wvP {ts : List (List Int)} {p : Int × Int} : p ∈ wvPairs lot ts ↔ (∃ x ∈ lot.zip ts, p.1 ∈ x.2 ∧ p.2 = x.1) ∧ p.1 ≠ p.2 := by
  unfold wvPairs
  rw [List.mem_flatMap]
  constructor
  · rintro ⟨x, hx, hp⟩
    obtain ⟨n, hn, rfl⟩ := List.mem_map.mp hp
    rw [List.mem_filter] at hn
    exact ⟨⟨x, hx, hn.1, rfl⟩, by simpa using hn.2⟩
  · rintro ⟨⟨x, hx, h1, h2⟩, h3⟩
    refine ⟨x, hx, List.mem_map.mpr ⟨p.1, List.mem_filter.mpr ⟨h1, by rw [← h2]; simpa using h3⟩, ?_⟩⟩
    rw [← h2]
theorem rch_wv {ts : List (List Int)} {a b : Int} : Rch (wvPairs lot ts) a b ↔ Rch (wvAll lot ts) a b := by
  constructor
  · exact Rch.mono fun p hp => mem_wvAll.mpr (mem_wvP.mp hp).1
  · intro h
    induction h with
    | base => exact .base
    | @step x y _ e ih =>
      by_cases exy : x = y
      · rw [← exy]; exact ih
      · exact .step ih (mem_wvP.mpr ⟨mem_wvAll.mp e, exy⟩)
def ZipOk (r : Rl) (lot : List Int) (ts : List (List Int)) : Prop := ∀ x ∈ lot.zip ts, ∃ y ∈ rowsM r lot, y.1 = x.2 ∧ x.1 ∈ y.2
theorem zip_wv (O : Ok2 m r lot) {ts : List (List Int)} (hz : ZipOk r lot ts) : (∀ p ∈ wvAll lot ts, pIn p) ∧ ∀ p ∈ wvAll lot ts, p.1 ∈ lot ∧ p.2 ∈ lot := by
  have h : ∀ p ∈ wvAll lot ts, p.1 ∈ lot ∧ p.2 ∈ lot := fun p hp => by
    obtain ⟨x, hx, h1, h2⟩ := mem_wvAll.mp hp
    obtain ⟨y, hy, e, _⟩ := hz x hx
    rw [h2]
    exact ⟨(O.row hy).2.1 _ (by rw [e]; exact h1), (List.of_mem_zip hx).1⟩
  exact ⟨fun p hp => ⟨O.in7 _ (h p hp).1, O.in7 _ (h p hp).2⟩, h⟩
theorem wvP_all {ts : List (List Int)} : ∀ p ∈ wvPairs lot ts, p ∈ wvAll lot ts := fun p hp => mem_wvAll.mpr (mem_wvP.mp hp).1
theorem ties_iff (O : Ok2 m r lot) {ts : List (List Int)} : tiesM r lot ts = true ↔ ts.length = lot.length ∧ ZipOk r lot ts ∧ ∀ a ∈ lot, ∀ b ∈ lot, Rch (wvAll lot ts) a b := by
  unfold tiesM
  rw [Bool.and_eq_true, Bool.and_eq_true, decide_eq_true_iff, List.all_eq_true, List.all_eq_true]
  refine and_congr Iff.rfl ?_
  have hz : (∀ x ∈ lot.zip ts, ((rowsM r lot).any fun y => decide (x.2 = y.1) && decide (x.1 ∈ y.2)) = true) ↔ ZipOk r lot ts := by
    unfold ZipOk
    refine forall_congr' fun x => forall_congr' fun hx => ?_
    rw [List.any_eq_true]
    refine exists_congr fun y => and_congr Iff.rfl ?_
    rw [Bool.and_eq_true, decide_eq_true_iff, decide_eq_true_iff]
    exact and_congr eq_comm Iff.rfl
  rw [hz]
  refine and_congr_right fun hz => ?_
  obtain ⟨w1, w2⟩ := zip_wv O hz
  refine forall_congr' fun a => forall_congr' fun ha => ?_
  rw [decide_eq_true_iff, rch_lot w1 O.srt O.in7 (fun p hp => (w2 p hp).2) ha]
theorem isWv_iff (O : Ok2 m r lot) {ts : List (List Int)} : isWvM r lot ts = true ↔ 2 ≤ lot.length ∧ ts.length = lot.length ∧ ZipOk r lot ts ∧ ∀ a ∈ lot, ∀ b ∈ lot, Rch (wvAll lot ts) a b := by
  unfold isWvM
  rw [Bool.and_eq_true, Bool.and_eq_true, Bool.and_eq_true, Bool.and_eq_true, decide_eq_true_iff, decide_eq_true_iff, List.all_eq_true, List.all_eq_true]
  refine and_congr_right fun h2 => and_congr_right fun hl => ?_
  have hz : (∀ x ∈ lot.zip ts, decide (x.1 ∈ getR (rowsM r lot) x.2) = true) ↔ ZipOk r lot ts := by
    unfold ZipOk
    refine forall_congr' fun x => forall_congr' fun hx => ?_
    rw [decide_eq_true_iff, mem_getR O.nd]
  rw [hz]
  have hj : ZipOk r lot ts → (joinsM (wvPairs lot ts) lot = true ↔ ∀ a ∈ lot, ∀ b ∈ lot, Rch (wvAll lot ts) a b) := fun hz => by
    obtain ⟨w1, w2⟩ := zip_wv O hz
    rw [joins_iff (fun p hp => w1 p (wvP_all p hp)) O.in7 O.srt.nd O.ne fun p hp => w2 p (wvP_all p hp)]
    exact forall_congr' fun a => forall_congr' fun _ => forall_congr' fun b => forall_congr' fun _ => rch_wv
  constructor
  · rintro ⟨_, h3, h4⟩
    exact ⟨h3, (hj h3).mp h4⟩
  · rintro ⟨h3, h4⟩
    refine ⟨fun t ht => ?_, h3, (hj h3).mpr h4⟩
    obtain ⟨i, hi, e⟩ := List.mem_iff_getElem.mp ht
    have hx : (lot[i]'(by omega), t) ∈ lot.zip ts := by
      rw [List.mem_iff_getElem]
      exact ⟨i, by rw [List.length_zip]; omega, by rw [List.getElem_zip, e]⟩
    obtain ⟨y, hy, e2, _⟩ := h3 _ hx
    dsimp only at e2
    obtain ⟨_, _, _, k4, _, k6⟩ := O.row hy
    rw [← e2, k6]
    simpa [List.length_pos_iff] using k4
end
end VL
set_option Elab.async false
set_option linter.all false
set_option maxRecDepth 100000
set_option maxHeartbeats 4000000
/-! VL40: plain law: what the law compares. -/
namespace VL
open PySem PySem.Spec PyProof.Rows L2
section
variable {m : Nat} {r : Rl} {lot : List Int}
theorem isWv_ties (O : Ok2 m r lot) (h : 2 ≤ lot.length) (ts : List (List Int)) : isWvM r lot ts = tiesM r lot ts := by
  rw [Bool.eq_iff_iff, isWv_iff O, ties_iff O]
  exact ⟨fun x => x.2, fun x => ⟨h, x⟩⟩
theorem good_ties (O : Ok2 m r lot) {ws : List (List Int)} (G : GoodWv r lot ws) : tiesM r lot ws = true := by
  rw [ties_iff O]
  exact ⟨G.len, G.rows, G.conn⟩
theorem isWv_wov (O : Ok2 m r lot) {ts : List (List Int)} (h : isWvM r lot ts = true) : wovM r lot = true := by
  obtain ⟨h1, h2, h3, h4⟩ := (isWv_iff O).mp h
  rw [wov_iff O.S (pk_in O.pk) O.in7 O.srt.nd]
  refine ⟨h1, fun a ha b hb => ?_⟩
  refine Rch.mono (fun p hp => ?_) (rch_wv.mpr (h4 a ha b hb))
  obtain ⟨⟨x, hx, e1, e2⟩, hne⟩ := mem_wvP.mp hp
  obtain ⟨y, hy, e3, e4⟩ := h3 x hx
  rw [mem_leads O.S]
  exact ⟨y, hy, by rw [e3]; exact e1, by rw [e2]; exact e4, hne⟩
theorem wov_len (h : wovM r lot = true) : 2 ≤ lot.length := by
  unfold wovM at h
  rw [Bool.and_eq_true, decide_eq_true_iff] at h
  omega
/-- what the law says a lead shown is -/
def showsM (r : Rl) (lot : List Int) (one other : Int) (t : List Int) : Bool := decide (t ∈ (rowsM r lot).map (·.1)) && (!decide (one = other) && (decide (one ∈ t) && decide (other ∈ getR r t)))
theorem getR_rows (O : Ok2 m r lot) {t : List Int} (h : t ∈ (rowsM r lot).map (·.1)) {a : Int} : a ∈ getR (rowsM r lot) t ↔ a ∈ getR r t := by
  rw [mem_getR O.nd, mem_getR (pk_nd O.m5 O.pk)]
  constructor
  · rintro ⟨y, hy, z⟩
    exact ⟨y, (mem_rows.mp hy).1, z⟩
  · rintro ⟨y, hy, e, z⟩
    refine ⟨y, mem_rows.mpr ⟨hy, ?_⟩, e, z⟩
    obtain ⟨x, hx, e2⟩ := List.mem_map.mp h
    rw [e, ← e2]
    exact (mem_rows.mp hx).2
theorem shM_eq (O : Ok2 m r lot) (one other : Int) (t : List Int) : isShM r lot one other t = showsM r lot one other t := by
  rw [Bool.eq_iff_iff]
  unfold isShM showsM
  simp only [Bool.and_eq_true, decide_eq_true_eq, Bool.not_eq_true', decide_eq_false_iff_not]
  constructor
  · rintro ⟨⟨h1, h2⟩, h3, h4, h5⟩
    have hm : t ∈ (rowsM r lot).map (·.1) := by
      obtain ⟨y, hy, e, _⟩ := (mem_getR O.nd).mp h5
      exact List.mem_map.mpr ⟨y, hy, e⟩
    exact ⟨hm, h3, h4, (getR_rows O hm).mp h5⟩
  · rintro ⟨hm, h3, h4, h5⟩
    refine ⟨?_, h3, h4, (getR_rows O hm).mpr h5⟩
    obtain ⟨y, hy, rfl⟩ := List.mem_map.mp hm
    obtain ⟨_, _, _, k4, _, k6⟩ := O.row hy
    have := List.length_pos_iff.mpr k4
    exact ⟨k6, by omega⟩
noncomputable def knitM (m : Nat) (r : Rl) : List (List Int) := (llotsM m).filter (lwovM r)
theorem knit_eq (h2 : 2 ≤ m) (hm : m ≤ 5) (h : PickedOk m r) : (lotsM m).filter (wovM r) = knitM m r := by
  rw [lots_eq hm]
  unfold knitM
  exact List.filter_congr fun l hl => (Ok2.mk h2 hm h hl).wov
theorem knit_mem (O : Ok2 m r lot) : decide (lot ∈ knitM m r) = wovM r lot := by
  rw [Bool.eq_iff_iff, decide_eq_true_iff, O.wov]
  unfold knitM
  rw [List.mem_filter]
  exact ⟨fun h => h.2, fun h => ⟨O.lt, h⟩⟩
end
end VL
set_option Elab.async false
set_option linter.all false
set_option maxRecDepth 100000
set_option maxHeartbeats 4000000
/-! VL41: plain law: the same data are told to be the same. -/
namespace VL
open PySem PySem.Spec PyProof.Rows L2
def flD : Nat → Dt → Prop
  | 0, _ => False
  | n + 1, d => match d with
    | .int _ => True
    | .bl _ => True
    | .str _ => True
    | .tup ds => ds.length ≤ 1000 ∧ ∀ e ∈ ds, flD n e
    | .lst ds => ds.length ≤ 1000 ∧ ∀ e ∈ ds, flD n e
    | _ => False
theorem smL_refl {f : Dt → Dt → Option Bool} : ∀ {ds : List Dt}, (∀ e ∈ ds, f e e = some true) → ∃ bs, smL f ds ds = some bs ∧ bs.all _root_.id = true
  | [], _ => ⟨[], rfl, rfl⟩
  | d :: ds, h => by
    obtain ⟨bs, h1, h2⟩ := smL_refl (ds := ds) fun e he => h e (List.mem_cons_of_mem _ he)
    refine ⟨true :: bs, ?_, by rw [List.all_cons, h2]; rfl⟩
    unfold smL
    rw [h d List.mem_cons_self, Option.bind_some, h1]
    rfl
theorem smN_refl : ∀ (n : Nat) (d : Dt), flD n d → smN n d d = some true
  | 0, _, h => h.elim
  | n + 1, d, h => by
    unfold flD at h
    unfold smN
    cases d with
    | int i => simp
    | bl i => simp
    | str i => simp
    | tup ds =>
      obtain ⟨h1, h2⟩ := h
      obtain ⟨bs, h3, h4⟩ := smL_refl fun e he => smN_refl n e (h2 e he)
      simp only [h1, h3, if_true, Option.map_some, h4]
    | lst ds =>
      obtain ⟨h1, h2⟩ := h
      obtain ⟨bs, h3, h4⟩ := smL_refl fun e he => smN_refl n e (h2 e he)
      simp only [h1, h3, if_true, Option.map_some, h4]
    | _ => exact h.elim
theorem flD.mono : ∀ {n k : Nat} {d : Dt}, n ≤ k → flD n d → flD k d
  | 0, _, _, _, h => h.elim
  | n + 1, 0, _, h, _ => by omega
  | n + 1, k + 1, d, hk, h => by
    unfold flD at h ⊢
    cases d with
    | int i => trivial
    | bl i => trivial
    | str i => trivial
    | tup ds => exact ⟨h.1, fun e he => flD.mono (by omega) (h.2 e he)⟩
    | lst ds => exact ⟨h.1, fun e he => flD.mono (by omega) (h.2 e he)⟩
    | _ => exact h.elim
theorem fl_tI {n : Nat} {ns : List Int} (h : ns.length ≤ 1000) : flD (n + 2) (tI ns) := by
  refine ⟨by rw [List.length_map]; exact h, fun e he => ?_⟩
  obtain ⟨i, _, rfl⟩ := List.mem_map.mp he
  trivial
theorem fl_pI {n : Nat} {p : Int × Int} : flD (n + 2) (pI p) := by
  refine ⟨by simp, fun e he => ?_⟩
  rcases List.mem_cons.mp he with rfl | he
  · trivial
  · rw [List.mem_singleton.mp he]
    trivial
theorem fl_tup {n : Nat} {ds : List Dt} (h : ds.length ≤ 1000) (h2 : ∀ e ∈ ds, flD n e) : flD (n + 1) (.tup ds) := ⟨h, h2⟩
theorem fl_lst {n : Nat} {ds : List Dt} (h : ds.length ≤ 1000) (h2 : ∀ e ∈ ds, flD n e) : flD (n + 1) (.lst ds) := ⟨h, h2⟩
theorem fl_tm {n : Nat} {α : Type} {f : α → Dt} {xs : List α} (h : xs.length ≤ 1000) (h2 : ∀ x ∈ xs, flD n (f x)) : flD (n + 1) (.tup (xs.map f)) := ⟨by rw [List.length_map]; exact h, fun e he => by
  obtain ⟨x, hx, rfl⟩ := List.mem_map.mp he
  exact h2 x hx⟩
theorem fl_lm {n : Nat} {α : Type} {f : α → Dt} {xs : List α} (h : xs.length ≤ 1000) (h2 : ∀ x ∈ xs, flD n (f x)) : flD (n + 1) (.lst (xs.map f)) := ⟨by rw [List.length_map]; exact h, fun e he => by
  obtain ⟨x, hx, rfl⟩ := List.mem_map.mp he
  exact h2 x hx⟩
end VL
set_option Elab.async false
set_option linter.all false
set_option maxRecDepth 100000
set_option maxHeartbeats 4000000
/-! VL43: plain law: the two rules that are given by hand. -/
namespace VL
open PySem PySem.Spec PyProof.Rows L2
theorem turn_small : SmallR turnR := ⟨by decide, by decide, by decide⟩
theorem either_small : SmallR eitherR := ⟨by decide, by decide, by decide⟩
theorem turn_nd : KeysNd turnR := by unfold KeysNd; decide
theorem either_nd : KeysNd eitherR := by unfold KeysNd; decide
theorem turn_in : PickIn turnR := by unfold PickIn; decide
theorem either_in : PickIn eitherR := by unfold PickIn; decide
theorem either_tops : Tops 3 eitherR := ⟨by decide, by decide, ⟨([0, 2], [2]), by decide, by decide, by decide⟩, by decide⟩
theorem turn_leads : leadsM turnR [0, 1, 2] = [(0, 1), (1, 0), (1, 2), (2, 0)] := by decide +kernel
theorem turn_least : leastM (shownM turnR [0, 1, 2] 2 0) = some (tI [0, 1, 2]) := by
  rw [show shownM turnR [0, 1, 2] 2 0 = [[0, 1, 2], [0, 2]] by decide +kernel]
  rfl
theorem in7_of {l : List Int} (h : ∀ a ∈ l, 0 ≤ a ∧ a < 7) : In7 l := h
theorem rch_end {ps : Prs} {a b : Int} (h : ∀ p ∈ ps, p.1 ≠ a) (hr : Rch ps a b) : b = a := by
  induction hr with
  | base => rfl
  | step _ e ih => exact absurd ih (h _ e)
theorem either_reached : rchL (leadsM eitherR [0, 1, 2]) 2 = [2] := by
  symm
  refine rchL_uniq leads_in7 (by decide) (by decide) fun b => ?_
  rw [List.mem_singleton]
  constructor
  · rintro rfl
    exact .base
  · exact rch_end (by decide +kernel)
theorem either_woven : wovM eitherR [0, 1] = true := by
  rw [wov_iff either_small either_in (by unfold In7; decide) (by decide)]
  refine ⟨by decide, ?_⟩
  rw [show leadsM eitherR [0, 1] = [(0, 1), (1, 0)] by decide +kernel]
  intro a ha b hb
  simp only [List.mem_cons, List.not_mem_nil, or_false] at ha hb
  rcases ha with rfl | rfl <;> rcases hb with rfl | rfl
  · exact .base
  · exact .step .base (by decide)
  · exact .step .base (by decide)
  · exact .base
theorem either_not {lot : List Int} (h7 : In7 lot) (hn : lot.Nodup) (h2 : 2 ∈ lot) (h1 : ∃ b ∈ lot, b ≠ 2) : wovM eitherR lot = false := by
  rw [Bool.eq_false_iff]
  intro h
  rw [wov_iff either_small either_in h7 hn] at h
  obtain ⟨b, hb, hne⟩ := h1
  refine hne (rch_end (fun p hp e => ?_) (h.2 2 h2 b hb))
  rw [mem_leads either_small] at hp
  obtain ⟨x, hx, k1, k2, k3⟩ := hp
  have hx := (mem_rows.mp hx).1
  rw [e] at k1
  revert k1 k2 k3
  rw [e]
  have : ∀ x ∈ eitherR, (2 : Int) ∈ x.1 → ∀ b ∈ x.2, b = 2 := by decide
  intro k1 k2 k3
  exact k3 (this x hx k1 _ k2).symm
theorem either_lots : (lotsM 3).filter (wovM eitherR) = [[0, 1]] := by
  have F := lotF (m := 3) (by decide)
  have hmem : ∀ l, l ∈ lotsM 3 ↔ l ∈ (dblN (rg 3)).drop 1 := fun l => (F.perm.mem_iff).trans (ll_perm 3).mem_iff
  have e : (dblN (rg 3)).drop 1 = [[0], [1], [0, 1], [2], [0, 2], [1, 2], [0, 1, 2]] := by decide +kernel
  have hm : ∀ l, l ∈ (lotsM 3).filter (wovM eitherR) ↔ l = [0, 1] := fun l => by
    rw [List.mem_filter, hmem, e]
    constructor
    · rintro ⟨h1, h2⟩
      simp only [List.mem_cons, List.not_mem_nil, or_false] at h1
      rcases h1 with rfl | rfl | rfl | rfl | rfl | rfl | rfl
      · exact absurd (wov_len h2) (by decide)
      · exact absurd (wov_len h2) (by decide)
      · rfl
      · exact absurd (wov_len h2) (by decide)
      · rw [either_not (by unfold In7; decide) (by decide) (by decide) ⟨0, by decide, by decide⟩] at h2; cases h2
      · rw [either_not (by unfold In7; decide) (by decide) (by decide) ⟨1, by decide, by decide⟩] at h2; cases h2
      · rw [either_not (by unfold In7; decide) (by decide) (by decide) ⟨0, by decide, by decide⟩] at h2; cases h2
    · rintro rfl
      exact ⟨by decide, either_woven⟩
  have hnd : ((lotsM 3).filter (wovM eitherR)).Nodup := (F.perm.nodup_iff.mpr F.nd).filter _
  generalize (lotsM 3).filter (wovM eitherR) = fl at hm hnd
  match fl, hm, hnd with
  | [], hm, _ => exact absurd ((hm [0, 1]).mpr rfl) (by simp)
  | [x], hm, _ => rw [(hm x).mp List.mem_cons_self]
  | x :: y :: fl, hm, hnd =>
    have h1 := (hm x).mp List.mem_cons_self
    have h2 := (hm y).mp (List.mem_cons_of_mem _ List.mem_cons_self)
    rw [h1, h2] at hnd
    simp at hnd
theorem either_weave {ws : List (List Int)} (G : GoodWv eitherR [0, 1] ws) : ws = [[0, 1], [0, 1]] := by
  have hr : rowsM eitherR [0, 1] = [([0, 1], [0, 1])] := by decide +kernel
  match ws, G.len, G.rows with
  | [x, y], _, h =>
    obtain ⟨a, ha, e1, _⟩ := h (0, x) (by simp)
    obtain ⟨b, hb, e2, _⟩ := h (1, y) (by simp)
    rw [hr, List.mem_singleton] at ha hb
    subst ha hb
    dsimp only at e1 e2
    rw [← e1, ← e2]
theorem turn_weave : isWvM turnR [0, 1, 2] [[0, 1, 2], [0, 1], [1, 2]] = true := by
  have hj : joinsM (wvPairs [0, 1, 2] [[0, 1, 2], [0, 1], [1, 2]]) [0, 1, 2] = true := by
    have e : wvPairs [0, 1, 2] [[0, 1, 2], [0, 1], [1, 2]] = [(1, 0), (2, 0), (0, 1), (1, 2)] := by decide +kernel
    rw [e]
    rw [joins_iff (by unfold pIn; decide) (by unfold In7; decide) (by decide) (by decide) (by decide)]
    have s1 : Rch [(1, 0), (2, 0), (0, 1), (1, 2)] 0 1 := .step .base (by decide)
    have s2 : Rch [(1, 0), (2, 0), (0, 1), (1, 2)] 1 2 := .step .base (by decide)
    have s3 : Rch [(1, 0), (2, 0), (0, 1), (1, 2)] 2 0 := .step .base (by decide)
    have s4 : Rch [(1, 0), (2, 0), (0, 1), (1, 2)] 1 0 := .step .base (by decide)
    intro a ha b hb
    simp only [List.mem_cons, List.not_mem_nil, or_false] at ha hb
    rcases ha with rfl | rfl | rfl <;> rcases hb with rfl | rfl | rfl
    · exact .base
    · exact s1
    · exact s1.trans s2
    · exact s4
    · exact .base
    · exact s2
    · exact s3
    · exact s3.trans s1
    · exact .base
  unfold isWvM
  rw [hj]
  decide +kernel
end VL
set_option Elab.async false
set_option linter.all false
set_option maxRecDepth 100000
set_option maxHeartbeats 4000000
/-! VL47: plain law: small facts for the walk of right. -/
namespace VL
open PySem PySem.Spec PyProof.Rows L2
theorem rep_flat1 {α : Type} (x : α) : ∀ k : Nat, (List.replicate k [x]).flatten = List.replicate k x
  | 0 => rfl
  | k + 1 => by rw [List.replicate_succ, List.replicate_succ, List.flatten_cons, rep_flat1 x k]; rfl
section
variable {m : Nat} {r : Rl} {lot : List Int}
theorem shown_len (S : SmallR r) {a b : Int} : ∀ t ∈ shownM r lot a b, t.length ≤ 6 := fun t ht => by
  unfold shownM at ht
  obtain ⟨x, hx, rfl⟩ := List.mem_map.mp ht
  exact (S.each x (mem_rows.mp (List.mem_filter.mp hx).1).1).1
theorem least_fl (S : SmallR r) {a b : Int} : flD 4 ((leastM (shownM r lot a b)).getD cantD) := by
  cases h : shownM r lot a b with
  | nil => trivial
  | cons n nr =>
    have h1 := minT_mem nr n
    rw [← h] at h1
    have h2 := shown_len S _ h1
    exact fl_tI (n := 2) (by omega)
theorem rchL_len (ps : Prs) (a : Int) : (rchL ps a).length ≤ 7 := Nat.le_trans (List.length_filter_le _ _) (by rw [rg_len]; exact Nat.le_refl _)
noncomputable def got0 (r : Rl) (lot : List Int) : List Dt := [.tup ((arrM r lot).map pI), .tup ((arrM r lot).map pI), .lst (lot.map fun a => tI (rchL (arrM r lot) a))]
theorem got0_fl (h : lot.length ≤ 6) : ∀ g ∈ got0 r lot, flD 4 g := by
  have h1 : flD 4 (.tup ((arrM r lot).map pI)) := fl_tm (by have := arr_len (r := r) (lot := lot) (by omega); omega) fun x _ => fl_pI
  have h2 : flD 4 (.lst (lot.map fun a => tI (rchL (arrM r lot) a))) := fl_lm (by omega) fun x _ => fl_tI (by have := rchL_len (arrM r lot) x; omega)
  intro g hg
  unfold got0 at hg
  rcases List.mem_cons.mp hg with rfl | hg
  · exact h1
  rcases List.mem_cons.mp hg with rfl | hg
  · exact h1
  rw [List.mem_singleton.mp hg]
  exact h2
theorem rowsK_in {rows : Rl} {t : List Int} (h : t ∈ rows.map (·.1)) : getT (rowsK rows) t = some (tI (getR rows t)) := by
  rw [rowsK_some]
  unfold getR
  cases h2 : rows.find? (fun x => decide (x.1 = t)) with
  | none =>
    rw [List.find?_eq_none] at h2
    obtain ⟨y, hy, e⟩ := List.mem_map.mp h
    exact absurd (decide_eq_true e) (h2 y hy)
  | some x => rfl
theorem rowsK_isSome {rows : Rl} {t : List Int} : (getT (rowsK rows) t).isSome = decide (t ∈ rows.map (·.1)) := by
  by_cases h : t ∈ rows.map (·.1)
  · rw [rowsK_in h, decide_eq_true h]
    rfl
  · rw [rowsK_some, decide_eq_false h]
    cases h2 : rows.find? (fun x => decide (x.1 = t)) with
    | none => rfl
    | some x => exact absurd (List.mem_map.mpr ⟨x, List.mem_of_find?_eq_some h2, by simpa using List.find?_some h2⟩) h
theorem ws_small (S : SmallR r) {ws : List (List Int)} (G : GoodWv r lot ws) : ∀ t ∈ ws, t.length ≤ 6 := fun t ht => by
  obtain ⟨i, hi, e⟩ := List.mem_iff_getElem.mp ht
  have hl := G.len
  have hx : (lot[i]'(by omega), t) ∈ lot.zip ws := by
    rw [List.mem_iff_getElem]
    exact ⟨i, by rw [List.length_zip]; omega, by rw [List.getElem_zip, e]⟩
  obtain ⟨y, hy, e2, _⟩ := G.rows _ hx
  dsimp only at e2
  rw [← e2]
  exact (S.each y (mem_rows.mp hy).1).1
theorem bent_small (S : SmallR r) (hl : lot.length ≤ 6) {ws : List (List Int)} (h : ∀ t ∈ ws, t.length ≤ 6) {t : List Int} (b : bentIn r lot ws t) : t.length ≤ 6 := by
  rcases b with b | ⟨y, hy, rfl⟩ | rfl | rfl
  · exact h t b
  · exact (S.each y hy).1
  · exact hl
  · rw [List.length_take]; omega
/-- things that may be judged -/
def Thg (lot : List Int) (d : Dt) : Prop := ∃ ts : List (List Int), d = .tup (ts.map tI) ∧ ts.length = lot.length ∧ ∀ t ∈ ts, t.length ≤ 6
theorem thgs {ds : List Dt} (h : ∀ d ∈ ds, Thg lot d) : ∃ tss : List (List (List Int)), ds = tss.map (fun ts => .tup (ts.map tI)) ∧ ∀ ts ∈ tss, ts.length = lot.length ∧ ∀ t ∈ ts, t.length ≤ 6 := by
  induction ds with
  | nil => exact ⟨[], rfl, by simp⟩
  | cons d ds ih =>
    obtain ⟨tss, e, h2⟩ := ih fun d hd => h d (List.mem_cons_of_mem _ hd)
    obtain ⟨ts, e1, h3⟩ := h d List.mem_cons_self
    refine ⟨ts :: tss, by rw [e, e1]; rfl, fun x hx => ?_⟩
    rcases List.mem_cons.mp hx with rfl | hx
    · exact h3
    · exact h2 x hx
theorem fl_bls {n : Nat} {bs : List Bool} (h : bs.length ≤ 1000) : flD (n + 2) (.lst (bs.map .bl)) := fl_lm h fun _ _ => trivial
end
end VL
set_option Elab.async false
set_option linter.all false
set_option maxRecDepth 100000
set_option maxHeartbeats 4000000
/-! VL48: whether a LOT shows a lead, as the law asks it. -/
namespace VL
open PySem PySem.Spec PyProof.Rows L2
theorem shows_w {m : Nat} {r : Rl} {lot t : List Int} {a b : Int} {δ : Sl} {M : Me} {Q : Rs → Me → Prop} (O : Ok2 m r lot) (h2 : δ[2]? = some (some (.v (.tpl (r.map prT))))) (h4 : δ[4]? = some (some (.v (tI lot)))) (h10 : δ[10]? = some (some (.v (.tup [.int a, .int b])))) (h11 : δ[11]? = some (some (.v (tI t))))
    (h : Q (.v (.bl (showsM r lot a b t))) M) :
    wAndV (wTIn (wVar 11) (wCB oDictT (wCons (wCall spLRows (wCons (wWeak (wVar 2)) (wCons (wVar 4) wNil))) wNil)))
      (wAndV (wOp oNeS (wOp oIx (wVar 10) (wC (.int 0))) (wOp oIx (wVar 10) (wC (.int 1)))) (wAndV (wOp (oIn false) (wOp oIx (wVar 10) (wC (.int 0))) (wVar 11)) (wOp (oIn false) (wOp oIx (wVar 10) (wC (.int 1))) (wTGet (wCB oDictT (wCons (wVar 2) wNil)) (wVar 11))))) δ M Q := by
  simp only [wAndV, wTIn, wVar, h11, wCB, wCons, wNil, wCall, wWeak, h2, h4, asVs, allV, Option.map_some]
  refine ⟨(r, lot), ⟨rfl, O.S⟩, ?_⟩
  simp only [oDictT, as1, contP, asDt, asBl]
  refine ⟨rowsK (rowsM r lot), (rowsK_prD _).symm, by rw [rowsK_keys]; exact O.nd, by unfold rowsK; rw [List.length_map]; have := (rows_small (lot := lot) O.S).len; omega, t, rfl, ?_⟩
  rw [rowsK_isSome]
  have i0 : atI [Dt.int a, Dt.int b] 0 = some (.int a) := rfl
  have i1 : atI [Dt.int a, Dt.int b] 1 = some (.int b) := rfl
  unfold showsM at h
  cases c1 : decide (t ∈ (rowsM r lot).map (·.1)) with
  | false =>
    rw [c1, Bool.false_and] at h
    exact (if_neg Bool.false_ne_true).mpr h
  | true =>
    rw [c1, Bool.true_and] at h
    refine (if_pos rfl).mpr ?_
    simp only [wOp, oNeS, oIx, wVar, wC, h10, contS, asInt]
    refine ⟨_, i0, _, i1, ?_⟩
    simp only [asSc, scEq]
    cases c2 : decide (a = b) with
    | true =>
      rw [c2, Bool.not_true, Bool.false_and] at h
      exact (if_neg Bool.false_ne_true).mpr h
    | false =>
      rw [c2, Bool.not_false, Bool.true_and] at h
      refine (if_pos rfl).mpr ⟨_, i0, ?_⟩
      simp only [oIn, h11, contS, asInt]
      refine ⟨t, rfl, ?_⟩
      cases c3 : decide (a ∈ t) with
      | false =>
        rw [c3, Bool.false_and] at h
        exact (if_neg Bool.false_ne_true).mpr h
      | true =>
        rw [c3, Bool.true_and] at h
        refine (if_pos rfl).mpr ⟨_, i1, ?_⟩
        simp only [wTGet, wCB, wCons, wNil, wVar, h2, h11, oDictT, as1, contP, asDt]
        have hk : t ∈ r.map (·.1) := by
          obtain ⟨y, hy, e⟩ := List.mem_map.mp (of_decide_eq_true c1)
          exact List.mem_map.mpr ⟨y, (mem_rows.mp hy).1, e⟩
        refine ⟨rowsK r, (rowsK_prD _).symm, by rw [rowsK_keys]; exact pk_nd O.m5 O.pk, by unfold rowsK; rw [List.length_map]; have := O.S.len; omega, t, rfl, _, rowsK_in hk, ?_⟩
        exact ⟨_, rfl, h⟩
theorem if_knit {n m : Nat} {r : Rl} {lot : List Int} {us : List Dt} {ex : Me} {δ : Sl} {Q : Rs → Me → Prop} (O : Ok2 m r lot) (h0 : δ[0]? = some (some (.o 0))) (h4 : δ[4]? = some (some (.v (tI lot)))) (h13 : δ[13]? = some (some (.v (.lst ((knitM m r).map tI))))) (hu : UOk n us) (hn : n ≤ 900000)
    (h : ∀ us' lot', UOk (n + 1) us' → Ok2 m r lot' → Q (.v (tI lot')) (.lst us' :: ex)) :
    wIf (wTest (wOp oNeNil (wVar 13) (wLst wNil))) (wCallU spOf (wCons (wVar 0) (wCons (wVar 13) wNil))) (wVar 4) δ (.lst us :: ex) Q := by
  simp only [wIf, wTest, wOp, wLst, wNil, wVar, h0, h4, h13, asVs, allV, oNeNil, contL, asNil, asBl]
  refine ⟨by simp, .inr ⟨_, rfl⟩, ?_⟩
  have hkl : (knitM m r).length ≤ 40 := Nat.le_trans (List.length_filter_le _ _) (ll_facts O.m5).1
  have hin : ∀ l ∈ knitM m r, l ∈ llotsM m := fun l hl => (List.mem_filter.mp hl).1
  cases hk : knitM m r with
  | nil => exact (if_neg (by simp)).mpr (h _ _ (hu.mono (by omega)) O)
  | cons l0 kr =>
    refine (if_pos (by simp)).mpr ?_
    simp only [wCallU, wCons, wNil, wVar, h0, h13, hk, asU, asVs, allV, Option.map_some, List.getElem?_cons_zero]
    refine ⟨(n, (l0 :: kr).map tI, _), ⟨rfl, .inl rfl, hu, by dsimp only; omega, by simp, by rw [hk] at hkl; dsimp only; rw [List.length_map]; omega⟩, ?_⟩
    rintro us' _ ⟨hu', hd⟩
    obtain ⟨l, hl, rfl⟩ := List.mem_map.mp hd
    exact h us' l hu' ⟨O.m2, O.m5, O.pk, hin l (by rw [hk]; exact hl)⟩
end VL
set_option Elab.async false
set_option linter.all false
set_option maxRecDepth 100000
set_option maxHeartbeats 4000000
/-! VL42: the law: right. -/
namespace VL
open PySem PySem.Spec PyProof.Rows L2 VLC
section
variable {P : Program} {w : World} {K : PySem.W.Frag} {mg : Str → Option Value} {base : Heap}
abbrev s_right : Stmt := topS 47
theorem sc_right : FnScope ["_law_urn", "_law_m", "_law_picked_here", "_law_all_so", "_law_lot_so", "_law_arrows_here", "_law_soft", "_law_got", "_law_goal", "_law_lap", "_law_ends", "_law_thing", "_law_shows", "_law_knit", "_law_told", "_law_things", "_law_own", "_law_area"] ["_law_urn"] (defScope s_right) := ⟨rfl, rfl, rfl, by decide +kernel, rfl, by decide +kernel, by decide +kernel⟩


abbrev spRight : SpecU := fnU (fun (n : Nat) us ds => ds = [] ∧ UOk n us ∧ n ≤ 500000) (fun n us' d => d = .bl true)
/-- ahead of turn i of the loop in right -/
def rtP (m : Nat) (r : Rl) (lot : List Int) (k : Nat) (i : Nat) (δ : Sl) (M : Me) : Prop := ∃ (us : List Dt) (ex : Me) (gs : List Dt) (c7 c8 : Rs) (y9 y10 y11 y12 : Option Rs),
  δ = [some (.o 0), some (.v (.int m)), some (.v (.tpl (r.map prT))), some (.v (tI (rg m))), some (.v (tI lot)), some (.v (.lst ((arrM r lot).map pI))), some (.v (ruleL r)), some c7, some c8, y9, y10, y11, y12, none, none, none, none, none] ∧ M = .lst us :: ex ∧ UOk (k + 3 * i) us ∧
  (∀ us' (q : List Dt → Prop), contL c7 (.lst us' :: ex) q = q gs) ∧ (∀ us' (q : List Dt → Prop), contL c8 (.lst us' :: ex) q = q gs) ∧ gs.length ≤ 3 + 2 * i ∧ (∀ g ∈ gs, flD 4 g) ∧ (0 < i → c7 = .v (.lst gs) ∧ c8 = .v (.lst gs))
theorem if_lot {n m : Nat} {us : List Dt} {δ : Sl} {Q : Rs → Me → Prop} (h0 : δ[0]? = some (some (.o 0))) (h3 : δ[3]? = some (some (.v (tI (rg m))))) (hu : UOk n us) (hn : n ≤ 900000) (h2 : 2 ≤ m) (hm : m ≤ 5) (h : ∀ us' lot, UOk (n + 2) us' → lot ∈ llotsM m → Q (.v (tI lot)) [.lst us']) :
    wIf (wTest (wOp oEqS (wCallU spTake (wCons (wVar 0) (wCons (wC (.int 2)) wNil))) (wC (.int 0)))) (wCallU spOf (wCons (wVar 0) (wCons (wCall spLLots (wCons (wVar 3) wNil)) wNil))) (wVar 3) δ [.lst us] Q := by
  simp only [wIf, wTest, wOp, oEqS, wC, wCallU, asU, wCall, wCons, wNil, wVar, asVs, allV, Option.map_some, h0, h3, List.set_cons_zero, List.set_cons_succ, List.getElem?_cons_zero, List.getElem?_cons_succ]
  refine ⟨(n, 2), ⟨rfl, hu, by dsimp only; omega, by dsimp only; decide, by dsimp only; decide⟩, ?_⟩
  rintro us2 _ ⟨hu2, k, rfl, k0, k1⟩
  dsimp only at hu2
  simp only [asSc, scEq, asBl]
  cases hk : decide (k = 0) with
  | true =>
    refine (if_pos rfl).mpr ?_
    obtain ⟨l1, l2, l3⟩ := ll_facts hm
    refine ⟨m, ⟨rfl, hm⟩, (n + 1, (llotsM m).map tI, _), ⟨rfl, .inl rfl, hu2, by dsimp only; omega, ?_, by dsimp only; rw [List.length_map]; omega⟩, ?_⟩
    · dsimp only
      rw [List.length_map]
      exact List.length_pos_of_mem (l2 h2)
    · rintro us3 _ ⟨hu3, hd⟩
      obtain ⟨lot, hl, rfl⟩ := List.mem_map.mp hd
      exact h _ _ hu3 hl
  | false => exact (if_neg Bool.false_ne_true).mpr (h _ _ (hu2.mono (by omega)) ((lotF hm).all (by omega)))
theorem ok_right (D : Df K mg "_law_right" s_right ["_law_urn"]) (B : Bs mg) (C__law_take : Cl P w K mg base CX0 1 "_law_take" ["_law_urn", "_law_low_so"] (spU spTake)) (C__law_of : Cl P w K mg base CX0 2 "_law_of" ["_law_urn", "_law_goods"] (spU spOf)) (C__law_picked : Cl P w K mg base CX0 3 "_law_picked" ["_law_urn", "_law_m", "_law_loose_so"] (spU spPicked)) (C__law_lots : Cl P w K mg base CX0 1 "_law_lots" ["_law_lot_so"] (spV spLLots))
    (C__law_arrows : Cl P w K mg base CX0 2 "_law_arrows" ["_law_picked_here", "_law_lot_so"] (spV spArr)) (C__law_lists : Cl P w K mg base CX0 4 "_law_lists" ["_law_matter"] (spV (spLof 4))) (C_leads_in : Cl P w K mg base CX0 6 "leads_in" ["rule", "lot"] (spV spLeads)) (C_reached : Cl P w K mg base CX0 7 "reached" ["rule", "lot", "area"] (spV spReached)) (C__law_spread : Cl P w K mg base CX0 1 "_law_spread" ["_law_arrows_here", "_law_area"] (spV spSpread))
    (C__law_heard : Cl P w K mg base CX0 9 "_law_heard" ["_law_picked_here", "_law_lot_so", "_law_ends"] (spV spHeard)) (C_is_lead_shown : Cl P w K mg base CX0 6 "is_lead_shown" ["rule", "lot", "one", "other", "thing"] (spV spIsShown)) (C__law_rows : Cl P w K mg base CX0 1 "_law_rows" ["_law_picked_here", "_law_lot_so"] (spV spLRows)) (C__law_least : Cl P w K mg base CX0 2 "_law_least" ["_law_picked_here", "_law_lot_so", "_law_one", "_law_other"] (spV spLeast))
    (C__law_same : Cl P w K mg base CX0 5 "_law_same" ["_law_got", "_law_goal"] (spV (spSame 5))) (C__law_is_woven : Cl P w K mg base CX0 3 "_law_is_woven" ["_law_picked_here", "_law_lot_so"] (spV spLIsWov)) (C_woven_lots : Cl P w K mg base CX0 8 "woven_lots" ["rule"] (spV spWov)) (C_is_woven : Cl P w K mg base CX0 7 "is_woven" ["rule", "lot"] (spV spIsWov)) (C_is_weave : Cl P w K mg base CX0 6 "is_weave" ["rule", "lot", "thing"] (spV spIsWeave))
    (C__law_ties_all : Cl P w K mg base CX0 3 "_law_ties_all" ["_law_picked_here", "_law_lot_so", "_law_thing"] (spV spTies)) (C__law_bent : Cl P w K mg base CX0 3 "_law_bent" ["_law_urn", "_law_picked_here", "_law_lot_so", "_law_told"] (spU spBent)) :
    Cl P w K mg base CX0 10 "_law_right" ["_law_urn"] (spU spRight) := by
  refine v_defU D sc_right (fun y us ds h => by rw [h.1]; rfl) fun fa cdv A outer s H E hr => ?_
  have Sc := sc_right

  refine ⟨_, (vs_cons (v_set (i := 1) Sc.nd (v_op vo_add v_int (v_cU C__law_of (hr.mono (by omega)) (va_cons (vv 0) (va_cons (v_lst (va_cons v_int (va_cons v_int (va_cons v_int (va_cons v_int (va_cons v_int (va_cons v_int va_nil))))))) va_nil)))))
    (vs_cons (v_set (i := 2) Sc.nd (v_cU C__law_picked (hr.mono (by omega)) (va_cons (vv 0) (va_cons (vv 1) (va_cons (v_cmp vo_eqS (v_cU C__law_take (hr.mono (by omega)) (va_cons (vv 0) (va_cons v_int va_nil))) v_int (by rfl)) va_nil)))))
    (vs_cons (v_set (i := 3) Sc.nd (v_tupRg rfl B.tuple B.range (vv 1)))
    (vs_cons (v_set (i := 4) Sc.nd (v_if (vt_cmp vo_eqS (v_cU C__law_take (hr.mono (by omega)) (va_cons (vv 0) (va_cons v_int va_nil))) v_int (by rfl)) (v_cU C__law_of (hr.mono (by omega)) (va_cons (vv 0) (va_cons (v_c C__law_lots (hr.mono (by omega)) (va_cons (vv 3) va_nil)) va_nil))) (vv 3)))
    (vs_cons (v_set (i := 5) Sc.nd (v_c C__law_arrows (hr.mono (by omega)) (va_cons (v_weak (vv 2)) (va_cons (vv 4) va_nil))))
    (vs_cons (v_set (i := 6) Sc.nd (v_c C__law_lists (hr.mono (by omega)) (va_cons (v_weak (vv 2)) va_nil)))
    (vs_cons (v_par2 (i := 7) (j := 8) rfl Sc.nd (va_cons (v_lstO (va_cons (v_c C_leads_in (hr.mono (by omega)) (va_cons (v_weak (vv 2)) (va_cons (vv 4) va_nil))) (va_cons (v_c C_leads_in (hr.mono (by omega)) (va_cons (vv 6) (va_cons (v_ty vc_list B.list (va_cons (vv 4) va_nil)) va_nil))) va_nil))) (va_cons (v_op vo_repO (v_lst (va_cons (v_ty vc_tuple B.tuple (va_cons (vv 5) va_nil)) va_nil)) v_int) va_nil)))
    (vs_cons (v_expr (v_mt vm_append PySem.F.plainAttrs_list PySem.F.slot_list_append PySem.F.type_list_append (vv 7) (va_cons (v_lc (own := [("_law_area", 17)]) rfl Sc.nd (vi_seq (vv 4)) (blkOk_by (by rfl)) (fun _ _ _ _ _ => (vg_name (i := 17) Sc.nd)) (fun _ _ _ _ _ => vts_nil) (fun _ _ _ _ _ => (v_c C_reached (hr.mono (by omega)) (va_cons (v_weak (vv 2)) (va_cons (vv 4) (va_cons (vv 17) va_nil)))))) va_nil)))
    (vs_cons (v_expr (v_mt vm_append PySem.F.plainAttrs_list PySem.F.slot_list_append PySem.F.type_list_append (vv 8) (va_cons (v_lc (own := [("_law_area", 17)]) rfl Sc.nd (vi_seq (vv 4)) (blkOk_by (by rfl)) (fun _ _ _ _ _ => (vg_name (i := 17) Sc.nd)) (fun _ _ _ _ _ => vts_nil) (fun _ _ _ _ _ => (v_c C__law_spread (hr.mono (by omega)) (va_cons (vv 5) (va_cons (vv 17) va_nil))))) va_nil)))
    (vs_cons (v_for rfl (vi_r1 B.range (va_cons v_int va_nil)) (vg_name (i := 9) Sc.nd) (vs_cons (v_set (i := 10) Sc.nd (v_tup (va_cons (v_cU C__law_of (hr.mono (by omega)) (va_cons (vv 0) (va_cons (vv 4) va_nil))) (va_cons (v_cU C__law_of (hr.mono (by omega)) (va_cons (vv 0) (va_cons (vv 4) va_nil))) va_nil))))
    (vs_cons (v_set (i := 11) Sc.nd (v_cU C__law_of (hr.mono (by omega)) (va_cons (vv 0) (va_cons (v_c C__law_lots (hr.mono (by omega)) (va_cons (vv 3) va_nil)) va_nil))))
    (vs_cons (v_set (i := 7) Sc.nd (v_op vo_cat (vv 7) (v_lst (va_cons (v_cP C__law_heard (hr.mono (by omega)) (va_cons (v_weak (vv 2)) (va_cons (vv 4) (va_cons (vv 10) va_nil)))) (va_cons (v_c C_is_lead_shown (hr.mono (by omega)) (va_cons (vv 6) (va_cons (vv 4) (va_cons (v_ix (vv 10) v_int) (va_cons (v_ix (vv 10) v_int) (va_cons (vv 11) va_nil)))))) va_nil)))))
    (vs_cons (v_set (i := 12) Sc.nd (v_and (v_tin (hu1 hr) (vv 11) (v_ty (vc_dictT rfl (hu4 hr)) B.dict (va_cons (v_c C__law_rows (hr.mono (by omega)) (va_cons (v_weak (vv 2)) (va_cons (vv 4) va_nil))) va_nil))) (v_and (v_cmp vo_neS (v_ix (vv 10) v_int) (v_ix (vv 10) v_int) (by rfl)) (v_and (v_cmp vo_in (v_ix (vv 10) v_int) (vv 11) (by rfl)) (v_one (v_cmp vo_in (v_ix (vv 10) v_int) (v_tget (hu1 hr) (v_ty (vc_dictT rfl (hu4 hr)) B.dict (va_cons (vv 2) va_nil)) (vv 11)) (by rfl)))))))
    (vs_one (v_set (i := 8) Sc.nd (v_op vo_cat (vv 8) (v_lst (va_cons (v_c C__law_least (hr.mono (by omega)) (va_cons (v_weak (vv 2)) (va_cons (vv 4) (va_cons (v_ix (vv 10) v_int) (va_cons (v_ix (vv 10) v_int) va_nil))))) (va_cons (vv 12) va_nil)))))))))) PassesOwn.never)
    (vs_cons (v_ifS (vt_not (vt_val (v_c C__law_same (hr.mono (by omega)) (va_cons (vv 7) (va_cons (vv 8) va_nil))))) (vs_one (v_ret v_bl)) vs_nil)
    (vs_cons (v_setLc (own := [("_law_own", 16)]) (i := 13) rfl Sc.nd (sw_true rfl rfl rfl (by decide +kernel)) (vi_seq (v_c C__law_lots (hr.mono (by omega)) (va_cons (vv 3) va_nil))) (blkOk_by (by rfl)) (fun _ _ _ _ _ => (vg_name (i := 16) Sc.nd)) (fun _ _ _ _ _ => (vts_one (vt_val (v_c C__law_is_woven (hr.mono (by omega)) (va_cons (v_weak (vv 2)) (va_cons (vv 16) va_nil)))))) (fun _ _ _ _ _ => (vv 16)))
    (vs_cons (v_ifS (vt_not (vt_val (v_c C__law_same (hr.mono (by omega)) (va_cons (v_lst (va_cons (v_c C_woven_lots (hr.mono (by omega)) (va_cons (vv 6) va_nil)) (va_cons (v_c C_is_woven (hr.mono (by omega)) (va_cons (v_weak (vv 2)) (va_cons (vv 4) va_nil))) va_nil))) (va_cons (v_lst (va_cons (vv 13) (va_cons (v_cmp (vo_inT (hu65 hr)) (vv 4) (vv 13) (by rfl)) va_nil))) va_nil))))) (vs_one (v_ret v_bl)) vs_nil)
    (vs_cons (v_set (i := 4) Sc.nd (v_if (vt_cmp (vo_neNil (hu64 hr)) (vv 13) (v_lst va_nil) (by rfl)) (v_cU C__law_of (hr.mono (by omega)) (va_cons (vv 0) (va_cons (vv 13) va_nil))) (vv 4)))
    (vs_cons (v_set (i := 14) Sc.nd (v_cP C__law_heard (hr.mono (by omega)) (va_cons (vv 6) (va_cons (vv 4) (va_cons v_non va_nil)))))
    (vs_cons (v_ifS (vt_cmp (vo_notInT (hu65 hr)) (vv 4) (vv 13) (by rfl)) (vs_one (v_ret (v_c C__law_same (hr.mono (by omega)) (va_cons (v_lst (va_cons (vv 14) (va_cons (v_c C_is_weave (hr.mono (by omega)) (va_cons (v_weak (vv 2)) (va_cons (vv 4) (va_cons (v_op vo_repT (v_tup (va_cons (vv 4) va_nil)) (v_b vc_len B.len (va_cons (vv 4) va_nil))) va_nil)))) va_nil))) (va_cons (v_lst (va_cons v_str (va_cons v_bl va_nil))) va_nil))))) vs_nil)
    (vs_cons (v_ifS (vt_not (vt_val (v_c C__law_ties_all (hr.mono (by omega)) (va_cons (v_weak (vv 2)) (va_cons (vv 4) (va_cons (vv 14) va_nil)))))) (vs_one (v_ret v_bl)) vs_nil)
    (vs_cons (v_set (i := 15) Sc.nd (v_op vo_cat (v_lst (va_cons (vv 14) va_nil)) (v_lc (own := [("_law_lap", 9)]) rfl Sc.nd (vi_r1 B.range (va_cons v_int va_nil)) (blkOk_by (by rfl)) (fun _ _ _ _ _ => (vg_name (i := 9) Sc.nd)) (fun _ _ _ _ _ => vts_nil) (fun _ _ _ _ _ => (v_cU C__law_bent (hr.mono (by omega)) (va_cons (vv 0) (va_cons (v_weak (vv 2)) (va_cons (vv 4) (va_cons (vv 14) va_nil)))))))))
    (vs_one (v_ret (v_c C__law_same (hr.mono (by omega)) (va_cons (v_lc (own := [("_law_own", 16)]) rfl Sc.nd (vi_seq (vv 15)) (blkOk_by (by rfl)) (fun _ _ _ _ _ => (vg_name (i := 16) Sc.nd)) (fun _ _ _ _ _ => vts_nil) (fun _ _ _ _ _ => (v_c C_is_weave (hr.mono (by omega)) (va_cons (v_weak (vv 2)) (va_cons (vv 4) (va_cons (vv 16) va_nil)))))) (va_cons (v_lc (own := [("_law_own", 16)]) rfl Sc.nd (vi_seq (vv 15)) (blkOk_by (by rfl)) (fun _ _ _ _ _ => (vg_name (i := 16) Sc.nd)) (fun _ _ _ _ _ => vts_nil) (fun _ _ _ _ _ => (v_c C__law_ties_all (hr.mono (by omega)) (va_cons (v_weak (vv 2)) (va_cons (vv 4) (va_cons (vv 16) va_nil)))))) va_nil))))))))))))))))))))))), ?_⟩
  rintro n us ds Q ⟨rfl, hu, hn⟩ q
  simp only [wSeq, slots0, List.map_cons, List.map_nil, List.length_cons, List.length_nil, Nat.reduceSub, Nat.reduceAdd, List.replicate_succ, List.replicate_zero, List.cons_append, List.nil_append, List.getElem?_cons_zero, List.getElem?_cons_succ]
  simp only [wSet, wOp, oI, wC, wCallU, asU, wLst, wCons, wNil, wVar, asVs, allV, Option.map_some, asInt, slots0, List.map_cons, List.map_nil, List.length_cons, List.length_nil, Nat.reduceSub, Nat.reduceAdd, List.replicate_succ, List.replicate_zero, List.cons_append, List.nil_append, List.getElem?_cons_zero, List.getElem?_cons_succ, List.set_cons_zero, List.set_cons_succ, List.getElem?_cons_zero, List.getElem?_cons_succ]
  refine ⟨by decide, (n, [.int 1, .int 2, .int 2, .int 1, .int 0, .int 3], _), ⟨rfl, .inl rfl, hu, by dsimp only; omega, by dsimp only; decide, by dsimp only; decide⟩, ?_⟩
  rintro us1 d ⟨hu1, hd⟩
  dsimp only at hu1
  have hm : ∃ m : Nat, d = .int ((m : Int) - 2) ∧ 2 ≤ m ∧ m ≤ 5 := by
    simp only [List.mem_cons, List.not_mem_nil, or_false] at hd
    rcases hd with rfl | rfl | rfl | rfl | rfl | rfl
    · exact ⟨3, rfl, by decide, by decide⟩
    · exact ⟨4, rfl, by decide, by decide⟩
    · exact ⟨4, rfl, by decide, by decide⟩
    · exact ⟨3, rfl, by decide, by decide⟩
    · exact ⟨2, rfl, by decide, by decide⟩
    · exact ⟨5, rfl, by decide, by decide⟩
  obtain ⟨m, rfl, hm2, hm5⟩ := hm
  clear hd
  simp only [oI0, asInt]
  rw [show (2 : Int) + ((m : Int) - 2) = (m : Int) by omega]
  simp only [wSeq, wSet, wOp, oEqS, wC, wCallU, asU, wCons, wNil, wVar, asVs, allV, Option.map_some, List.set_cons_zero, List.set_cons_succ, List.getElem?_cons_zero, List.getElem?_cons_succ]
  refine ⟨(n + 1, 2), ⟨rfl, hu1, by dsimp only; omega, by dsimp only; decide, by dsimp only; decide⟩, ?_⟩
  rintro us2 _ ⟨hu2, k, rfl, k0, k1⟩
  dsimp only at hu2
  simp only [asSc, scEq, allV, Option.map_some]
  refine ⟨(n + 1 + 1, m, decide (k = 0)), ⟨rfl, hu2, by dsimp only; omega, hm2, hm5⟩, ?_⟩
  rintro us3 _ ⟨hu3, r, rfl, hpk⟩
  dsimp only at hu3 hpk
  simp only [wTupRg, wVar, asInt, List.set_cons_zero, List.set_cons_succ, List.getElem?_cons_zero, List.getElem?_cons_succ]
  refine ⟨⟨by omega, by omega⟩, ?_⟩
  rw [Int.toNat_natCast, rgD_rg]
  refine if_lot (n := n + 1 + 1 + 200) (m := m) rfl rfl hu3 (by omega) hm2 hm5 fun us4 lot hu4 hlot => ?_
  have O : Ok2 m r lot := ⟨hm2, hm5, hpk, hlot⟩
  have S := O.S
  have hll := O.len
  simp only [wSeq, wSet, wCall, wWeak, wCons, wNil, wVar, asVs, allV, Option.map_some, List.set_cons_zero, List.set_cons_succ, List.getElem?_cons_zero, List.getElem?_cons_succ]
  refine ⟨(r, lot), ⟨rfl, S, by dsimp only; omega⟩, ?_⟩
  dsimp only
  refine ⟨(ruleT r, ruleL r), ⟨rfl, lof_rule S⟩, ?_⟩
  dsimp only
  simp only [wSeq, wPar2, wLstO, wLst, wCall, wWeak, wCB, oList, oTuple, wOp, oRepO, wC, wCons, wNil, wVar, as1, as2, contL, contS, asInt, asVs, allV, Option.map_some, List.set_cons_zero, List.set_cons_succ, List.getElem?_cons_zero, List.getElem?_cons_succ]
  refine ⟨(r, lot, ruleT r, tI lot), ⟨rfl, .inl rfl, S, .inl rfl⟩, ?_⟩
  dsimp only
  refine ⟨(r, lot, ruleL r, lI lot), ⟨rfl, .inr rfl, S, .inr rfl⟩, ?_⟩
  dsimp only
  rw [O.leads]
  refine ⟨by simp, by simp, ⟨by decide, by decide, by simp⟩, ?_⟩
  simp only [wSeq, wDrop, wMt, asO, wCons, wNil, wVar, List.set_cons_zero, List.set_cons_succ, List.getElem?_cons_zero, List.getElem?_cons_succ, List.length_cons, List.length_nil, List.cons_append, List.nil_append, Nat.reduceAdd]
  refine lcM (xs := lot) Dt.int (fun a => tI (rchL (arrM r lot) a)) (fun Q' q' => ?_) (by omega) (fun a ha A hA => ?_) ?_
  · simp only [wSeqI, wVar, asSeq, List.set_cons_zero, List.set_cons_succ, List.getElem?_cons_zero, List.getElem?_cons_succ]
    exact q'
  · simp only [gN, wipeD, wCall, wWeak, wCons, wNil, wVar, asVs, allV, Option.map_some, asV, List.set_cons_zero, List.set_cons_succ, List.getElem?_cons_zero, List.getElem?_cons_succ]
    refine ⟨(r, lot, a, ruleT r), ⟨rfl, .inl rfl, S, ha, O.in7⟩, ?_⟩
    dsimp only
    rw [O.leads]
    exact hA
  simp only [as1, asV, oApp, List.set_cons_zero, List.set_cons_succ, List.getElem?_cons_zero, List.getElem?_cons_succ, List.length_cons, List.length_nil, List.cons_append, List.nil_append, Nat.reduceAdd]
  refine ⟨by simp, ?_⟩
  refine lcM (xs := lot) Dt.int (fun a => tI (rchL (arrM r lot) a)) (fun Q' q' => ?_) (by omega) (fun a ha A hA => ?_) ?_
  · simp only [wSeqI, wVar, asSeq, List.set_cons_zero, List.set_cons_succ, List.getElem?_cons_zero, List.getElem?_cons_succ]
    exact q'
  · simp only [gN, wipeD, wCall, wCons, wNil, wVar, asVs, allV, Option.map_some, asV, List.set_cons_zero, List.set_cons_succ, List.getElem?_cons_zero, List.getElem?_cons_succ]
    refine ⟨(arrM r lot, a), ⟨rfl, by have := arr_len (r := r) (lot := lot) (by omega); dsimp only; omega, arr_in7 O.in7, O.in7 a ha⟩, ?_⟩
    exact hA
  simp only [List.set_cons_zero, List.set_cons_succ, List.getElem?_cons_zero, List.getElem?_cons_succ]
  refine ⟨by simp, ?_⟩
  have e2 : (List.replicate (Int.toNat 2) [Dt.tup (List.map pI (arrM r lot))]).flatten ++ [Dt.lst (List.map (fun a => tI (rchL (arrM r lot) a)) lot)] = got0 r lot := rfl
  rw [e2]
  have e3 : [Dt.tup (List.map pI (arrM r lot)), Dt.tup (List.map pI (arrM r lot)), Dt.lst (List.map (fun a => tI (rchL (arrM r lot) a)) lot)] = got0 r lot := rfl
  rw [e3]
  refine for_r (M1 := [Ct.lst us4, Ct.lst (got0 r lot), Ct.lst (got0 r lot)]) (xs := rg 3) Dt.int (rtP m r lot (n + 300)) (fun _ _ => False) (fun Q' q' => ?_) ?_ (fun i x δ M nx0 rt0 ex0 nx1 hx hP _ hnx => ?_) (fun _ _ h => h.elim) (fun δ M hP => ?_)
  · simp only [wRng1, wCons, wNil, wC, as1, asInt]
    exact ⟨⟨by decide, by decide⟩, q'⟩
  · exact ⟨us4, [.lst (got0 r lot), .lst (got0 r lot)], got0 r lot, .o 1, .o 2, none, none, none, none, rfl, rfl, hu4.mono (by omega), fun _ _ => rfl, fun _ _ => rfl, by show 3 ≤ _; omega, got0_fl O.len, fun h => absurd h (by omega)⟩
  · obtain ⟨us, ex, gs, c7, c8, y9, y10, y11, y12, rfl, rfl, hu, h7, h8, hgl, hgf, _⟩ := hP
    have hx3 : i < 3 := by have := (List.getElem?_eq_some_iff.mp hx).1; rw [rg_len] at this; exact this
    have hlp : 1 ≤ (lot.map Dt.int).length := by rw [List.length_map]; exact List.length_pos_iff.mpr O.ne
    have hl1 : (lot.map Dt.int).length ≤ 1000 := by rw [List.length_map]; omega
    simp only [gN, wSeq, wSet, wTup, wCallU, asU, wCons, wNil, wVar, asVs, allV, Option.map_some, List.set_cons_zero, List.set_cons_succ, List.getElem?_cons_zero, List.getElem?_cons_succ, List.length_cons, List.length_nil, List.cons_append, List.nil_append, Nat.reduceAdd]
    refine ⟨(n + 300 + 3 * i, lot.map .int, tI lot), ⟨rfl, .inr rfl, hu, by dsimp only; omega, hlp, hl1⟩, ?_⟩
    rintro us5 _ ⟨hu5, hd5⟩
    obtain ⟨a, ha, rfl⟩ := List.mem_map.mp hd5
    clear hd5
    dsimp only at hu5
    refine ⟨(n + 300 + 3 * i + 1, lot.map .int, tI lot), ⟨rfl, .inr rfl, hu5, by dsimp only; omega, hlp, hl1⟩, ?_⟩
    rintro us6 _ ⟨hu6, hd6⟩
    obtain ⟨b, hb, rfl⟩ := List.mem_map.mp hd6
    clear hd6
    dsimp only at hu6
    refine ⟨by simp, ?_⟩
    simp only [wCall, asVs, allV, Option.map_some, List.set_cons_zero, List.set_cons_succ, List.getElem?_cons_zero, List.getElem?_cons_succ]
    obtain ⟨l1, l2, l3⟩ := ll_facts hm5
    refine ⟨m, ⟨rfl, hm5⟩, (n + 300 + 3 * i + 1 + 1, (llotsM m).map tI, _), ⟨rfl, .inl rfl, hu6, by dsimp only; omega, ?_, by dsimp only; rw [List.length_map]; omega⟩, ?_⟩
    · dsimp only
      rw [List.length_map]
      exact List.length_pos_of_mem (l2 hm2)
    rintro us7 _ ⟨hu7, hd7⟩
    obtain ⟨t, ht, rfl⟩ := List.mem_map.mp hd7
    clear hd7
    dsimp only at hu7
    simp only [wOp, wLst, wCall, wWeak, oIx, oCat, contS, asInt, wC, wCons, wNil, wVar, asVs, allV, Option.map_some, List.set_cons_zero, List.set_cons_succ, List.getElem?_cons_zero, List.getElem?_cons_succ]
    refine ⟨(r, lot, ruleT r, some (a, b)), ⟨rfl, .inl rfl, S, ha, hb⟩, ?_⟩
    intro d hd
    dsimp only [heardP] at hd
    subst hd
    refine ⟨.int a, rfl, .int b, rfl, ?_⟩
    try dsimp only
    refine ⟨(r, lot, a, b, t, ruleL r), ⟨rfl, .inr rfl, S, pk_nd hm5 hpk, O.ne, by have := (l3 t ht).2.1; dsimp only; omega⟩, ?_⟩
    try dsimp only
    refine ⟨by simp, ?_⟩
    simp only [h7]
    refine ⟨by show gs.length + 2 ≤ 1000; omega, ?_⟩
    refine shows_w O rfl rfl rfl rfl ?_
    refine ⟨.int a, rfl, .int b, rfl, ?_⟩
    refine ⟨(r, lot, a, b), ⟨rfl, S⟩, ?_⟩
    simp only [allV, Option.map_some]
    refine ⟨by simp, ?_⟩
    simp only [h8]
    refine ⟨by show gs.length + 2 ≤ 1000; omega, ?_⟩
    rw [shM_eq O]
    refine hnx _ _ ⟨us7, ex, gs ++ [(leastM (shownM r lot a b)).getD cantD, .bl (showsM r lot a b t)], _, _, _, _, _, _, rfl, rfl, hu7.mono (by omega), fun _ _ => rfl, fun _ _ => rfl, ?_, fun g hg => ?_, fun _ => ⟨rfl, rfl⟩⟩
    · rw [List.length_append]; show gs.length + 2 ≤ _; omega
    · rcases List.mem_append.mp hg with hg | hg
      · exact hgf g hg
      · rcases List.mem_cons.mp hg with rfl | hg
        · exact least_fl S
        · rw [List.mem_singleton.mp hg]
          trivial
  · obtain ⟨us, ex, gs, c7, c8, y9, y10, y11, y12, rfl, rfl, hu, _, _, hgl, hgf, h78⟩ := hP
    rw [rg_len] at hu hgl h78
    obtain ⟨rfl, rfl⟩ := h78 (by decide)
    simp only [wSeq, wIfS, wNot, wTest, wCall, wCons, wNil, wVar, asVs, allV, Option.map_some, List.set_cons_zero, List.set_cons_succ, List.getElem?_cons_zero, List.getElem?_cons_succ]
    refine ⟨(.lst gs, .lst gs, true), ⟨rfl, smN_refl 5 _ (fl_lst (by omega) hgf)⟩, ?_⟩
    simp only [asBl, Bool.not_true]
    refine (if_neg Bool.false_ne_true).mpr ?_
    simp only [wNext, wSeq, wSet]
    have hmf : ∀ l ∈ llotsM m, l.length ≤ 6 := fun l hl => ((ll_facts hm5).2.2 l hl).2.1
    refine lcF (xs := llotsM m) tI (lwovM r) tI (fun Q' q' => ?_) (by have := (ll_facts hm5).1; omega) (fun l hl A B hA hB => ?_) ?_
    · simp only [wSeqI, wCall, wCons, wNil, wVar, asVs, allV, Option.map_some, List.set_cons_zero, List.set_cons_succ, List.getElem?_cons_zero, List.getElem?_cons_succ]
      exact ⟨m, ⟨rfl, hm5⟩, q'⟩
    · simp only [gN, wipeD, wTest, wCall, wWeak, wCons, wNil, wVar, asVs, allV, Option.map_some, asV, asBl, List.set_cons_zero, List.set_cons_succ, List.getElem?_cons_zero, List.getElem?_cons_succ]
      refine ⟨(r, l), ⟨rfl, S, by have := hmf l hl; dsimp only; omega, ll_in7 hm5 hl⟩, ?_⟩
      dsimp only
      cases hw : lwovM r l with
      | true => exact (if_pos rfl).mpr (hA hw)
      | false => exact (if_neg Bool.false_ne_true).mpr (hB hw)
    have ek : (llotsM m).filter (lwovM r) = knitM m r := rfl
    rw [ek]
    have hkl : (knitM m r).length ≤ 40 := Nat.le_trans (List.length_filter_le _ _) (ll_facts hm5).1
    have hkf : flD 4 (.lst ((knitM m r).map tI)) := fl_lm (by omega) fun l hl => fl_tI (n := 1) (by have := hmf l (List.mem_filter.mp hl).1; omega)
    simp only [wSeq, wIfS, wNot, wTest, wCall, wWeak, wLst, wOp, wCons, wNil, wVar, asVs, allV, Option.map_some, List.set_cons_zero, List.set_cons_succ, List.getElem?_cons_zero, List.getElem?_cons_succ]
    refine ⟨(m, r, ruleL r), ⟨rfl, .inr rfl, S, pk_tops hm2 hm5 hpk, hm5⟩, ?_⟩
    dsimp only
    rw [knit_eq hm2 hm5 hpk]
    refine ⟨(r, lot, ruleT r), ⟨rfl, .inl rfl, S, O.in7⟩, ?_⟩
    dsimp only
    refine ⟨by simp, ?_⟩
    simp only [oInT]
    refine ⟨lot, knitM m r, rfl, rfl, ?_⟩
    rw [if_neg Bool.false_ne_true, knit_mem O]
    simp only [allV, Option.map_some]
    refine ⟨by simp, ?_⟩
    refine ⟨(.lst [.lst ((knitM m r).map tI), .bl (wovM r lot)], .lst [.lst ((knitM m r).map tI), .bl (wovM r lot)], true), ⟨rfl, smN_refl 5 _ (fl_lst (by simp) fun e he => ?_)⟩, ?_⟩
    · rcases List.mem_cons.mp he with rfl | he
      · exact hkf
      · rw [List.mem_singleton.mp he]
        trivial
    simp only [asBl, Bool.not_true]
    refine (if_neg Bool.false_ne_true).mpr ?_
    simp only [wNext, wSeq, wSet]
    refine if_knit O rfl rfl rfl hu (by omega) fun us8 lo hu8 O2 => ?_
    have hl2 := O2.len
    have hn2 : lo.length ≤ 7 := by omega
    simp only [wCall, wC, wCons, wNil, wVar, asVs, allV, Option.map_some, List.set_cons_zero, List.set_cons_succ, List.getElem?_cons_zero, List.getElem?_cons_succ]
    refine ⟨(r, lo, ruleL r, none), ⟨rfl, .inr rfl, S, ⟨.inr rfl, S, pk_nd hm5 hpk, pk_in hpk, O2.in7, O2.srt, by dsimp only; omega, fun h1 => pk_full hpk O2.lt h1⟩⟩, ?_⟩
    intro d hd
    dsimp only [heardP] at hd
    simp only [wIfS, wTest, wOp, oInT, wVar, List.set_cons_zero, List.set_cons_succ, List.getElem?_cons_zero, List.getElem?_cons_succ]
    refine ⟨lo, knitM m r, rfl, rfl, ?_⟩
    simp only [if_true, knit_mem O2]
    have hlo1 : 1 ≤ lo.length := List.length_pos_iff.mpr O2.ne
    cases hw : wovM r lo with
    | false =>
      rw [hw] at hd
      have hd := (if_neg Bool.false_ne_true).mp hd
      subst hd
      refine (if_pos rfl).mpr ?_
      simp only [wRet, wCall, wWeak, wLst, wTup, wOp, oRepT, wCB, oLen, as1, contS, contT, asInt, wC, wCons, wNil, wVar, asVs, allV, Option.map_some, List.set_cons_zero, List.set_cons_succ, List.getElem?_cons_zero, List.getElem?_cons_succ]
      refine ⟨by simp, ⟨by rw [List.length_map]; omega, by rw [List.length_map]; omega, by simp, by simp⟩, ?_⟩
      refine ⟨(r, lo, List.replicate lo.length lo, ruleT r), ⟨?_, .inl rfl, S, pk_nd hm5 hpk, O2.ne, O2.in7, hn2, by dsimp only; rw [List.length_replicate]; omega, fun t ht => by rw [List.eq_of_mem_replicate ht]; omega⟩, ?_⟩
      · dsimp only
        rw [rep_flat1, List.map_replicate, List.length_map, Int.toNat_natCast]
      have hwv : isWvM r lo (List.replicate lo.length lo) = false := Bool.eq_false_iff.mpr fun h => by rw [isWv_wov O2 h] at hw; cases hw
      dsimp only
      rw [hwv]
      refine ⟨by simp, by simp, ?_⟩
      refine ⟨(.lst [.str "can not", .bl false], .lst [.str "can not", .bl false], true), ⟨rfl, rfl⟩, ?_⟩
      simp only [endU, retD, asM0, List.set_cons_zero, List.set_cons_succ, List.getElem?_cons_zero, List.getElem?_cons_succ]
      exact q _ _ rfl
    | true =>
      rw [hw] at hd
      obtain ⟨ws, rfl, G⟩ := (if_pos rfl).mp hd
      refine (if_neg Bool.false_ne_true).mpr ?_
      have hws := ws_small S G
      have hwl : ws.length ≤ 6 := by rw [G.len]; exact hl2
      simp only [wNext, wSeq, wIfS, wNot, wTest, wCall, wWeak, wCons, wNil, wVar, asVs, allV, Option.map_some, List.set_cons_zero, List.set_cons_succ, List.getElem?_cons_zero, List.getElem?_cons_succ]
      refine ⟨(r, lo, ws), ⟨rfl, S, hn2, O2.in7, by dsimp only; omega, fun t ht => by have := hws t ht; omega⟩, ?_⟩
      dsimp only
      rw [good_ties O2 G]
      refine (if_neg Bool.false_ne_true).mpr ?_
      simp only [wSet, wOp, wLst, wLc, wRng1, wC, as1, asInt, wCons, wNil, wVar, asVs, allV, Option.map_some, List.set_cons_zero, List.set_cons_succ, List.getElem?_cons_zero, List.getElem?_cons_succ]
      refine ⟨by simp, ⟨by decide, by decide⟩, by decide, fun i acc M => ∃ us, M = .lst us :: ex ∧ UOk (n + 400 + 14 * i) us ∧ acc.length = i ∧ ∀ d ∈ acc, Thg lo d, ⟨us8, rfl, hu8.mono (by omega), rfl, by simp⟩, fun i d acc M he hP => ?_, fun acc M hP => ?_⟩
      · obtain ⟨us9, rfl, hu9, hal, hac⟩ := hP
        have hi : i < 3 := (List.getElem?_eq_some_iff.mp he).1
        simp only [gN, wipeD, wYes, wCallU, asU, wWeak, wCons, wNil, wVar, asVs, allV, Option.map_some, List.set_cons_zero, List.set_cons_succ, List.getElem?_cons_zero, List.getElem?_cons_succ]
        refine (if_pos trivial).mpr ?_
        refine ⟨(n + 400 + 14 * i, r, lo, ws), ⟨rfl, hu9, by dsimp only; omega, S, by dsimp only; omega⟩, ?_⟩
        rintro us10 _ ⟨hu10, ts, rfl, h1, h2⟩
        dsimp only at hu10 h1 h2
        refine ⟨us10, rfl, hu10.mono (by omega), by rw [List.length_append, hal]; rfl, fun d hd => ?_⟩
        rcases List.mem_append.mp hd with hd | hd
        · exact hac d hd
        · rw [List.mem_singleton.mp hd]
          exact ⟨ts, rfl, h1.trans G.len, fun t ht => bent_small S hl2 hws (h2 t ht)⟩
      · obtain ⟨us9, rfl, hu9, hal, hac⟩ := hP
        have hal : acc.length = 3 := hal
        obtain ⟨tss, e, htt⟩ := thgs (lot := lo) (ds := [.tup (ws.map tI)] ++ acc) fun d hd => by
          rcases List.mem_append.mp hd with hd | hd
          · rw [List.mem_singleton.mp hd]
            exact ⟨ws, rfl, G.len, hws⟩
          · exact hac d hd
        have htl : tss.length = 4 := by
          have := congrArg List.length e
          rw [List.length_append, List.length_map, hal] at this
          simpa using this.symm
        simp only [oCat, contL]
        refine ⟨by rw [hal]; show 1 + 3 ≤ 1000; decide, ?_⟩
        rw [e]
        simp only [wRet, wCall, wCons, wNil]
        refine lcM (xs := tss) (fun ts => .tup (ts.map tI)) (fun ts => .bl (tiesM r lo ts)) (fun Q' q' => ?_) (by omega) (fun ts hts A hA => ?_) ?_
        · simp only [wSeqI, wVar, asSeq, List.set_cons_zero, List.set_cons_succ, List.getElem?_cons_zero, List.getElem?_cons_succ]
          exact q'
        · simp only [gN, wipeD, wCall, wWeak, wCons, wNil, wVar, asVs, allV, Option.map_some, asV, List.set_cons_zero, List.set_cons_succ, List.getElem?_cons_zero, List.getElem?_cons_succ]
          obtain ⟨g1, g2⟩ := htt ts hts
          refine ⟨(r, lo, ts, ruleT r), ⟨rfl, .inl rfl, S, pk_nd hm5 hpk, O2.ne, O2.in7, hn2, by dsimp only; omega, fun t ht => by have := g2 t ht; omega⟩, ?_⟩
          dsimp only
          rw [isWv_ties O2 (wov_len hw)]
          exact hA
        refine lcM (xs := tss) (fun ts => .tup (ts.map tI)) (fun ts => .bl (tiesM r lo ts)) (fun Q' q' => ?_) (by omega) (fun ts hts A hA => ?_) ?_
        · simp only [wSeqI, wVar, asSeq, List.set_cons_zero, List.set_cons_succ, List.getElem?_cons_zero, List.getElem?_cons_succ]
          exact q'
        · simp only [gN, wipeD, wCall, wWeak, wCons, wNil, wVar, asVs, allV, Option.map_some, asV, List.set_cons_zero, List.set_cons_succ, List.getElem?_cons_zero, List.getElem?_cons_succ]
          obtain ⟨g1, g2⟩ := htt ts hts
          refine ⟨(r, lo, ts), ⟨rfl, S, hn2, O2.in7, by dsimp only; omega, fun t ht => by have := g2 t ht; omega⟩, ?_⟩
          exact hA
        simp only [asVs, allV, Option.map_some]
        refine ⟨(.lst (tss.map fun ts => .bl (tiesM r lo ts)), .lst (tss.map fun ts => .bl (tiesM r lo ts)), true), ⟨rfl, smN_refl 5 _ (fl_lm (by omega) fun _ _ => trivial)⟩, ?_⟩
        simp only [endU, retD, asM0, List.set_cons_zero, List.set_cons_succ, List.getElem?_cons_zero, List.getElem?_cons_succ]
        exact q _ _ rfl

end
end VL
set_option Elab.async false
set_option linter.all false
set_option maxRecDepth 100000
set_option maxHeartbeats 4000000
/-! VL44: the law: box, by hand. -/
namespace VL
open PySem PySem.Spec PyProof.Rows L2 VLC
section
variable {P : Program} {w : World} {K : PySem.W.Frag} {mg : Str → Option Value} {base : Heap}
abbrev s_box : Stmt := topS 28
theorem sc_box : FnScope ["_law_script", "_law_k", "_law_cell"] ["_law_script", "_law_k"] (defScope s_box) := ⟨rfl, rfl, rfl, by decide +kernel, rfl, by decide +kernel, by decide +kernel⟩

abbrev s_hand : Stmt := topS 48
theorem sc_hand : FnScope ["_law_turn_here", "_law_either_here", "_law_all_so", "_law_got", "_law_goal"] [] (defScope s_hand) := ⟨rfl, rfl, rfl, by decide +kernel, rfl, by decide +kernel, by decide +kernel⟩


section
variable {X : Cx} {e : Expr} {es : List Expr} {ws : WA} {pos : Pos} {k : Nat} {x : Str} {p : Pos} {ps : List Str}
def oAbs : WC := fun rs M Q => as1 rs fun r => asInt r fun i => Q (.v (.int (if i < 0 then -i else i))) M
theorem vc_abs : VCall X (.builtin "abs") oAbs := by
  refine vcall1 (o := fun r M Q => asInt r fun i => Q (.v (.int (if i < 0 then -i else i))) M) call_abs (fun C ad δ M τ σ H x rr Q r q => ?_) fun rs M Q Q' hq q => asInt_mono (fun ds => hq _ _) q
  obtain ⟨i, rfl, q⟩ := asInt_ok q
  have e1 := rel_int (v := x) ⟨ad, r⟩ List.mem_cons_self
  subst e1
  exact ⟨i, rfl, q _ H (Rel.of1 r (.int _))⟩
def oIntB : WC := fun rs M Q => as1 rs fun r => asBl r fun b => Q (.v (.int (if b then 1 else 0))) M
theorem vc_intB : VCall X (.type "int") oIntB := by
  refine vcall1 (o := fun r M Q => asBl r fun b => Q (.v (.int (if b then 1 else 0))) M) call_int1 (fun C ad δ M τ σ H x rr Q r q => ?_) fun rs M Q Q' hq q => asBl_mono (fun ds => hq _ _) q
  obtain ⟨i, rfl, q⟩ := asBl_ok q
  have e1 := rel_bl (v := x) ⟨ad, r⟩
  subst e1
  exact .inr ⟨i, rfl, q _ H (Rel.of1 r (.int _))⟩
theorem vo_pow : VOp X (binaryOp .Pow) (oI CPow fun i j => i ^ j.toNat) := vop_int op_pow
theorem v_cXR {Cc : Addr} {α : Type} {pre : α → List Dt → Prop} {can : α → Bool} {post : α → Dt → Prop} (C : Cl X.prog X.w X.K X.mg X.base (L2.CX X.prog X.w) k x ps (spX Cc (fnR pre can post))) (hr : Room k X.A) (ha : VA X (e :: es) ws) (hg : Gl X x := by rfl)
    (hdb : (x == ("__debug__" : Str)) = false := by decide) (hst : starEach (e :: es) X.env = (false, eval e X.env) :: starEach es X.env := by rfl) (hpl : (backTo pos (starEach es X.env)).any (·.1) = false := by rfl) : VE X (.Call (.Name x p) (e :: es) [] pos) (wCallX (fnR pre can post) ws) := by
  obtain ⟨g, fd, F, hm, hk, hb⟩ := C.ex
  exact v_callX fnR_mono' F hr hm hk hb ha hg hdb hst hpl
end

abbrev spBox : Spec := fnP (fun (n : Int) ds => ds = [lI [n], .int 0]) fun _ d => ∃ us, d = .lst us ∧ UOk 0 us
theorem ok_box (D : Df K mg "_law_box" s_box ["_law_script", "_law_k"]) (B : Bs mg) : Cl P w K mg base CX0 1 "_law_box" ["_law_script", "_law_k"] (spV spBox) := by
  refine v_defP D sc_box (fun y ds h => by rw [h]; rfl) fun fa cdv A outer s H E hr => ?_
  have Sc := sc_box

  refine ⟨_, (vs_cons (v_set (i := 2) Sc.nd (v_if (vt_cmp vo_lt (vv 1) (v_b vc_len B.len (va_cons (vv 0) va_nil)) (by rfl)) (v_ix (vv 0) (vv 1)) v_int))
    (vs_one (v_ret (v_lst (va_cons (v_op vo_mul (v_b vc_abs B.abs (va_cons (vv 2) va_nil)) (v_ty vc_intB B.int (va_cons (v_cmp vo_ge (v_b vc_abs B.abs (va_cons (vv 2) va_nil)) (v_op vo_pow v_int v_int) (by rfl)) va_nil))) (va_cons (v_op vo_add (v_op vo_add (v_op vo_mod (v_ty vc_int B.int (va_cons (vv 2) va_nil)) v_int) (v_op vo_mul v_int (vv 1))) v_int) (va_cons v_int va_nil))))))), ?_⟩
  rintro n _ Q rfl q
  simp only [wSeq, wSet, wIf, wTest, wOp, oB0, oIx, oLen, wCB, wVar, wC, wCons, wNil, as1, contS, asInt, asBl, slots0, List.map_cons, List.map_nil, List.length_cons, List.length_nil, Nat.reduceSub, Nat.reduceAdd, List.replicate_succ, List.replicate_zero, List.cons_append, List.nil_append, List.getElem?_cons_zero, List.getElem?_cons_succ, List.set_cons_zero, List.set_cons_succ, List.getElem?_cons_zero, List.getElem?_cons_succ]
  refine (if_pos (by decide)).mpr ⟨.int n, rfl, ?_⟩
  simp only [wRet, wLst, wOp, oB0, oI, oI0, oAbs, oIntB, oInt1, wCB, wVar, wC, wCons, wNil, as1, contS, asInt, asBl, asVs, allV, Option.map_some, endV, retD, slots0, List.map_cons, List.map_nil, List.length_cons, List.length_nil, Nat.reduceSub, Nat.reduceAdd, List.replicate_succ, List.replicate_zero, List.cons_append, List.nil_append, List.getElem?_cons_zero, List.getElem?_cons_succ, List.set_cons_zero, List.set_cons_succ, List.getElem?_cons_zero, List.getElem?_cons_succ]
  have hf : ∀ b : Bool, (0 : Int) ≤ (if b = true then 1 else 0) ∧ (if b = true then (1 : Int) else 0) ≤ 1 := fun b => by cases b <;> decide
  have hf1 := hf (decide ((10 : Int) ^ Int.toNat 18 ≤ if n < 0 then -n else n))
  refine ⟨⟨by decide, by decide, by decide⟩, .inr ⟨Int.lt_of_lt_of_le (by decide) hf1.1, Int.lt_of_le_of_lt hf1.2 (by decide)⟩, by decide, .inr ⟨by decide, by decide⟩, by decide, ?_⟩
  exact q _ ⟨_, rfl, _, _, 0, rfl, Int.mul_nonneg (by split <;> omega) hf1.1, ⟨by omega, by omega⟩, by decide, by decide⟩


abbrev spHand : Spec := fnS (fun (_ : Unit) ds => ds = []) fun _ => .bl true
theorem ok_hand {C : Addr} (D : Df K mg "_law_by_hand_right" s_hand []) (B : Bs mg) (C__law_turn : Cl P w K mg base CX0 1 "_law_turn" [] (spV spTurn)) (C__law_either : Cl P w K mg base CX0 1 "_law_either" [] (spV spEither)) (C_leads_in : Cl P w K mg base CX0 6 "leads_in" ["rule", "lot"] (spV spLeads)) (C_lead_shown : Cl P w K mg base (L2.CX P w) 6 "lead_shown" ["rule", "lot", "one", "other"] (spShown C))
    (C_woven_lots : Cl P w K mg base CX0 8 "woven_lots" ["rule"] (spV spWov)) (C_weave_of : Cl P w K mg base (L2.CX P w) 8 "weave_of" ["rule", "lot"] (spX C (fnR (fun (x : Rl × List Int × Dt) ds => ds = [x.2.2, tI x.2.1] ∧ RuleD x.1 x.2.2 ∧ SmallR x.1 ∧ KeysNd x.1 ∧ PickIn x.1 ∧ In7 x.2.1 ∧ Srt x.2.1 ∧ x.2.1.length ≤ 7 ∧ (1 < x.2.1.length → ∃ y ∈ x.1, y.1 = x.2.1)) (fun x => wovM x.1 x.2.1) (fun x d => ∃ ws, d = .tup (ws.map tI) ∧ GoodWv x.1 x.2.1 ws))))
    (C_reached : Cl P w K mg base CX0 7 "reached" ["rule", "lot", "area"] (spV spReached)) (C__law_same : Cl P w K mg base CX0 5 "_law_same" ["_law_got", "_law_goal"] (spV (spSame 5))) (C_is_weave : Cl P w K mg base CX0 6 "is_weave" ["rule", "lot", "thing"] (spV spIsWeave)) : Cl P w K mg base CX0 9 "_law_by_hand_right" [] (spV spHand) := by
  refine v_def D sc_hand (fun y ds h => by rw [h]; rfl) fun fa cdv A outer s H E hr => ?_
  have Sc := sc_hand

  refine ⟨_, (vs_cons (v_par3 (i := 0) (j := 1) (l := 2) rfl Sc.nd (va_cons (v_c0 C__law_turn (hr.mono (by omega))) (va_cons (v_c0 C__law_either (hr.mono (by omega))) (va_cons (v_tup (va_cons v_int (va_cons v_int (va_cons v_int va_nil)))) va_nil))))
    (vs_cons (v_set (i := 3) Sc.nd (v_lst (va_cons (v_c C_leads_in (hr.mono (by omega)) (va_cons (vv 0) (va_cons (vv 2) va_nil))) (va_cons (v_cX C_lead_shown (hr.mono (by omega)) (va_cons (vv 0) (va_cons (vv 2) (va_cons v_int (va_cons v_int va_nil))))) (va_cons (v_c C_woven_lots (hr.mono (by omega)) (va_cons (vv 1) va_nil)) (va_cons (v_cXR C_weave_of (hr.mono (by omega)) (va_cons (vv 1) (va_cons (v_tup (va_cons v_int (va_cons v_int va_nil))) va_nil))) (va_cons (v_c C_reached (hr.mono (by omega)) (va_cons (vv 1) (va_cons (vv 2) (va_cons v_int va_nil)))) va_nil)))))))
    (vs_cons (v_set (i := 4) Sc.nd (v_lst (va_cons (v_tup (va_cons (v_tup (va_cons v_int (va_cons v_int va_nil))) (va_cons (v_tup (va_cons v_int (va_cons v_int va_nil))) (va_cons (v_tup (va_cons v_int (va_cons v_int va_nil))) (va_cons (v_tup (va_cons v_int (va_cons v_int va_nil))) va_nil))))) (va_cons (vv 2) (va_cons (v_lst (va_cons (v_tup (va_cons v_int (va_cons v_int va_nil))) va_nil)) (va_cons (v_tup (va_cons (v_tup (va_cons v_int (va_cons v_int va_nil))) (va_cons (v_tup (va_cons v_int (va_cons v_int va_nil))) va_nil))) (va_cons (v_tup (va_cons v_int va_nil)) va_nil)))))))
    (vs_one (v_ret (v_and (v_c C__law_same (hr.mono (by omega)) (va_cons (vv 3) (va_cons (vv 4) va_nil))) (v_one (v_cmp vo_isB (v_c C_is_weave (hr.mono (by omega)) (va_cons (vv 0) (va_cons (vv 2) (va_cons (v_tup (va_cons (vv 2) (va_cons (v_tup (va_cons v_int (va_cons v_int va_nil))) (va_cons (v_tup (va_cons v_int (va_cons v_int va_nil))) va_nil)))) va_nil)))) v_bl (by rfl))))))))), ?_⟩
  rintro _ _ Q rfl q
  simp only [wSeq, wPar3, wCall, wTup, wCons, wNil, wVar, wC, as3, asVs, allV, Option.map_some, slots0, List.map_cons, List.map_nil, List.length_cons, List.length_nil, Nat.reduceSub, Nat.reduceAdd, List.replicate_succ, List.replicate_zero, List.cons_append, List.nil_append, List.getElem?_cons_zero, List.getElem?_cons_succ, List.set_cons_zero, List.set_cons_succ, List.getElem?_cons_zero, List.getElem?_cons_succ]
  refine ⟨(), rfl, (), rfl, by decide, ?_⟩
  simp only [wSet, wLst, wTup, wCall, wCallX, wCons, wNil, wVar, wC, asVs, allV, Option.map_some, slots0, List.map_cons, List.map_nil, List.length_cons, List.length_nil, Nat.reduceSub, Nat.reduceAdd, List.replicate_succ, List.replicate_zero, List.cons_append, List.nil_append, List.getElem?_cons_zero, List.getElem?_cons_succ, List.set_cons_zero, List.set_cons_succ, List.getElem?_cons_zero, List.getElem?_cons_succ]
  refine ⟨(turnR, [0, 1, 2], ruleT turnR, tI [0, 1, 2]), ⟨rfl, .inl rfl, turn_small, .inl rfl⟩, ?_⟩
  dsimp only
  rw [turn_leads]
  refine ⟨(turnR, [0, 1, 2], 2, 0, ruleT turnR), ⟨rfl, .inl rfl, turn_small, by decide, by decide⟩, .inl ⟨_, turn_least, ?_⟩⟩
  refine ⟨(3, eitherR, ruleT eitherR), ⟨rfl, .inl rfl, either_small, either_tops, by decide⟩, ?_⟩
  dsimp only
  rw [either_lots]
  refine ⟨by decide, (eitherR, [0, 1], ruleT eitherR), ⟨rfl, .inl rfl, either_small, either_nd, either_in, by unfold In7; decide, by unfold Srt; decide, by decide, fun _ => ⟨([0, 1], [0, 1]), by decide, rfl⟩⟩, .inl ⟨either_woven, ?_⟩⟩
  rintro _ ⟨ws, rfl, G⟩
  dsimp only at G
  rw [either_weave G]
  refine ⟨(eitherR, [0, 1, 2], 2, ruleT eitherR), ⟨rfl, .inl rfl, either_small, by decide, by unfold In7; decide⟩, ?_⟩
  dsimp only
  rw [either_reached]
  refine ⟨by decide, ?_⟩
  simp only [wSeq, wSet, wRet, wLst, wTup, wAndV, wOp, oIsB, wCall, wCons, wNil, wVar, wC, asBl, asVs, allV, Option.map_some, slots0, List.map_cons, List.map_nil, List.length_cons, List.length_nil, Nat.reduceSub, Nat.reduceAdd, List.replicate_succ, List.replicate_zero, List.cons_append, List.nil_append, List.getElem?_cons_zero, List.getElem?_cons_succ, List.set_cons_zero, List.set_cons_succ, List.getElem?_cons_zero, List.getElem?_cons_succ]
  refine ⟨by decide, by decide, by decide, by decide, by decide, by decide, by decide, by decide, by decide, by decide, by decide, by decide, (_, _, true), ⟨rfl, by rfl⟩, ?_⟩
  dsimp only
  refine (if_pos rfl).mpr ⟨by decide, by decide, by decide, (turnR, [0, 1, 2], [[0, 1, 2], [0, 1], [1, 2]], ruleT turnR), ⟨rfl, .inl rfl, turn_small, turn_nd, by decide, by unfold In7; decide, by decide, by decide, by decide⟩, ?_⟩
  dsimp only
  rw [turn_weave]
  simp only [endV, retD]
  exact q

end
end VL
set_option Elab.async false
set_option linter.all false
set_option maxRecDepth 100000
set_option maxHeartbeats 4000000
/-! VL45: the law: cells, the law itself (over HandS, the script being no data). -/
namespace VL
open PySem PySem.Spec PyProof.Rows L2 VLC
section
variable {P : Program} {w : World} {K : PySem.W.Frag} {mg : Str → Option Value} {base : Heap}
abbrev s_cells : Stmt := topS 30
theorem sc_cells : FnScope ["_law_script", "_law_top", "_law_cells_here", "_law_k", "_law_cell", "_law_at_so"] ["_law_script", "_law_top"] (defScope s_cells) := ⟨rfl, rfl, rfl, by decide +kernel, rfl, by decide +kernel, by decide +kernel⟩
abbrev s_law : Stmt := topS 49
theorem sc_law : FnScope ["_law_script"] ["_law_script"] (defScope s_law) := ⟨rfl, rfl, rfl, by decide +kernel, rfl, by decide +kernel, by decide +kernel⟩
/-- cells of one number -/
def spCells (K : PySem.W.Frag) : Sp := fun vs H Q _ => ∃ (a : Addr) (ns : List Int), vs = [.ref a, .int 1] ∧ SqL K H a (ns.map V.int) ∧ ns.length ≤ 63 ∧ ∀ H' p (n0 : Int), H' p = some (.lst [.int n0]) → Q (.ref p) H'
theorem cut_ints (ns : List Int) (lo hi : Option Int) : ∃ ks : List Int, cutV (ns.map V.int) lo hi = ks.map V.int ∧ ks.length ≤ ns.length := by
  unfold cutV
  rw [← List.map_drop, ← List.map_take]
  exact ⟨_, rfl, by rw [List.length_take, List.length_drop]; omega⟩
theorem cut_one1 (ns : List Int) : cutV (ns.map V.int) none (some 1) = (ns.take 1).map V.int := by
  cases ns with
  | nil => rfl
  | cons x r =>
    unfold cutV
    rw [← List.map_drop, ← List.map_take]
    congr 1
theorem same_up {H : Hp} {p : Addr} {o : HO} (hp : H p = none) : Same H (upd H p o) := fun b x e => by rw [upd_ne (ne_of_none e hp)]; exact e
theorem first_w {a : Addr} {ns : List Int} {σ : St} {H : Hp} {Q : VK} (h0 : σ[0]? = some (some (.ref a))) (h1 : σ[1]? = some (some (.int 1))) (hS : SqL K H a (ns.map V.int)) (q : ∀ c (n0 : Int) H1, Same H H1 → H1 c = some (.lst [.int n0]) → Q (.ref c) H1) :
    tOrT K (tCB (fun xs H Q => ∃ p ys, xs = [.ref p] ∧ (SqL K H p ys ∨ SqT K H p ys) ∧ ∀ l, H l = none → Q (.ref l) (upd H l (.lst ys))) (tCons (tSl (rSlL K) (tVar 0) tNoPart (tPart (tVar 1))) tNil)) (tLst (tCons (tC (.int 0)) tNil)) σ H Q := by
  refine ⟨.ref a, h0, .int 1, h1, 1, rfl, a, _, rfl, hS, fun p hp => ?_⟩
  refine ⟨p, _, rfl, .inl (.inl (.inl upd_same)), fun l hl => ?_⟩
  rw [cut_one1] at hl ⊢
  have s1 : Same H (upd H p (.lst ((ns.take 1).map V.int))) := same_up hp
  have s2 : Same H (upd (upd H p (.lst ((ns.take 1).map V.int))) l (.lst ((ns.take 1).map V.int))) := s1.trans (same_up hl)
  refine ⟨_, .inl ⟨_, .inl (.inl upd_same), rfl⟩, ?_⟩
  cases ns with
  | nil =>
    refine (if_neg (by simp)).mpr ?_
    refine ⟨by show 1 ≤ sizeLine; decide, fun c hc => q c 0 _ (s2.trans (same_up hc)) upd_same⟩
  | cons n ns =>
    refine (if_pos (by simp)).mpr ?_
    exact q l n _ s2 upd_same
theorem ok_cells (D : Df K mg "_law_cells" s_cells ["_law_script", "_law_top"]) (B : Bs mg) : Cl P w K mg base CX0 1 "_law_cells" ["_law_script", "_law_top"] (spCells K) := by
  obtain ⟨g, fd, F, hm, hk, hb⟩ := D.ex
  refine ⟨g, fd, ?_, hm, hk, hb⟩
  refine F.ok sc_cells (fun vs H Q E h => ?_) (fun cdv A outer s H vs Q E hr h => ?_)
  · obtain ⟨a, ns, rfl, _⟩ := h
    rfl
  · obtain ⟨a, ns, rfl, hS, hlen, q⟩ := h
    refine ⟨_, pss_cons (ps_set (i := 2) sc_cells.nd rfl (.inl rfl) (pe_orT (pe_callTy call_list_of (by rfl) B.list (by decide +kernel) (pa_cons (pe_slice sl_list (pv 0) po_none (po_some (pv 1))) pa_nil)) (pe_one (pe_lst (pa_cons pe_int pa_nil)))))
      (pss_cons (ps_for PassesOwn.never rfl (pi_enum (by rfl) B.enumerate (pa_cons (pe_slice sl_list (pv 0) (po_some (pv 1)) (po_some pe_int)) pa_nil)) (pg_tup rfl (pgs_cons (pg_name (i := 3) sc_cells.nd rfl (.inl rfl)) (pgs_cons (pg_name (i := 4) sc_cells.nd rfl (.inl rfl)) pgs_nil)))
        (pss_cons (ps_set (i := 5) sc_cells.nd rfl (.inl rfl) (pe_op op_mod (pe_callTy call_int1 (by rfl) B.int (by decide +kernel) (pa_cons (pv 3) pa_nil)) (pv 1)))
        (pss_one (ps_asg (pe_op op_add (pe_ix ix_list (pv 2) (pv 5) (fun _ _ => rfl)) (pe_op op_mul (pv 4) (pe_op op_add (pv 3) pe_int))) (pg_sub (pv 2) (pv 5) set_list)))))
      (pss_one (ps_ret (pv 2)))), ?_⟩
    refine first_w rfl rfl hS fun c n0 H1 sm hc => ?_
    obtain ⟨ks, ek, ekl⟩ := cut_ints ns (some 1) (some 63)
    refine ⟨.ref a, rfl, .int 1, rfl, 1, rfl, 63, rfl, a, _, rfl, sm.seq hS, fun e he => ?_⟩
    rw [ek]
    have nec : e ≠ c := fun z => by rw [z, hc] at he; cases he
    refine ⟨e, _, rfl, .inl (.inl upd_same), ?_⟩
    refine for_it (walk_enum (xs := ks.map V.int)) (fun _ σ H => ∃ n y3 y4 y5, σ = [some (.ref a), some (.int 1), some (.ref c), y3, y4, y5] ∧ H c = some (.lst [.int n]) ∧ H e = some (.lst (ks.map V.int))) ?_ (fun i σ H _ ⟨_, _, _, _, _, _, h⟩ => .inl (.inl h)) (fun i x σ H2 H3 hi hP hy => ?_) (fun σ H2 hP => ?_)
    · exact ⟨n0, none, none, none, rfl, by rw [upd_ne nec.symm]; exact hc, upd_same⟩
    · obtain ⟨n, y3, y4, y5, rfl, h2c, h2e⟩ := hP
      obtain ⟨T, x1, x2, rfl, hT, rfl, g1, g2⟩ := hy
      rw [List.length_map] at hi
      have g1 : V.int (i : Nat) = x1 := Option.some.inj g1
      subst g1
      have g2 : (ks.map V.int)[i]? = some x2 := g2
      rw [List.getElem?_map, List.getElem?_eq_getElem hi] at g2
      have g2 : V.int ks[i] = x2 := Option.some.inj g2
      subst g2
      have h3c : (upd H2 T (.tup [.int (i : Nat), .int ks[i]])) c = some (.lst [.int n]) := by rw [upd_ne (ne_of_none h2c hT)]; exact h2c
      have h3e : (upd H2 T (.tup [.int (i : Nat), .int ks[i]])) e = some (.lst (ks.map V.int)) := by rw [upd_ne (ne_of_none h2e hT)]; exact h2e
      refine ⟨T, [_, _], rfl, .inl (.inl upd_same), rfl, _, [_], rfl, _, [], rfl, rfl, ?_⟩
      have hm1 : ((i : Nat) : Int) % 1 = 0 := Int.emod_one _
      refine ⟨.int (i : Nat), rfl, .inl ⟨_, rfl, .int 1, rfl, _, 1, rfl, rfl, (by decide : (0 : Int) < 1), ?_⟩⟩
      dsimp only
      rw [hm1]
      refine ⟨.ref c, rfl, .int 0, rfl, c, _, 0, .int n, rfl, rfl, .inl (.inl h3c), rfl, ?_⟩
      refine ⟨.int ks[i], rfl, .int (i : Nat), rfl, (i : Nat), 2, rfl, rfl, ?_⟩
      refine ⟨ks[i], (i : Nat) + 2, rfl, rfl, .inr ⟨by omega, by omega⟩, ?_⟩
      refine ⟨n, ks[i] * ((i : Nat) + 2), rfl, rfl, ?_⟩
      refine ⟨.ref c, rfl, .int 0, rfl, c, _, 0, 0, rfl, rfl, h3c, rfl, ?_⟩
      exact ⟨_, _, _, _, rfl, upd_same, by rw [upd_ne nec]; exact h3e⟩
    · obtain ⟨n, y3, y4, y5, rfl, h2c, h2e⟩ := hP
      exact ⟨.ref c, rfl, q _ _ n h2c⟩
def spLawE (K : PySem.W.Frag) : Sp := fun vs H Q _ => ∃ (a : Addr) (ns : List Int), vs = [.ref a] ∧ SqL K H a (ns.map V.int) ∧ ns.length ≤ 63 ∧ ∀ H', Q (.bl true) H'
theorem ok_law {g : Addr} {fd : FuncData} (F : Fun K "law" "law" s_law g fd) (C__law_by_hand_right : Cl P w K mg base CX0 9 "_law_by_hand_right" [] (spV spHand)) (C__law_right : Cl P w K mg base CX0 10 "_law_right" ["_law_urn"] (spU spRight)) (C__law_box : Cl P w K mg base CX0 1 "_law_box" ["_law_script", "_law_k"] (spV spBox))
    (C__law_cells : Cl P w K mg base CX0 1 "_law_cells" ["_law_script", "_law_top"] (spCells K)) : FnOk P w K mg base CX0 11 g fd ["_law_script"] (spLawE K) := by
  obtain ⟨g1, fd1, F1, hm1, hk1, hb1⟩ := C__law_by_hand_right.ex
  obtain ⟨g2, fd2, F2, hm2, hk2, hb2⟩ := C__law_right.ex
  obtain ⟨g3, fd3, F3, hm3, hk3, hb3⟩ := C__law_box.ex
  obtain ⟨g4, fd4, F4, hm4, hk4, hb4⟩ := C__law_cells.ex
  refine F.ok sc_law (fun vs H Q E h => ?_) (fun cdv A outer s H vs Q E hr h => ?_)
  · obtain ⟨a, ns, rfl, _⟩ := h
    rfl
  · obtain ⟨a, ns, rfl, hS, hlen, q⟩ := h
    have h9 := hr.mono (show 9 ≤ 10 by decide)
    have h1 := hr.mono (show 1 ≤ 10 by decide)
    refine ⟨_, pss_one (ps_ret (pe_and (pe_call0 F1 h9 (by rfl) hm1 hk1 hb1 .nil pass0) (pe_one (pe_call F2 hr (by rfl) hm2 hk2 hb2 .nil pass0 (pa_cons (pe_call F3 h1 (by rfl) hm3 hk3 hb3 .nil pass0 (pa_cons (pe_call F4 h1 (by rfl) hm4 hk4 hb4 .nil pass0 (pa_cons (pv 0) (pa_cons pe_int pa_nil))) (pa_cons pe_int pa_nil))) pa_nil))))), ?_⟩
    refine ⟨fun _ => False, [], .nil, fun _ h => h.elim, (), rfl, fun v H1 sm dv => ?_⟩
    cases dv
    refine ⟨true, rfl, ?_⟩
    refine (if_pos rfl).mpr ?_
    refine ⟨.ref a, rfl, a, ns, rfl, sm.seq hS, hlen, fun H2 p n0 hp => ?_⟩
    refine ⟨fun _ => False, [lI [n0], .int 0], .cons (.lst (fun h => h) hp (DenL.of_ints [n0])) (.cons (.int 0) .nil), fun _ h => h.elim, n0, rfl, fun d ⟨us, e, hu⟩ v H3 sm3 dv => ?_⟩
    subst e
    cases dv with
    | lst nn e3 l3 =>
      rename_i p3 xs
      obtain ⟨i1, i2, i3, rfl, hr3⟩ := id hu
      have ex : xs = [i1, i2, i3].map V.int := DenL.ints (ns := [i1, i2, i3]) l3
      subst ex
      refine ⟨fun b => b = p3, p3, [], _, _, [], rfl, rfl, e3, DenL.of_ints [i1, i2, i3], .nil, fun b hb => by rw [hb, e3]; simp, 0, ⟨rfl, hu, by decide⟩, fun us' d hd v H4 xs' k e' dl dn => ?_⟩
      subst hd
      cases dn
      exact q _
end
end VL
set_option Elab.async false
set_option linter.all false
set_option maxRecDepth 100000
set_option maxHeartbeats 4000000
/-! VL46: all defs together; the head. -/
namespace VL
open PySem PySem.Spec PyProof.Rows L2 VLC
section
variable {P : Program} {w : World} {K : PySem.W.Frag} {mg : Str → Option Value} {base : Heap}

/-- an error of the class is what its own except names -/
theorem exm_mk {S : Addr} (h1 : PySem.W.subIn K (.ref S) (.type "BaseException") = some true) (h2 : PySem.W.isClsIn K S = true) (h3 : PySem.W.typeIn K (.ref S) = some (.type "type")) (h4 : PySem.W.subIn K (.ref S) (.ref S) = some true) : PySem.W.exmOne K (.ref S) (.ref S) = some true := by
  have h2 : (PySem.W.clsIn K S).isSome = true := h2
  unfold PySem.W.exmOne PySem.W.kitCls
  rw [h1]
  refine (if_pos rfl).trans ((if_pos ?_).trans h4)
  rw [h2, h3]
  rfl
theorem df_mk {h : Heap} {x : Str} {st : Stmt} {ps : List Str} {f : Addr} {od an : Option Addr} {sl : Array (Option Value)} {oc kV dc pm cd ct : Value} (X : K.In h) (G : h.Ns mainGlobals mg)
    (hp : ∀ (F : Fun K x x st f (PySem.W.fnOf x x (defArgs st) (defBody st) (defScope st) .none kV dc pm an cd ct)), Binds K (PySem.W.fnOf x x (defArgs st) (defBody st) (defScope st) .none kV dc pm an cd ct) ps [])
    (a : PySem.W.nsIn K mainGlobals x = some (some (.ref f))) (l : K.lookup f = some ⟨oc, od, .func (PySem.W.fnOf x x (defArgs st) (defBody st) (defScope st) .none kV dc pm an cd ct), sl⟩) (c : PySem.W.codeIn K cd x = true) (k : PySem.W.keepIn K (.ref f) = true) : Df K mg x st ps :=
  ⟨f, _, fun_mk (st := st) l c k, PySem.W.mg_of X G a, k, hp (fun_mk (st := st) l c k)⟩
theorem all_mk {h : Heap} {fa f1 C : Addr} {od1 an1 : Option Addr} {sl1 : Array (Option Value)} {oc1 kV1 dc1 pm1 cd1 ct1 : Value} (X : K.In h) (G : h.Ns mainGlobals mg) (hfa : mg "law" = some (.ref fa))
    (a1 : PySem.W.nsIn K mainGlobals "law" = some (some (.ref f1))) (l1 : K.lookup f1 = some ⟨oc1, od1, .func (PySem.W.fnOf "law" "law" (defArgs s_law) (defBody s_law) (defScope s_law) .none kV1 dc1 pm1 an1 cd1 ct1), sl1⟩) (c1 : PySem.W.codeIn K cd1 "law" = true) (k1 : PySem.W.keepIn K (.ref f1) = true)
    (B : Bs mg) (Bc : mg "combinations" = some (.type "itertools.combinations")) (N : CanN K mg C) (hx : PySem.W.exmOne K (.ref C) (.ref C) = some true)
    (D_is_number : Df K mg "is_number" s_isnum ["thing"]) (D_is_tuple_of : Df K mg "is_tuple_of" s_istupof ["thing", "many"]) (D_tuple_of : Df K mg "tuple_of" s_tupof ["thing"]) (D_is_set : Df K mg "is_set" s_isset ["thing", "many"]) (D_is_lot : Df K mg "is_lot" s_islot ["thing", "m"]) (D_all_areas : Df K mg "all_areas" s_allar ["rule"]) (D_lots_within : Df K mg "lots_within" s_lots ["lot"]) (D_rows_within : Df K mg "rows_within" s_rows ["rule", "lot"]) (D_sure_areas : Df K mg "sure_areas" s_sure ["lot", "areas"]) (D_turned : Df K mg "turned" s_turned ["pairs"]) (D_leads_in : Df K mg "leads_in" s_leads ["rule", "lot"]) (D_flooded : Df K mg "flooded" s_flood ["pairs", "area"]) (D_reached : Df K mg "reached" s_reached ["rule", "lot", "area"]) (D_joins_all : Df K mg "joins_all" s_joins ["pairs", "lot"]) (D_is_woven : Df K mg "is_woven" s_iswov ["rule", "lot"]) (D_woven_lots : Df K mg "woven_lots" s_wlots ["rule"]) (D_lead_shown : Df K mg "lead_shown" s_shown ["rule", "lot", "one", "other"]) (D_is_lead_shown : Df K mg "is_lead_shown" s_isshown ["rule", "lot", "one", "other", "thing"]) (D_is_weave : Df K mg "is_weave" s_isweave ["rule", "lot", "thing"]) (D_weave_of : Df K mg "weave_of" s_weave ["rule", "lot"]) (D__law_take : Df K mg "_law_take" s_take ["_law_urn", "_law_low_so"]) (D__law_of : Df K mg "_law_of" s_of ["_law_urn", "_law_goods"]) (D__law_lists : Df K mg "_law_lists" s_llists ["_law_matter"]) (D__law_rows : Df K mg "_law_rows" s_lrows ["_law_picked_here", "_law_lot_so"]) (D__law_spread : Df K mg "_law_spread" s_spread ["_law_arrows_here", "_law_area"]) (D__law_arrows : Df K mg "_law_arrows" s_arrows ["_law_picked_here", "_law_lot_so"]) (D__law_is_woven : Df K mg "_law_is_woven" s_liswov ["_law_picked_here", "_law_lot_so"]) (D__law_least : Df K mg "_law_least" s_least ["_law_picked_here", "_law_lot_so", "_law_one", "_law_other"]) (D__law_lots : Df K mg "_law_lots" s_llots ["_law_lot_so"]) (D__law_same : Df K mg "_law_same" s_same ["_law_got", "_law_goal"]) (D__law_shuffled : Df K mg "_law_shuffled" s_shuf ["_law_urn", "_law_goods"]) (D__law_ties_all : Df K mg "_law_ties_all" s_ties ["_law_picked_here", "_law_lot_so", "_law_thing"]) (D__law_bent : Df K mg "_law_bent" s_bent ["_law_urn", "_law_picked_here", "_law_lot_so", "_law_told"]) (D__law_picked : Df K mg "_law_picked" s_picked ["_law_urn", "_law_m", "_law_loose_so"]) (D__law_turn : Df K mg "_law_turn" s_turn []) (D__law_either : Df K mg "_law_either" s_either []) (D__law_heard : Df K mg "_law_heard" s_heard ["_law_picked_here", "_law_lot_so", "_law_ends"]) (D__law_right : Df K mg "_law_right" s_right ["_law_urn"]) (D__law_box : Df K mg "_law_box" s_box ["_law_script", "_law_k"]) (D__law_by_hand_right : Df K mg "_law_by_hand_right" s_hand []) (D__law_cells : Df K mg "_law_cells" s_cells ["_law_script", "_law_top"]) :
    ∃ fd : FuncData, (∀ (s : Shared) (v : Value), BindsTo s fd ⟨[v], []⟩ [("_law_script", v)]) ∧ ∀ base : Heap, K.In base → base.Ns mainGlobals mg → FnOk P w K mg base CX0 11 fa fd ["_law_script"] (spLawE K) := by
  have e := hfa.symm.trans (PySem.W.mg_of X G a1)
  cases e
  have F1 := fun_mk (st := s_law) l1 c1 k1
  refine ⟨PySem.W.fnOf "law" "law" (defArgs s_law) (defBody s_law) (defScope s_law) .none kV1 dc1 pm1 an1 cd1 ct1, fun s v => .of_eq rfl, fun base _ _ => ?_⟩
  have C_is_number := ok_isnum (P := P) (w := w) (K := K) (mg := mg) (base := base) D_is_number B
  have C_is_tuple_of := ok_istupof (P := P) (w := w) (K := K) (mg := mg) (base := base) D_is_tuple_of B
  have C_tuple_of := ok_tof (P := P) (w := w) (K := K) (mg := mg) (base := base) D_tuple_of B 4
  have C_is_set := ok_isset (P := P) (w := w) (K := K) (mg := mg) (base := base) D_is_set B C_is_number
  have C_is_lot := ok_islot (P := P) (w := w) (K := K) (mg := mg) (base := base) D_is_lot B C_is_set
  have C_all_areas := ok_allar (P := P) (w := w) (K := K) (mg := mg) (base := base) D_all_areas B
  have C_lots_within := ok_lots (P := P) (w := w) (K := K) (mg := mg) (base := base) D_lots_within B Bc
  have C_rows_within := ok_rows (P := P) (w := w) (K := K) (mg := mg) (base := base) D_rows_within B C_tuple_of
  have C_sure_areas := ok_sure (P := P) (w := w) (K := K) (mg := mg) (base := base) D_sure_areas B
  have C_turned := ok_turned (P := P) (w := w) (K := K) (mg := mg) (base := base) D_turned B
  have C_leads_in := ok_leads (P := P) (w := w) (K := K) (mg := mg) (base := base) D_leads_in B C_rows_within
  have C_flooded := ok_flood (P := P) (w := w) (K := K) (mg := mg) (base := base) D_flooded B
  have C_reached := ok_reached (P := P) (w := w) (K := K) (mg := mg) (base := base) D_reached B C_sure_areas C_leads_in C_flooded
  have C_joins_all := ok_joins (P := P) (w := w) (K := K) (mg := mg) (base := base) D_joins_all B C_turned C_flooded
  have C_is_woven := ok_iswov (P := P) (w := w) (K := K) (mg := mg) (base := base) D_is_woven B C_leads_in C_joins_all
  have C_woven_lots := ok_wlots (P := P) (w := w) (K := K) (mg := mg) (base := base) D_woven_lots B C_all_areas C_lots_within C_is_woven
  have C_lead_shown := ok_shown (P := P) (w := w) (K := K) (mg := mg) (base := base) D_lead_shown B N C_sure_areas C_rows_within
  have C_is_lead_shown := ok_isshown (P := P) (w := w) (K := K) (mg := mg) (base := base) D_is_lead_shown B C_is_lot C_rows_within
  have C_is_weave := ok_isweave (P := P) (w := w) (K := K) (mg := mg) (base := base) D_is_weave B C_is_tuple_of C_is_lot C_rows_within C_joins_all
  have C_weave_of := ok_weaveof (P := P) (w := w) (K := K) (mg := mg) (base := base) D_weave_of B N C_tuple_of C_rows_within C_leads_in C_is_woven C_lead_shown
  have C__law_take := ok_take (P := P) (w := w) (K := K) (mg := mg) (base := base) D__law_take B
  have C__law_of := ok_of (P := P) (w := w) (K := K) (mg := mg) (base := base) D__law_of B C__law_take
  have C__law_lists := ok_lof (P := P) (w := w) (K := K) (mg := mg) (base := base) D__law_lists B 4
  have C__law_rows := ok_lrows (P := P) (w := w) (K := K) (mg := mg) (base := base) D__law_rows B
  have C__law_spread := ok_spread (P := P) (w := w) (K := K) (mg := mg) (base := base) D__law_spread B
  have C__law_arrows := ok_arrows (P := P) (w := w) (K := K) (mg := mg) (base := base) D__law_arrows B C__law_rows
  have C__law_is_woven := ok_liswov (P := P) (w := w) (K := K) (mg := mg) (base := base) D__law_is_woven B C__law_arrows C__law_spread
  have C__law_least := ok_least (P := P) (w := w) (K := K) (mg := mg) (base := base) D__law_least B C__law_rows
  have C__law_lots := ok_llots (P := P) (w := w) (K := K) (mg := mg) (base := base) D__law_lots B
  have C__law_same := ok_same (P := P) (w := w) (K := K) (mg := mg) (base := base) D__law_same B 5
  have C__law_shuffled := ok_shuf (P := P) (w := w) (K := K) (mg := mg) (base := base) D__law_shuffled B C__law_take
  have C__law_ties_all := ok_ties (P := P) (w := w) (K := K) (mg := mg) (base := base) D__law_ties_all B C__law_rows (ok_same D__law_same B 2) C__law_spread
  have C__law_bent := ok_bent (P := P) (w := w) (K := K) (mg := mg) (base := base) D__law_bent B C__law_take C__law_of
  have C__law_picked := ok_picked (P := P) (w := w) (K := K) (mg := mg) (base := base) D__law_picked B C__law_take C__law_of C__law_shuffled C__law_lots
  have C__law_turn := ok_turn (P := P) (w := w) (K := K) (mg := mg) (base := base) D__law_turn B
  have C__law_either := ok_either (P := P) (w := w) (K := K) (mg := mg) (base := base) D__law_either B
  have C__law_heard := ok_heard (P := P) (w := w) (K := K) (mg := mg) (base := base) D__law_heard B N hx C_lead_shown C_weave_of
  have C__law_right := ok_right (P := P) (w := w) (K := K) (mg := mg) (base := base) D__law_right B C__law_take C__law_of C__law_picked C__law_lots C__law_arrows C__law_lists C_leads_in C_reached C__law_spread C__law_heard C_is_lead_shown C__law_rows C__law_least C__law_same C__law_is_woven C_woven_lots C_is_woven C_is_weave C__law_ties_all C__law_bent
  have C__law_box := ok_box (P := P) (w := w) (K := K) (mg := mg) (base := base) D__law_box B
  have C__law_by_hand_right := ok_hand (P := P) (w := w) (K := K) (mg := mg) (base := base) D__law_by_hand_right B C__law_turn C__law_either C_leads_in C_lead_shown C_woven_lots C_weave_of C_reached C__law_same C_is_weave
  have C__law_cells := ok_cells (P := P) (w := w) (K := K) (mg := mg) (base := base) D__law_cells B
  exact ok_law F1 C__law_by_hand_right C__law_right C__law_box C__law_cells
end
end VL
set_option Elab.async false
set_option linter.all false
set_option maxRecDepth 100000
set_option maxHeartbeats 4000000
/-! VL49: the head, the theorem. -/
open PySem PySem.W PyProof.Rows
set_option maxHeartbeats 0 in
theorem PySem.Challenge.cw_gatheryard_k40_whole_leads_and_woven_lot_holds : PySem.Challenge.rw_gatheryard_k40_whole_leads_and_woven_lot.Holds := by
  w_on; o_law; k_head; (case hw => w_witness2)
  k_fill
  refine L2.walk_of (l := PySem.Challenge.rw_gatheryard_k40_whole_leads_and_woven_lot) (n := 63) (k := 11) (x := "_law_script") (CX := fun _ => L2.CX0) (sp := fun w => VL.spLawE _) rfl (by decide) rfl ⟨rfl, by decide, by decide⟩ (fun w h Y => PySem.W.kIn_of Y) ?F (fun _ _ a ns hl _ hS => ⟨a, ns, rfl, hS, hl, fun _ => rfl⟩) (fun _ _ _ _ _ h => h)
  case F =>
    intro w mg fa h KX G hmg
    refine' VL.all_mk KX G hmg ?a1 ?l1 ?c1 ?k1 ?xB ?xBc ?xN ?xhx ?D_is_number ?D_is_tuple_of ?D_tuple_of ?D_is_set ?D_is_lot ?D_all_areas ?D_lots_within ?D_rows_within ?D_sure_areas ?D_turned ?D_leads_in ?D_flooded ?D_reached ?D_joins_all ?D_is_woven ?D_woven_lots ?D_lead_shown ?D_is_lead_shown ?D_is_weave ?D_weave_of ?D__law_take ?D__law_of ?D__law_lists ?D__law_rows ?D__law_spread ?D__law_arrows ?D__law_is_woven ?D__law_least ?D__law_lots ?D__law_same ?D__law_shuffled ?D__law_ties_all ?D__law_bent ?D__law_picked ?D__law_turn ?D__law_either ?D__law_heard ?D__law_right ?D__law_box ?D__law_by_hand_right ?D__law_cells
    (case a1 => k_is); (case l1 => k_is); (case c1 => k_is); (case k1 => k_is)
    case xB => exact ⟨PySem.W.mg_none_of KX G (by k_is), PySem.W.mg_none_of KX G (by k_is), PySem.W.mg_none_of KX G (by k_is), PySem.W.mg_none_of KX G (by k_is), PySem.W.mg_none_of KX G (by k_is), PySem.W.mg_none_of KX G (by k_is), PySem.W.mg_none_of KX G (by k_is), PySem.W.mg_none_of KX G (by k_is), PySem.W.mg_none_of KX G (by k_is), PySem.W.mg_none_of KX G (by k_is), PySem.W.mg_none_of KX G (by k_is), PySem.W.mg_none_of KX G (by k_is), PySem.W.mg_none_of KX G (by k_is), PySem.W.mg_none_of KX G (by k_is), PySem.W.mg_none_of KX G (by k_is), PySem.W.mg_none_of KX G (by k_is), PySem.W.mg_none_of KX G (by k_is), PySem.W.mg_none_of KX G (by k_is)⟩
    case xBc => exact PySem.W.mg_of KX G (by k_is)
    case xN =>
      refine' ⟨PySem.W.mg_of KX G ?a, ?b, ?c, ?d, ?e⟩
      (case a => k_is); (case b => k_is); (case c => k_exc); (case d => k_is); (case e => k_is)
    case xhx => 
      refine' VL.exm_mk ?a ?b ?c ?d
      (case a => k_is); (case b => k_is); (case c => k_is); (case d => first | rfl | k_is)
    case D_is_number =>
      refine' VL.df_mk (st := VL.s_isnum) KX G (fun F => F.binds fun _ _ _ _ _ _ us hl => match us, hl with | [_], _ => rfl) ?a ?l ?c ?k
      (case a => k_is); (case l => k_is); (case c => k_is); (case k => k_is)
    case D_is_tuple_of =>
      refine' VL.df_mk (st := VL.s_istupof) KX G (fun F => F.binds fun _ _ _ _ _ _ us hl => match us, hl with | [_, _], _ => rfl) ?a ?l ?c ?k
      (case a => k_is); (case l => k_is); (case c => k_is); (case k => k_is)
    case D_tuple_of =>
      refine' VL.df_mk (st := VL.s_tupof) KX G (fun F => F.binds fun _ _ _ _ _ _ us hl => match us, hl with | [_], _ => rfl) ?a ?l ?c ?k
      (case a => k_is); (case l => k_is); (case c => k_is); (case k => k_is)
    case D_is_set =>
      refine' VL.df_mk (st := VL.s_isset) KX G (fun F => F.binds fun _ _ _ _ _ _ us hl => match us, hl with | [_, _], _ => rfl) ?a ?l ?c ?k
      (case a => k_is); (case l => k_is); (case c => k_is); (case k => k_is)
    case D_is_lot =>
      refine' VL.df_mk (st := VL.s_islot) KX G (fun F => F.binds fun _ _ _ _ _ _ us hl => match us, hl with | [_, _], _ => rfl) ?a ?l ?c ?k
      (case a => k_is); (case l => k_is); (case c => k_is); (case k => k_is)
    case D_all_areas =>
      refine' VL.df_mk (st := VL.s_allar) KX G (fun F => F.binds fun _ _ _ _ _ _ us hl => match us, hl with | [_], _ => rfl) ?a ?l ?c ?k
      (case a => k_is); (case l => k_is); (case c => k_is); (case k => k_is)
    case D_lots_within =>
      refine' VL.df_mk (st := VL.s_lots) KX G (fun F => F.binds fun _ _ _ _ _ _ us hl => match us, hl with | [_], _ => rfl) ?a ?l ?c ?k
      (case a => k_is); (case l => k_is); (case c => k_is); (case k => k_is)
    case D_rows_within =>
      refine' VL.df_mk (st := VL.s_rows) KX G (fun F => F.binds fun _ _ _ _ _ _ us hl => match us, hl with | [_, _], _ => rfl) ?a ?l ?c ?k
      (case a => k_is); (case l => k_is); (case c => k_is); (case k => k_is)
    case D_sure_areas =>
      refine' VL.df_mk (st := VL.s_sure) KX G (fun F => F.binds fun _ _ _ _ _ _ us hl => match us, hl with | [_, _], _ => rfl) ?a ?l ?c ?k
      (case a => k_is); (case l => k_is); (case c => k_is); (case k => k_is)
    case D_turned =>
      refine' VL.df_mk (st := VL.s_turned) KX G (fun F => F.binds fun _ _ _ _ _ _ us hl => match us, hl with | [_], _ => rfl) ?a ?l ?c ?k
      (case a => k_is); (case l => k_is); (case c => k_is); (case k => k_is)
    case D_leads_in =>
      refine' VL.df_mk (st := VL.s_leads) KX G (fun F => F.binds fun _ _ _ _ _ _ us hl => match us, hl with | [_, _], _ => rfl) ?a ?l ?c ?k
      (case a => k_is); (case l => k_is); (case c => k_is); (case k => k_is)
    case D_flooded =>
      refine' VL.df_mk (st := VL.s_flood) KX G (fun F => F.binds fun _ _ _ _ _ _ us hl => match us, hl with | [_, _], _ => rfl) ?a ?l ?c ?k
      (case a => k_is); (case l => k_is); (case c => k_is); (case k => k_is)
    case D_reached =>
      refine' VL.df_mk (st := VL.s_reached) KX G (fun F => F.binds fun _ _ _ _ _ _ us hl => match us, hl with | [_, _, _], _ => rfl) ?a ?l ?c ?k
      (case a => k_is); (case l => k_is); (case c => k_is); (case k => k_is)
    case D_joins_all =>
      refine' VL.df_mk (st := VL.s_joins) KX G (fun F => F.binds fun _ _ _ _ _ _ us hl => match us, hl with | [_, _], _ => rfl) ?a ?l ?c ?k
      (case a => k_is); (case l => k_is); (case c => k_is); (case k => k_is)
    case D_is_woven =>
      refine' VL.df_mk (st := VL.s_iswov) KX G (fun F => F.binds fun _ _ _ _ _ _ us hl => match us, hl with | [_, _], _ => rfl) ?a ?l ?c ?k
      (case a => k_is); (case l => k_is); (case c => k_is); (case k => k_is)
    case D_woven_lots =>
      refine' VL.df_mk (st := VL.s_wlots) KX G (fun F => F.binds fun _ _ _ _ _ _ us hl => match us, hl with | [_], _ => rfl) ?a ?l ?c ?k
      (case a => k_is); (case l => k_is); (case c => k_is); (case k => k_is)
    case D_lead_shown =>
      refine' VL.df_mk (st := VL.s_shown) KX G (fun F => F.binds fun _ _ _ _ _ _ us hl => match us, hl with | [_, _, _, _], _ => rfl) ?a ?l ?c ?k
      (case a => k_is); (case l => k_is); (case c => k_is); (case k => k_is)
    case D_is_lead_shown =>
      refine' VL.df_mk (st := VL.s_isshown) KX G (fun F => F.binds fun _ _ _ _ _ _ us hl => match us, hl with | [_, _, _, _, _], _ => rfl) ?a ?l ?c ?k
      (case a => k_is); (case l => k_is); (case c => k_is); (case k => k_is)
    case D_is_weave =>
      refine' VL.df_mk (st := VL.s_isweave) KX G (fun F => F.binds fun _ _ _ _ _ _ us hl => match us, hl with | [_, _, _], _ => rfl) ?a ?l ?c ?k
      (case a => k_is); (case l => k_is); (case c => k_is); (case k => k_is)
    case D_weave_of =>
      refine' VL.df_mk (st := VL.s_weave) KX G (fun F => F.binds fun _ _ _ _ _ _ us hl => match us, hl with | [_, _], _ => rfl) ?a ?l ?c ?k
      (case a => k_is); (case l => k_is); (case c => k_is); (case k => k_is)
    case D__law_take =>
      refine' VL.df_mk (st := VL.s_take) KX G (fun F => F.binds fun _ _ _ _ _ _ us hl => match us, hl with | [_, _], _ => rfl) ?a ?l ?c ?k
      (case a => k_is); (case l => k_is); (case c => k_is); (case k => k_is)
    case D__law_of =>
      refine' VL.df_mk (st := VL.s_of) KX G (fun F => F.binds fun _ _ _ _ _ _ us hl => match us, hl with | [_, _], _ => rfl) ?a ?l ?c ?k
      (case a => k_is); (case l => k_is); (case c => k_is); (case k => k_is)
    case D__law_lists =>
      refine' VL.df_mk (st := VL.s_llists) KX G (fun F => F.binds fun _ _ _ _ _ _ us hl => match us, hl with | [_], _ => rfl) ?a ?l ?c ?k
      (case a => k_is); (case l => k_is); (case c => k_is); (case k => k_is)
    case D__law_rows =>
      refine' VL.df_mk (st := VL.s_lrows) KX G (fun F => F.binds fun _ _ _ _ _ _ us hl => match us, hl with | [_, _], _ => rfl) ?a ?l ?c ?k
      (case a => k_is); (case l => k_is); (case c => k_is); (case k => k_is)
    case D__law_spread =>
      refine' VL.df_mk (st := VL.s_spread) KX G (fun F => F.binds fun _ _ _ _ _ _ us hl => match us, hl with | [_, _], _ => rfl) ?a ?l ?c ?k
      (case a => k_is); (case l => k_is); (case c => k_is); (case k => k_is)
    case D__law_arrows =>
      refine' VL.df_mk (st := VL.s_arrows) KX G (fun F => F.binds fun _ _ _ _ _ _ us hl => match us, hl with | [_, _], _ => rfl) ?a ?l ?c ?k
      (case a => k_is); (case l => k_is); (case c => k_is); (case k => k_is)
    case D__law_is_woven =>
      refine' VL.df_mk (st := VL.s_liswov) KX G (fun F => F.binds fun _ _ _ _ _ _ us hl => match us, hl with | [_, _], _ => rfl) ?a ?l ?c ?k
      (case a => k_is); (case l => k_is); (case c => k_is); (case k => k_is)
    case D__law_least =>
      refine' VL.df_mk (st := VL.s_least) KX G (fun F => F.binds fun _ _ _ _ _ _ us hl => match us, hl with | [_, _, _, _], _ => rfl) ?a ?l ?c ?k
      (case a => k_is); (case l => k_is); (case c => k_is); (case k => k_is)
    case D__law_lots =>
      refine' VL.df_mk (st := VL.s_llots) KX G (fun F => F.binds fun _ _ _ _ _ _ us hl => match us, hl with | [_], _ => rfl) ?a ?l ?c ?k
      (case a => k_is); (case l => k_is); (case c => k_is); (case k => k_is)
    case D__law_same =>
      refine' VL.df_mk (st := VL.s_same) KX G (fun F => F.binds fun _ _ _ _ _ _ us hl => match us, hl with | [_, _], _ => rfl) ?a ?l ?c ?k
      (case a => k_is); (case l => k_is); (case c => k_is); (case k => k_is)
    case D__law_shuffled =>
      refine' VL.df_mk (st := VL.s_shuf) KX G (fun F => F.binds fun _ _ _ _ _ _ us hl => match us, hl with | [_, _], _ => rfl) ?a ?l ?c ?k
      (case a => k_is); (case l => k_is); (case c => k_is); (case k => k_is)
    case D__law_ties_all =>
      refine' VL.df_mk (st := VL.s_ties) KX G (fun F => F.binds fun _ _ _ _ _ _ us hl => match us, hl with | [_, _, _], _ => rfl) ?a ?l ?c ?k
      (case a => k_is); (case l => k_is); (case c => k_is); (case k => k_is)
    case D__law_bent =>
      refine' VL.df_mk (st := VL.s_bent) KX G (fun F => F.binds fun _ _ _ _ _ _ us hl => match us, hl with | [_, _, _, _], _ => rfl) ?a ?l ?c ?k
      (case a => k_is); (case l => k_is); (case c => k_is); (case k => k_is)
    case D__law_picked =>
      refine' VL.df_mk (st := VL.s_picked) KX G (fun F => F.binds fun _ _ _ _ _ _ us hl => match us, hl with | [_, _, _], _ => rfl) ?a ?l ?c ?k
      (case a => k_is); (case l => k_is); (case c => k_is); (case k => k_is)
    case D__law_turn =>
      refine' VL.df_mk (st := VL.s_turn) KX G (fun F => F.binds fun _ _ _ _ _ _ us hl => match us, hl with | [], _ => rfl) ?a ?l ?c ?k
      (case a => k_is); (case l => k_is); (case c => k_is); (case k => k_is)
    case D__law_either =>
      refine' VL.df_mk (st := VL.s_either) KX G (fun F => F.binds fun _ _ _ _ _ _ us hl => match us, hl with | [], _ => rfl) ?a ?l ?c ?k
      (case a => k_is); (case l => k_is); (case c => k_is); (case k => k_is)
    case D__law_heard =>
      refine' VL.df_mk (st := VL.s_heard) KX G (fun F => F.binds fun _ _ _ _ _ _ us hl => match us, hl with | [_, _, _], _ => rfl) ?a ?l ?c ?k
      (case a => k_is); (case l => k_is); (case c => k_is); (case k => k_is)
    case D__law_right =>
      refine' VL.df_mk (st := VL.s_right) KX G (fun F => F.binds fun _ _ _ _ _ _ us hl => match us, hl with | [_], _ => rfl) ?a ?l ?c ?k
      (case a => k_is); (case l => k_is); (case c => k_is); (case k => k_is)
    case D__law_box =>
      refine' VL.df_mk (st := VL.s_box) KX G (fun F => F.binds fun _ _ _ _ _ _ us hl => match us, hl with | [_, _], _ => rfl) ?a ?l ?c ?k
      (case a => k_is); (case l => k_is); (case c => k_is); (case k => k_is)
    case D__law_by_hand_right =>
      refine' VL.df_mk (st := VL.s_hand) KX G (fun F => F.binds fun _ _ _ _ _ _ us hl => match us, hl with | [], _ => rfl) ?a ?l ?c ?k
      (case a => k_is); (case l => k_is); (case c => k_is); (case k => k_is)
    case D__law_cells =>
      refine' VL.df_mk (st := VL.s_cells) KX G (fun F => F.binds fun _ _ _ _ _ _ us hl => match us, hl with | [_, _], _ => rfl) ?a ?l ?c ?k
      (case a => k_is); (case l => k_is); (case c => k_is); (case k => k_is)
