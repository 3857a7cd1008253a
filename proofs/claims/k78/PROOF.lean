import PyProof.Rows.All
import Wide.All
import OpenK.AllK
import Wide.FinOn
import HandS.ForMost
import HandS.Deep
import HandS.Exc
import HandS.ExcOwn
import HandS.Star
import HandS.TupAny
import HandS.TupLe
import HandS.IsInst
import KE.DataCmp
import HandS.Wide
import PyProof.Rows.InDataRows
import HandS.Conv
import HandS.Style
import HandS.TupMul
import KE.GoesEnum
import HandS.More
import HandS.DictComp
import PyProof.DictUpdate
import HandS.Words
import HandS.SetFor
import HandS.Strs
import KE.SortData
import KE.DataMinMax
import HandS.RaiseMore
import HandS.EndBits
import PySem.Challenge.RW_nearestkeeps_k78_whole_leases_by_own_day
set_option Elab.async false
set_option linter.all false
set_option autoImplicit false
set_option maxRecDepth 100000
/-! DL: data as trees over the layer: values are PyData, own lists and dicts stand in slots. -/
namespace DL
open PySem PySem.Spec PyProof.Rows L2

abbrev PD := PyData
abbrev Fg := PySem.W.Frag
def keyD : Key → PD
  | .inl i => .int i
  | .inr x => .str x
def tkD (ks : List Key) : PD := .tuple (ks.map keyD)

mutual
/-- v stands for d in H -/
inductive Dq (K : Fg) (H : Hp) : V → PD → Prop
  | non : Dq K H .non .none
  | bl (b : Bool) : Dq K H (.bl b) (.bool b)
  | int (i : Int) : Dq K H (.int i) (.int i)
  | str (x : Str) : Dq K H (.str x) (.str x)
  | lst {a : Addr} {xs : List V} {ds : List PD} : H a = some (.lst xs) → DqAll K H xs ds → Dq K H (.ref a) (.list ds)
  | tup {a : Addr} {xs : List V} {ds : List PD} : SqT K H a xs → DqAll K H xs ds → Dq K H (.ref a) (.tuple ds)
  | dic {a : Addr} {ks : List (Key × V)} {kvs : List (PD × PD)} : Rd H a (.dK ks) → DqKv K H ks kvs → Dq K H (.ref a) (.dict kvs)
  | dit {a : Addr} {ks : List (List Key × V)} {kvs : List (PD × PD)} : Rd H a (.dT ks) → DqTv K H ks kvs → Dq K H (.ref a) (.dict kvs)
inductive DqAll (K : Fg) (H : Hp) : List V → List PD → Prop
  | nil : DqAll K H [] []
  | cons {v : V} {vs : List V} {d : PD} {ds : List PD} : Dq K H v d → DqAll K H vs ds → DqAll K H (v :: vs) (d :: ds)
inductive DqKv (K : Fg) (H : Hp) : List (Key × V) → List (PD × PD) → Prop
  | nil : DqKv K H [] []
  | cons {k : Key} {v : V} {ks : List (Key × V)} {d : PD} {kvs : List (PD × PD)} : Dq K H v d → DqKv K H ks kvs → DqKv K H ((k, v) :: ks) ((keyD k, d) :: kvs)
/-- a dict with tuple keys -/
inductive DqTv (K : Fg) (H : Hp) : List (List Key × V) → List (PD × PD) → Prop
  | nil : DqTv K H [] []
  | cons {k : List Key} {v : V} {ks : List (List Key × V)} {d : PD} {kvs : List (PD × PD)} : Dq K H v d → DqTv K H ks kvs → DqTv K H ((k, v) :: ks) ((tkD k, d) :: kvs)
end

/-- all that stood stands -/
def Ext (H H' : Hp) : Prop := ∀ a o, H a = some o → H' a = some o
theorem Ext.refl (H : Hp) : Ext H H := fun _ _ h => h
theorem Ext.trans {H H1 H2 : Hp} (x : Ext H H1) (y : Ext H1 H2) : Ext H H2 := fun a o h => y a o (x a o h)
theorem Ext.rd {H H' : Hp} {a : Addr} {u : HO} (x : Ext H H') (h : Rd H a u) : Rd H' a u := by
  rcases h with h | ⟨o, h⟩
  · exact .inl (x _ _ h)
  · exact .inr ⟨o, x _ _ h⟩
theorem Ext.sqL {K : Fg} {H H' : Hp} {a : Addr} {xs : List V} (x : Ext H H') (h : SqL K H a xs) : SqL K H' a xs := by
  rcases h with h | h
  · exact .inl (x.rd h)
  · exact .inr h
theorem Ext.sqT {K : Fg} {H H' : Hp} {a : Addr} {xs : List V} (x : Ext H H') (h : SqT K H a xs) : SqT K H' a xs := by
  rcases h with h | h
  · exact .inl (x.rd h)
  · exact .inr h

def NF (u : HO) : Prop := ∀ o' u', u ≠ .frz o' u'
theorem nf_lst (xs : List V) : NF (.lst xs) := fun _ _ z => nomatch z
theorem nf_tup (xs : List V) : NF (.tup xs) := fun _ _ z => nomatch z
theorem nf_dK (xs : List (Key × V)) : NF (.dK xs) := fun _ _ z => nomatch z
theorem nf_dT (xs : List (List Key × V)) : NF (.dT xs) := fun _ _ z => nomatch z
/-- .. a dict's lock may change -/
structure ExR (H H' : Hp) : Prop where
  lst : ∀ a xs, H a = some (.lst xs) → H' a = some (.lst xs)
  rd : ∀ a u, NF u → Rd H a u → Rd H' a u
theorem Ext.r {H H' : Hp} (x : Ext H H') : ExR H H' := ⟨fun a xs h => x _ _ h, fun a u _ h => x.rd h⟩
theorem ExR.sqL {K : Fg} {H H' : Hp} {a : Addr} {xs : List V} (x : ExR H H') (h : SqL K H a xs) : SqL K H' a xs := by
  rcases h with h | h
  · exact .inl (x.rd _ _ (nf_lst _) h)
  · exact .inr h
theorem ExR.sqT {K : Fg} {H H' : Hp} {a : Addr} {xs : List V} (x : ExR H H') (h : SqT K H a xs) : SqT K H' a xs := by
  rcases h with h | h
  · exact .inl (x.rd _ _ (nf_tup _) h)
  · exact .inr h
section
variable {K : Fg} {H H' : Hp}
mutual
theorem Dq.monoR (x : ExR H H') : ∀ (d : PD) (v : V), Dq K H v d → Dq K H' v d
  | .none, _, .non => .non
  | .bool _, _, .bl _ => .bl _
  | .int _, _, .int _ => .int _
  | .str _, _, .str _ => .str _
  | .list ds, _, .lst h1 h2 => .lst (x.lst _ _ h1) (DqAll.monoR x ds _ h2)
  | .tuple ds, _, .tup h1 h2 => .tup (x.sqT h1) (DqAll.monoR x ds _ h2)
  | .dict kvs, _, .dic h1 h2 => .dic (x.rd _ _ (nf_dK _) h1) (DqKv.monoR x kvs _ h2)
  | .dict kvs, _, .dit h1 h2 => .dit (x.rd _ _ (nf_dT _) h1) (DqTv.monoR x kvs _ h2)
theorem DqAll.monoR (x : ExR H H') : ∀ (ds : List PD) (vs : List V), DqAll K H vs ds → DqAll K H' vs ds
  | [], _, .nil => .nil
  | d :: ds, _, .cons h1 h2 => .cons (Dq.monoR x d _ h1) (DqAll.monoR x ds _ h2)
theorem DqKv.monoR (x : ExR H H') : ∀ (kvs : List (PD × PD)) (ks : List (Key × V)), DqKv K H ks kvs → DqKv K H' ks kvs
  | [], _, .nil => .nil
  | (_, d) :: kvs, _, .cons h1 h2 => .cons (Dq.monoR x d _ h1) (DqKv.monoR x kvs _ h2)
theorem DqTv.monoR (x : ExR H H') : ∀ (kvs : List (PD × PD)) (ks : List (List Key × V)), DqTv K H ks kvs → DqTv K H' ks kvs
  | [], _, .nil => .nil
  | (_, d) :: kvs, _, .cons h1 h2 => .cons (Dq.monoR x d _ h1) (DqTv.monoR x kvs _ h2)
end
theorem Dq.mono (x : Ext H H') (d : PD) (v : V) (h : Dq K H v d) : Dq K H' v d := Dq.monoR x.r d v h
theorem DqAll.mono (x : Ext H H') (ds : List PD) (vs : List V) (h : DqAll K H vs ds) : DqAll K H' vs ds := DqAll.monoR x.r ds vs h
theorem DqKv.mono (x : Ext H H') (kvs : List (PD × PD)) (ks : List (Key × V)) (h : DqKv K H ks kvs) : DqKv K H' ks kvs := DqKv.monoR x.r kvs ks h
theorem DqTv.mono (x : Ext H H') {ks : List (List Key × V)} {kvs : List (PD × PD)} (h : DqTv K H ks kvs) : DqTv K H' ks kvs := DqTv.monoR x.r kvs ks h
mutual
theorem Dq.dp : ∀ (d : PD) (v : V), d.canLay0 = true → Dq K H v d → Dp K H v d
  | .none, _, _, .non => .non
  | .bool _, _, _, .bl _ => .bl _
  | .int _, _, _, .int _ => .int _
  | .str _, _, _, .str _ => .str _
  | .list ds, _, c, .lst h1 h2 => .lst (.inl (.inl h1)) (DqAll.dp ds _ (by simpa [PyData.canLay0] using c) h2)
  | .tuple ds, _, c, .tup h1 h2 => .tup h1 (DqAll.dp ds _ (by simpa [PyData.canLay0] using c) h2)
  | .dict _, _, c, _ => by simp [PyData.canLay0] at c
theorem DqAll.dp : ∀ (ds : List PD) (vs : List V), PyData.canLayAll0 ds = true → DqAll K H vs ds → DpAll K H vs ds
  | [], _, _, .nil => .nil
  | d :: ds, _, c, .cons h1 h2 => by
    have c' : d.canLay0 = true ∧ PyData.canLayAll0 ds = true := by simpa [PyData.canLayAll0] using c
    exact .cons (Dq.dp d _ c'.1 h1) (DqAll.dp ds _ c'.2 h2)
end
theorem DqAll.length {vs : List V} {ds : List PD} (h : DqAll K H vs ds) : vs.length = ds.length := by
  induction ds generalizing vs with
  | nil => cases h; rfl
  | cons d ds ih =>
    cases h with
    | cons h1 h2 => simp [ih h2]
theorem DqAll.get {vs : List V} {ds : List PD} {i : Nat} {d : PD} (h : DqAll K H vs ds) (e : ds[i]? = some d) : ∃ v, vs[i]? = some v ∧ Dq K H v d := by
  induction ds generalizing vs i with
  | nil => simp at e
  | cons x ds ih =>
    cases h with
    | cons h1 h2 =>
      cases i with
      | zero => simp at e; subst e; exact ⟨_, rfl, h1⟩
      | succ i => simpa using ih h2 (by simpa using e)
theorem DqAll.get' {vs : List V} {ds : List PD} {i : Nat} {v : V} (h : DqAll K H vs ds) (e : vs[i]? = some v) : ∃ d, ds[i]? = some d ∧ Dq K H v d := by
  induction ds generalizing vs i with
  | nil => cases h; simp at e
  | cons x ds ih =>
    cases h with
    | cons h1 h2 =>
      cases i with
      | zero => simp at e; subst e; exact ⟨_, rfl, h1⟩
      | succ i => simpa using ih h2 (by simpa using e)
theorem DqAll.append {vs ws : List V} {ds es : List PD} (h : DqAll K H vs ds) (g : DqAll K H ws es) : DqAll K H (vs ++ ws) (ds ++ es) := by
  induction ds generalizing vs with
  | nil => cases h; exact g
  | cons x ds ih =>
    cases h with
    | cons h1 h2 => exact .cons h1 (ih h2)
theorem DqAll.set {vs : List V} {ds : List PD} {v : V} {d : PD} (i : Nat) (h : DqAll K H vs ds) (g : Dq K H v d) : DqAll K H (vs.set i v) (ds.set i d) := by
  induction ds generalizing vs i with
  | nil => cases h; exact .nil
  | cons x ds ih =>
    cases h with
    | cons h1 h2 =>
      cases i with
      | zero => exact .cons g h2
      | succ i => exact .cons h1 (ih i h2)
theorem DqAll.take {vs : List V} {ds : List PD} (n : Nat) (h : DqAll K H vs ds) : DqAll K H (vs.take n) (ds.take n) := by
  induction ds generalizing vs n with
  | nil => cases h; simp; exact .nil
  | cons x ds ih =>
    cases h with
    | cons h1 h2 =>
      cases n with
      | zero => exact .nil
      | succ n => exact .cons h1 (ih n h2)
theorem DqAll.drop {vs : List V} {ds : List PD} (n : Nat) (h : DqAll K H vs ds) : DqAll K H (vs.drop n) (ds.drop n) := by
  induction ds generalizing vs n with
  | nil => cases h; simp; exact .nil
  | cons x ds ih =>
    cases h with
    | cons h1 h2 =>
      cases n with
      | zero => exact .cons h1 h2
      | succ n => exact ih n h2
theorem DqAll.split {vs : List V} {ds es : List PD} (h : DqAll K H vs (ds ++ es)) : ∃ us ws, vs = us ++ ws ∧ DqAll K H us ds ∧ DqAll K H ws es := by
  induction ds generalizing vs with
  | nil => exact ⟨[], vs, rfl, .nil, h⟩
  | cons x ds ih =>
    cases h with
    | cons h1 h2 =>
      obtain ⟨us, ws, e, g1, g2⟩ := ih h2
      exact ⟨_ :: us, ws, by rw [e]; rfl, .cons h1 g1, g2⟩
theorem DqAll.reverse {vs : List V} {ds : List PD} (h : DqAll K H vs ds) : DqAll K H vs.reverse ds.reverse := by
  induction ds generalizing vs with
  | nil => cases h; exact .nil
  | cons x ds ih =>
    cases h with
    | cons h1 h2 =>
      rw [List.reverse_cons, List.reverse_cons]
      exact (ih h2).append (.cons h1 .nil)
end

/-! ### own objects -/
/-- what an own object holds -/
inductive Cn where
  | lst (xs : List PD)
  | dic (kvs : List (PD × PD))
  /-- with tuple keys -/
  | dit (kvs : List (PD × PD))
inductive RV where
  | dat (d : PD)
  | own (c : Cn)
  /-- the law's script -/
  | scr (ns : List Int)
  /-- a dict of data while it is walked -/
  | lck (kvs : List (PD × PD))
abbrev DS := List (Option RV)
/-- whose objects are own ones of some frame -/
abbrev Ow := Addr → Bool
def hid (O : Ow) (H : Hp) : Hp := fun a => if O a = true then none else H a
theorem hid_some {O : Ow} {H : Hp} {a : Addr} {o : HO} (h : hid O H a = some o) : O a = false ∧ H a = some o := by
  unfold hid at h
  split at h
  · cases h
  · rename_i n; exact ⟨by simpa using n, h⟩
theorem hid_of {O : Ow} {H : Hp} {a : Addr} (h : O a = false) : hid O H a = H a := by
  unfold hid; rw [h]; simp
theorem hid_ext {O : Ow} {H : Hp} : Ext (hid O H) H := fun _ _ h => (hid_some h).2
/-- the object at a holds c -/
def CH (K : Fg) (G H : Hp) (a : Addr) : Cn → Prop
  | .lst xs => ∃ vs, H a = some (.lst vs) ∧ DqAll K G vs xs
  | .dic kvs => ∃ ks, H a = some (.dK ks) ∧ DqKv K G ks kvs
  | .dit kvs => ∃ ks, H a = some (.dT ks) ∧ DqTv K G ks kvs
/-- a locked dict of data -/
def LckAt (K : Fg) (H : Hp) (a : Addr) (kvs : List (PD × PD)) : Prop := ∃ od, (∃ ks, H a = some (.frz od (.dK ks)) ∧ DqKv K H ks kvs) ∨ ∃ ks, H a = some (.frz od (.dT ks)) ∧ DqTv K H ks kvs
theorem LckAt.mono {K : Fg} {H H' : Hp} {a : Addr} {kvs : List (PD × PD)} (x : Ext H H') (h : LckAt K H a kvs) : LckAt K H' a kvs := by
  obtain ⟨od, ⟨ks, h1, h2⟩ | ⟨ks, h1, h2⟩⟩ := h
  · exact ⟨od, .inl ⟨ks, x _ _ h1, DqKv.mono x _ _ h2⟩⟩
  · exact ⟨od, .inr ⟨ks, x _ _ h1, DqTv.mono x h2⟩⟩
theorem CH.move {K : Fg} {G G' H H' : Hp} {a : Addr} {c : Cn} (x : Ext G G') (e : H' a = H a) (h : CH K G H a c) : CH K G' H' a c := by
  cases c with
  | lst xs =>
    obtain ⟨vs, h1, h2⟩ := h
    exact ⟨vs, e.trans h1, DqAll.mono x _ _ h2⟩
  | dic kvs =>
    obtain ⟨ks, h1, h2⟩ := h
    exact ⟨ks, e.trans h1, DqKv.mono x _ _ h2⟩
  | dit kvs =>
    obtain ⟨ks, h1, h2⟩ := h
    exact ⟨ks, e.trans h1, DqTv.mono x h2⟩
/-- v is r -/
def RH (K : Fg) (O : Ow) (H : Hp) (v : V) : RV → Prop
  | .dat d => Dq K (hid O H) v d
  | .own c => ∃ a, v = .ref a ∧ O a = true ∧ CH K (hid O H) H a c
  | .scr ns => ∃ a, v = .ref a ∧ SqL K (hid O H) a (ns.map V.int)
  | .lck kvs => ∃ a, v = .ref a ∧ LckAt K (hid O H) a kvs
/-- an own slot, its address -/
def OwnAt (σ : L2.St) (ds : DS) (i : Nat) (a : Addr) : Prop := (∃ c, ds[i]? = some (some (.own c))) ∧ σ[i]? = some (some (.ref a))
def IsOwn (σ : L2.St) (ds : DS) (a : Addr) : Prop := ∃ i, OwnAt σ ds i a
structure Sat (K : Fg) (O : Ow) (σ : L2.St) (H : Hp) (ds : DS) : Prop where
  len : σ.length = ds.length
  slot : ∀ (i : Nat) (r : RV), ds[i]? = some (some r) → ∃ v, σ[i]? = some (some v) ∧ RH K O H v r
  inj : ∀ (i j : Nat) (a : Addr), OwnAt σ ds i a → OwnAt σ ds j a → i = j
  trk : ∀ a, O a = true → ∃ o, H a = some o
structure Post (K : Fg) (P : Nat → Bool) (O O' : Ow) (σ σ' : L2.St) (H H' : Hp) (ds ds' : DS) : Prop where
  sat : Sat K O' σ' H' ds'
  ext : Ext (hid O H) (hid O' H')
  frn : ∀ a, O a = true → ¬ IsOwn σ ds a → O' a = true ∧ H' a = H a
  own : ∀ a, IsOwn σ' ds' a → O a = false ∨ IsOwn σ ds a
  keep : ∀ i, P i = true → σ'[i]? = σ[i]?
  lenk : σ'.length = σ.length
  old : ∀ a, H a ≠ none → H' a ≠ none
/-- no slot is to stay -/
def nk : Nat → Bool := fun _ => false
theorem Post.refl {K : Fg} {P : Nat → Bool} {O : Ow} {σ : L2.St} {H : Hp} {ds : DS} (s : Sat K O σ H ds) : Post K P O O σ σ H H ds ds :=
  ⟨s, Ext.refl _, fun _ h _ => ⟨h, rfl⟩, fun _ h => .inr h, fun _ _ => rfl, rfl, fun _ h => h⟩
theorem Post.trans {K : Fg} {P : Nat → Bool} {O O1 O2 : Ow} {σ σ1 σ2 : L2.St} {H H1 H2 : Hp} {ds ds1 ds2 : DS} (x : Post K P O O1 σ σ1 H H1 ds ds1) (y : Post K P O1 O2 σ1 σ2 H1 H2 ds1 ds2) : Post K P O O2 σ σ2 H H2 ds ds2 where
  sat := y.sat
  ext := x.ext.trans y.ext
  frn := fun a h n => by
    obtain ⟨h1, e1⟩ := x.frn a h n
    have n1 : ¬ IsOwn σ1 ds1 a := fun z => by
      rcases x.own a z with q | q
      · rw [h] at q; cases q
      · exact n q
    obtain ⟨h2, e2⟩ := y.frn a h1 n1
    exact ⟨h2, e2.trans e1⟩
  own := fun a h => by
    rcases y.own a h with q | q
    · cases e : O a with
      | false => exact .inl rfl
      | true =>
        refine .inr ?_
        exact Classical.byContradiction fun n => by
          have := (x.frn a e n).1
          rw [q] at this; cases this
    · exact x.own a q
  keep := fun i hi => (y.keep i hi).trans (x.keep i hi)
  lenk := y.lenk.trans x.lenk
  old := fun a h => y.old a (x.old a h)
theorem Sat.fresh {K : Fg} {O : Ow} {σ : L2.St} {H : Hp} {ds : DS} (s : Sat K O σ H ds) {a : Addr} (h : H a = none) : O a = false := by
  cases e : O a with
  | false => rfl
  | true =>
    obtain ⟨o, q⟩ := s.trk a e
    rw [h] at q; cases q
/-- a fresh own result, or data -/
def RvOk (K : Fg) (H : Hp) (O' : Ow) (σ : L2.St) (H' : Hp) (ds' : DS) (v : V) : RV → Prop
  | .dat d => Dq K (hid O' H') v d
  | .own c => ∃ a, v = .ref a ∧ H a = none ∧ O' a = true ∧ ¬ IsOwn σ ds' a ∧ CH K (hid O' H') H' a c
  | .scr ns => ∃ a, v = .ref a ∧ SqL K (hid O' H') a (ns.map V.int)
  | .lck _ => False
theorem RvOk.move {K : Fg} {P : Nat → Bool} {O1 O2 : Ow} {σ σ' : L2.St} {H H1 H2 : Hp} {ds1 ds2 : DS} {v : V} {r : RV} (h : RvOk K H O1 σ H1 ds1 v r) (p : Post K P O1 O2 σ σ' H1 H2 ds1 ds2) : RvOk K H O2 σ' H2 ds2 v r := by
  cases r with
  | dat d => exact Dq.mono p.ext _ _ h
  | own c =>
    obtain ⟨a, e, h0, h1, n, hc⟩ := h
    obtain ⟨h2, e2⟩ := p.frn a h1 n
    refine ⟨a, e, h0, h2, fun z => ?_, hc.move p.ext e2⟩
    rcases p.own a z with q | q
    · rw [h1] at q; cases q
    · exact n q
  | scr ns =>
    obtain ⟨a, e, h⟩ := h
    exact ⟨a, e, p.ext.sqL h⟩
  | lck kvs => exact h
theorem RvOk.pre {K : Fg} {O' : Ow} {σ : L2.St} {H H1 H' : Hp} {ds' : DS} {v : V} {r : RV} (h : RvOk K H1 O' σ H' ds' v r) (o : ∀ a, H a ≠ none → H1 a ≠ none) : RvOk K H O' σ H' ds' v r := by
  cases r with
  | dat d => exact h
  | own c =>
    obtain ⟨a, e, h0, r⟩ := h
    exact ⟨a, e, Classical.byContradiction fun n => o a n h0, r⟩
  | scr ns => exact h
  | lck kvs => exact h
/-- fresh objects alone -/
theorem Post.grow {K : Fg} {P : Nat → Bool} {O : Ow} {σ : L2.St} {H H' : Hp} {ds : DS} (s : Sat K O σ H ds) (x : Ext H H') : Post K P O O σ σ H H' ds ds := by
  have hx : Ext (hid O H) (hid O H') := fun a o h => by
    obtain ⟨h1, h2⟩ := hid_some h
    rw [hid_of h1]; exact x _ _ h2
  have same : ∀ a, O a = true → H' a = H a := fun a h => by
    obtain ⟨o, e⟩ := s.trk a h
    rw [e]; exact x _ _ e
  refine ⟨⟨s.len, fun i r e => ?_, s.inj, fun a h => ?_⟩, hx, fun a h _ => ⟨h, same a h⟩, fun _ h => .inr h, fun _ _ => rfl, rfl, fun a h z => ?_⟩
  · obtain ⟨v, e1, h⟩ := s.slot i r e
    refine ⟨v, e1, ?_⟩
    cases r with
    | dat d => exact Dq.mono hx _ _ h
    | own c =>
      obtain ⟨a, e2, ho, hc⟩ := h
      exact ⟨a, e2, ho, hc.move hx (same a ho)⟩
    | scr ns =>
      obtain ⟨a, e2, h⟩ := h
      exact ⟨a, e2, hx.sqL h⟩
    | lck kvs =>
      obtain ⟨a, e2, h⟩ := h
      exact ⟨a, e2, h.mono hx⟩
  · obtain ⟨o, e⟩ := s.trk a h
    exact ⟨o, x _ _ e⟩
  · cases e : H a with
    | none => exact h e
    | some o => rw [x _ _ e] at z; cases z
theorem ext_upd {H : Hp} {p : Addr} {o : HO} (h : H p = none) : Ext H (upd H p o) := fun a u e => by
  rw [upd_ne (ne_of_none e h)]; exact e
/-- p becomes an own one -/
def own1 (O : Ow) (p : Addr) : Ow := fun a => if a = p then true else O a
/-- a fresh own object -/
theorem Post.fresh {K : Fg} {P : Nat → Bool} {O : Ow} {σ : L2.St} {H H' : Hp} {ds : DS} {p : Addr} (s : Sat K O σ H ds) (hp : H p = none) (x : Ext H H') (hq : H' p ≠ none) : Post K P O (own1 O p) σ σ H H' ds ds ∧ ¬ IsOwn σ ds p := by
  have g := Post.grow (P := P) s x
  have np : ∀ a, O a = true → a ≠ p := fun a h e => by
    obtain ⟨o, q⟩ := s.trk a h
    rw [e, hp] at q; cases q
  have hx : Ext (hid O H) (hid (own1 O p) H') := fun a o h => by
    obtain ⟨h1, h2⟩ := hid_some h
    have ne : a ≠ p := fun e => by rw [e, hp] at h2; cases h2
    have : own1 O p a = false := by unfold own1; rw [if_neg ne]; exact h1
    rw [hid_of this]; exact x _ _ h2
  have nI : ¬ IsOwn σ ds p := fun ⟨i, ⟨c, e⟩, e2⟩ => by
    obtain ⟨v, e3, a, e4, ho, _⟩ := s.slot i _ e
    subst e4
    rw [e2] at e3; cases e3
    exact np _ ho rfl
  refine ⟨⟨⟨s.len, fun i r e => ?_, s.inj, fun a h => ?_⟩, hx, fun a h n => ⟨?_, (g.frn a h n).2⟩, fun _ h => .inr h, fun _ _ => rfl, rfl, g.old⟩, nI⟩
  · obtain ⟨v, e1, h⟩ := s.slot i r e
    refine ⟨v, e1, ?_⟩
    cases r with
    | dat d => exact Dq.mono hx _ _ h
    | own c =>
      obtain ⟨a, e2, ho, hc⟩ := h
      refine ⟨a, e2, ?_, hc.move hx ?_⟩
      · unfold own1; rw [if_neg (np a ho)]; exact ho
      · obtain ⟨o, e⟩ := s.trk a ho
        rw [e]; exact x _ _ e
    | scr ns =>
      obtain ⟨a, e2, h⟩ := h
      exact ⟨a, e2, hx.sqL h⟩
    | lck kvs =>
      obtain ⟨a, e2, h⟩ := h
      exact ⟨a, e2, h.mono hx⟩
  · by_cases e : a = p
    · subst e
      cases q : H' a with
      | none => exact absurd q hq
      | some o => exact ⟨o, rfl⟩
    · unfold own1 at h; rw [if_neg e] at h
      obtain ⟨o, q⟩ := s.trk a h
      exact ⟨o, x _ _ q⟩
  · unfold own1; rw [if_neg (np a h)]; exact h
/-- p is no own one any more -/
def off1 (O : Ow) (p : Addr) : Ow := fun a => if a = p then false else O a
theorem hid_off {O : Ow} {H : Hp} {p : Addr} : Ext (hid O H) (hid (off1 O p) H) := fun a o h => by
  obtain ⟨h1, h2⟩ := hid_some h
  have : off1 O p a = false := by unfold off1; split; rfl; exact h1
  rw [hid_of this]; exact h2
/-- what a frozen object is as data -/
def Cn.frz : Cn → PD
  | .lst xs => .list xs
  | .dic kvs => .dict kvs
  | .dit kvs => .dict kvs
def Cn.can : Cn → Bool := fun _ => true
theorem CH.frz {K : Fg} {O : Ow} {H : Hp} {p : Addr} {c : Cn} (h : CH K (hid O H) H p c) (hc : c.can = true) : Dq K (hid (off1 O p) H) (.ref p) c.frz := by
  have hp : hid (off1 O p) H p = H p := hid_of (by unfold off1; rw [if_pos rfl])
  cases c with
  | lst xs =>
    obtain ⟨vs, h1, h2⟩ := h
    exact .lst (hp.trans h1) (DqAll.mono hid_off _ _ h2)
  | dic kvs =>
    obtain ⟨ks, h1, h2⟩ := h
    exact .dic (.inl (hp.trans h1)) (DqKv.mono hid_off _ _ h2)
  | dit kvs =>
    obtain ⟨ks, h1, h2⟩ := h
    exact .dit (.inl (hp.trans h1)) (DqTv.mono hid_off h2)
/-- a fresh own one frozen -/
theorem Post.frz {K : Fg} {P : Nat → Bool} {O O' : Ow} {σ : L2.St} {H H' : Hp} {ds ds' : DS} {p : Addr} (x : Post K P O O' σ σ H H' ds ds') (hp : O p = false) (n : ¬ IsOwn σ ds' p) : Post K P O (off1 O' p) σ σ H H' ds ds' := by
  refine ⟨⟨x.sat.len, fun i r e => ?_, x.sat.inj, fun a h => ?_⟩, x.ext.trans hid_off, fun a h m => ?_, x.own, x.keep, x.lenk, x.old⟩
  · obtain ⟨v, e1, h⟩ := x.sat.slot i r e
    refine ⟨v, e1, ?_⟩
    cases r with
    | dat d => exact Dq.mono hid_off _ _ h
    | own c =>
      obtain ⟨a, e2, ho, hc⟩ := h
      have ne : a ≠ p := fun z => n ⟨i, ⟨c, e⟩, by rw [e1, e2, z]⟩
      refine ⟨a, e2, ?_, hc.move hid_off rfl⟩
      unfold off1; rw [if_neg ne]; exact ho
    | scr ns =>
      obtain ⟨a, e2, h⟩ := h
      exact ⟨a, e2, hid_off.sqL h⟩
    | lck kvs =>
      obtain ⟨a, e2, h⟩ := h
      exact ⟨a, e2, h.mono hid_off⟩
  · unfold off1 at h
    split at h
    · cases h
    · exact x.sat.trk a h
  · obtain ⟨h1, h2⟩ := x.frn a h m
    refine ⟨?_, h2⟩
    have ne : a ≠ p := fun z => by rw [z, hp] at h; cases h
    unfold off1; rw [if_neg ne]; exact h1
end DL

namespace DL
open PySem PySem.Spec PyProof.Rows L2

/-- an error of the program's own: its class, its value -/
structure Ex where
  cls : Str
  val : PD
inductive Rs (α : Type) where
  | ok (a : α) (ds : DS)
  | ex (x : Ex) (ds : DS)
  | err
abbrev M (α : Type) := DS → Rs α
def ret {α : Type} (a : α) : M α := fun ds => .ok a ds
def stuck {α : Type} : M α := fun _ => .err
def bnd {α β : Type} (f : M α) (g : α → M β) : M β := fun ds => match f ds with
  | .ok a ds' => g a ds'
  | .ex x ds' => .ex x ds'
  | .err => .err
def ofO {α : Type} : Option α → M α
  | some a => ret a
  | none => stuck
/-- what is wished of errors; the classes by name -/
structure Wi where
  W : WX
  ce : Str → Option Value
def Wi.no : Wi := ⟨fun _ _ _ _ => False, fun _ => none⟩

section
variable {α β : Type}
/-- what must hold behind an error -/
def RdX (K : Fg) (w : Wi) (O : Ow) (σ : L2.St) (H : Hp) (ds : DS) (x : Ex) (ds' : DS) : Prop :=
  ∃ cl, w.ce x.cls = some cl ∧ ∀ v d H' O', Post K nk O O' σ σ H H' ds ds' → H' d = some (.xd [("value", v)]) → O' d = false → Dq K (hid O' H') v x.val → w.W cl (some d) σ H'
def RdK (K : Fg) (w : Wi) (tr : α → RV) (O : Ow) (σ : L2.St) (H : Hp) (ds : DS) (r : Rs α) (Q : VK) : Prop := match r with
  | .ok a ds' => ∀ v H' O', Post K nk O O' σ σ H H' ds ds' → RvOk K H O' σ H' ds' v (tr a) → Q v H'
  | .ex x ds' => RdX K w O σ H ds x ds'
  | .err => False
/-- an expression's reading by data -/
def rd (K : Fg) (w : Wi) (tr : α → RV) (f : M α) : TE := fun σ H Q => ∃ O ds, Sat K O σ H ds ∧ RdK K w tr O σ H ds (f ds) Q
abbrev rdD (K : Fg) (w : Wi) (f : M PD) : TE := rd K w .dat f
abbrev rdO (K : Fg) (w : Wi) (f : M Cn) : TE := rd K w .own f
/-- a test's -/
def RdT (K : Fg) (w : Wi) (O : Ow) (σ : L2.St) (H : Hp) (ds : DS) (r : Rs Bool) (Q : Bool → Hp → Prop) : Prop := match r with
  | .ok b ds' => ∀ H' O', Post K nk O O' σ σ H H' ds ds' → Q b H'
  | .ex x ds' => RdX K w O σ H ds x ds'
  | .err => False
def rdT (K : Fg) (w : Wi) (f : M Bool) : TT := fun σ H Q => ∃ O ds, Sat K O σ H ds ∧ RdT K w O σ H ds (f ds) Q
/-- an argument list's -/
def RdA (K : Fg) (w : Wi) (O : Ow) (σ : L2.St) (H : Hp) (ds : DS) (r : Rs (List PD)) (Q : List V → Hp → Prop) : Prop := match r with
  | .ok xs ds' => ∀ vs H' O', Post K nk O O' σ σ H H' ds ds' → DqAll K (hid O' H') vs xs → Q vs H'
  | .ex x ds' => RdX K w O σ H ds x ds'
  | .err => False
def rdA (K : Fg) (w : Wi) (f : M (List PD)) : TA := fun σ H Q => ∃ O ds, Sat K O σ H ds ∧ RdA K w O σ H ds (f ds) Q

variable {K : Fg} {w : Wi} {O O1 : Ow} {σ : L2.St} {H H1 : Hp} {ds ds1 : DS} {tr : α → RV} {tr' : β → RV} {Q : VK}
theorem RdX.pre {x : Ex} {ds' : DS} (p : Post K nk O O1 σ σ H H1 ds ds1) (h : RdX K w O σ H ds x ds') : RdX K w O1 σ H1 ds1 x ds' := by
  obtain ⟨cl, e, h⟩ := h
  exact ⟨cl, e, fun v d H' O' q => h v d H' O' (p.trans q)⟩
theorem RdK.pre {r : Rs α} (p : Post K nk O O1 σ σ H H1 ds ds1) (h : RdK K w tr O σ H ds r Q) : RdK K w tr O1 σ H1 ds1 r Q := by
  cases r with
  | ok a ds' => exact fun v H' O' q rv => h v H' O' (p.trans q) (rv.pre p.old)
  | ex x ds' => exact RdX.pre p h
  | err => exact h
theorem RdT.pre {r : Rs Bool} {Q : Bool → Hp → Prop} (p : Post K nk O O1 σ σ H H1 ds ds1) (h : RdT K w O σ H ds r Q) : RdT K w O1 σ H1 ds1 r Q := by
  cases r with
  | ok a ds' => exact fun H' O' q => h H' O' (p.trans q)
  | ex x ds' => exact RdX.pre p h
  | err => exact h
theorem RdA.pre {r : Rs (List PD)} {Q : List V → Hp → Prop} (p : Post K nk O O1 σ σ H H1 ds ds1) (h : RdA K w O σ H ds r Q) : RdA K w O1 σ H1 ds1 r Q := by
  cases r with
  | ok a ds' => exact fun vs H' O' q => h vs H' O' (p.trans q)
  | ex x ds' => exact RdX.pre p h
  | err => exact h
/-- in a row -/
theorem RdK.bind {f : M α} {g : α → M β} (h : RdK K w tr' O σ H ds (bnd f g ds) Q) {Q1 : VK}
    (k : ∀ a v H1 O1 ds1, Post K nk O O1 σ σ H H1 ds ds1 → RvOk K H O1 σ H1 ds1 v (tr a) → RdK K w tr' O1 σ H1 ds1 (g a ds1) Q → Q1 v H1) : RdK K w tr O σ H ds (f ds) Q1 := by
  unfold bnd at h
  cases e : f ds with
  | ok a ds' =>
    rw [e] at h
    exact fun v H' O' q rv => k a v H' O' ds' q rv (RdK.pre q h)
  | ex x ds' => rw [e] at h; exact h
  | err => rw [e] at h; exact h
/-- .. what follows told from the beginning -/
theorem RdK.bind0 {f : M α} {g : α → M β} (h : RdK K w tr' O σ H ds (bnd f g ds) Q) {Q1 : VK}
    (k : ∀ a v H1 O1 ds1, Post K nk O O1 σ σ H H1 ds ds1 → RvOk K H O1 σ H1 ds1 v (tr a) → RdK K w tr' O σ H ds (g a ds1) Q → Q1 v H1) : RdK K w tr O σ H ds (f ds) Q1 := by
  unfold bnd at h
  cases e : f ds with
  | ok a ds' =>
    rw [e] at h
    exact fun v H' O' q rv => k a v H' O' ds' q rv h
  | ex x ds' => rw [e] at h; exact h
  | err => rw [e] at h; exact h
theorem RdK.bindT {f : M α} {g : α → M Bool} {Q : Bool → Hp → Prop} (h : RdT K w O σ H ds (bnd f g ds) Q) {Q1 : VK}
    (k : ∀ a v H1 O1 ds1, Post K nk O O1 σ σ H H1 ds ds1 → RvOk K H O1 σ H1 ds1 v (tr a) → RdT K w O1 σ H1 ds1 (g a ds1) Q → Q1 v H1) : RdK K w tr O σ H ds (f ds) Q1 := by
  unfold bnd at h
  cases e : f ds with
  | ok a ds' =>
    rw [e] at h
    exact fun v H' O' q rv => k a v H' O' ds' q rv (RdT.pre q h)
  | ex x ds' => rw [e] at h; exact h
  | err => rw [e] at h; exact h
theorem RdT.bind {f : M Bool} {g : Bool → M β} (h : RdK K w tr' O σ H ds (bnd f g ds) Q) {Q1 : Bool → Hp → Prop}
    (k : ∀ a H1 O1 ds1, Post K nk O O1 σ σ H H1 ds ds1 → RdK K w tr' O1 σ H1 ds1 (g a ds1) Q → Q1 a H1) : RdT K w O σ H ds (f ds) Q1 := by
  unfold bnd at h
  cases e : f ds with
  | ok a ds' =>
    rw [e] at h
    exact fun H' O' q => k a H' O' ds' q (RdK.pre q h)
  | ex x ds' => rw [e] at h; exact h
  | err => rw [e] at h; exact h
theorem RdT.bindT {f : M Bool} {g : Bool → M Bool} {Q : Bool → Hp → Prop} (h : RdT K w O σ H ds (bnd f g ds) Q) {Q1 : Bool → Hp → Prop}
    (k : ∀ a H1 O1 ds1, Post K nk O O1 σ σ H H1 ds ds1 → RdT K w O1 σ H1 ds1 (g a ds1) Q → Q1 a H1) : RdT K w O σ H ds (f ds) Q1 := by
  unfold bnd at h
  cases e : f ds with
  | ok a ds' =>
    rw [e] at h
    exact fun H' O' q => k a H' O' ds' q (RdT.pre q h)
  | ex x ds' => rw [e] at h; exact h
  | err => rw [e] at h; exact h
theorem RdA.bind {f : M (List PD)} {g : List PD → M β} (h : RdK K w tr' O σ H ds (bnd f g ds) Q) {Q1 : List V → Hp → Prop}
    (k : ∀ xs vs H1 O1 ds1, Post K nk O O1 σ σ H H1 ds ds1 → DqAll K (hid O1 H1) vs xs → RdK K w tr' O1 σ H1 ds1 (g xs ds1) Q → Q1 vs H1) : RdA K w O σ H ds (f ds) Q1 := by
  unfold bnd at h
  cases e : f ds with
  | ok a ds' =>
    rw [e] at h
    exact fun vs H' O' q rv => k a vs H' O' ds' q rv (RdK.pre q h)
  | ex x ds' => rw [e] at h; exact h
  | err => rw [e] at h; exact h
theorem RdA.bindA {f : M (List PD)} {g : List PD → M (List PD)} {Q : List V → Hp → Prop} (h : RdA K w O σ H ds (bnd f g ds) Q) {Q1 : List V → Hp → Prop}
    (k : ∀ xs vs H1 O1 ds1, Post K nk O O1 σ σ H H1 ds ds1 → DqAll K (hid O1 H1) vs xs → RdA K w O1 σ H1 ds1 (g xs ds1) Q → Q1 vs H1) : RdA K w O σ H ds (f ds) Q1 := by
  unfold bnd at h
  cases e : f ds with
  | ok a ds' =>
    rw [e] at h
    exact fun vs H' O' q rv => k a vs H' O' ds' q rv (RdA.pre q h)
  | ex x ds' => rw [e] at h; exact h
  | err => rw [e] at h; exact h
theorem RdK.bindA {f : M α} {g : α → M (List PD)} {Q : List V → Hp → Prop} (h : RdA K w O σ H ds (bnd f g ds) Q) {Q1 : VK}
    (k : ∀ a v H1 O1 ds1, Post K nk O O1 σ σ H H1 ds ds1 → RvOk K H O1 σ H1 ds1 v (tr a) → RdA K w O1 σ H1 ds1 (g a ds1) Q → Q1 v H1) : RdK K w tr O σ H ds (f ds) Q1 := by
  unfold bnd at h
  cases e : f ds with
  | ok a ds' =>
    rw [e] at h
    exact fun v H' O' q rv => k a v H' O' ds' q rv (RdA.pre q h)
  | ex x ds' => rw [e] at h; exact h
  | err => rw [e] at h; exact h
/-- a plain answer where one stands -/
theorem RdK.dat_here {d : PD} {v : V} (s : Sat K O σ H ds) (h : RdK K w RV.dat O σ H ds (.ok d ds) Q) (hv : Dq K (hid O H) v d) : Q v H := h v H O (Post.refl s) hv
theorem RdK.dat_grow {d : PD} {v : V} {H' : Hp} (s : Sat K O σ H ds) (h : RdK K w RV.dat O σ H ds (.ok d ds) Q) (x : Ext H H') (hv : Dq K (hid O H') v d) : Q v H' := h v H' O (Post.grow s x) hv
theorem RdK.own_fresh {c : Cn} {p : Addr} {H' : Hp} (s : Sat K O σ H ds) (h : RdK K w RV.own O σ H ds (.ok c ds) Q) (hp : H p = none) (x : Ext H H') (hq : H' p ≠ none) (hc : CH K (hid (own1 O p) H') H' p c) : Q (.ref p) H' := by
  obtain ⟨q, n⟩ := Post.fresh (P := nk) s hp x hq
  exact h _ H' (own1 O p) q ⟨p, rfl, hp, by unfold own1; rw [if_pos rfl], n, hc⟩
end

/-! ### values of operations -/
/-- what an answer z at a heap that has grown must lead to -/
def KOk (K : Fg) (O : Ow) (H : Hp) (z : RV) (Q : VK) : Prop := match z with
  | .dat d => ∀ v H', Ext H H' → Dq K (hid O H') v d → Q v H'
  | .own c => ∀ p H', H p = none → Ext H H' → H' p ≠ none → CH K (hid (own1 O p) H') H' p c → Q (.ref p) H'
  | .scr ns => ∀ v H', Ext H H' → (∃ a, v = .ref a ∧ SqL K (hid O H') a (ns.map V.int)) → Q v H'
  | .lck _ => True
def Live (O : Ow) (H : Hp) : Prop := ∀ p, O p = true → H p ≠ none
section
variable {α : Type}
/-- operations on data: one, two places, a list of arguments -/
def Vo2 (K : Fg) (tr : α → RV) (r : R2) (f : PD → PD → Option α) : Prop :=
  ∀ (O : Ow) (H : Hp) (x y : V) (a b : PD) (z : α) (Q : VK), Live O H → Dq K (hid O H) x a → Dq K (hid O H) y b → f a b = some z → KOk K O H (tr z) Q → r x y H Q
def Vo1 (K : Fg) (tr : α → RV) (r : V → Hp → VK → Prop) (f : PD → Option α) : Prop :=
  ∀ (O : Ow) (H : Hp) (x : V) (a : PD) (z : α) (Q : VK), Live O H → Dq K (hid O H) x a → f a = some z → KOk K O H (tr z) Q → r x H Q
def VoN (K : Fg) (tr : α → RV) (r : List V → Hp → VK → Prop) (f : List PD → Option α) : Prop :=
  ∀ (O : Ow) (H : Hp) (xs : List V) (as : List PD) (z : α) (Q : VK), Live O H → DqAll K (hid O H) xs as → f as = some z → KOk K O H (tr z) Q → r xs H Q
end
theorem RdK.kok {α : Type} {K : Fg} {w : Wi} {O : Ow} {σ : L2.St} {H : Hp} {ds : DS} {tr : α → RV} {z : α} {Q : VK} (s : Sat K O σ H ds) (h : RdK K w tr O σ H ds (.ok z ds) Q) : KOk K O H (tr z) Q := by
  unfold KOk
  have h : ∀ v H' O', Post K nk O O' σ σ H H' ds ds → RvOk K H O' σ H' ds v (tr z) → Q v H' := h
  generalize tr z = r at h
  cases r with
  | dat d => exact fun v H' x hv => h v H' O (Post.grow s x) hv
  | own c =>
      intro p H' hp x hq hc
      obtain ⟨q, n⟩ := Post.fresh (P := nk) s hp x hq
      exact h _ H' (own1 O p) q ⟨p, rfl, hp, by unfold own1; rw [if_pos rfl], n, hc⟩
  | scr ns => exact fun v H' x hv => h v H' O (Post.grow s x) hv
  | lck kvs => exact trivial
/-- .. data where one stands -/
theorem KOk.here {K : Fg} {O : Ow} {H : Hp} {d : PD} {Q : VK} {v : V} (h : KOk K O H (.dat d) Q) (hv : Dq K (hid O H) v d) : Q v H := h v H (Ext.refl H) hv
theorem Sat.live {K : Fg} {O : Ow} {σ : L2.St} {H : Hp} {ds : DS} (s : Sat K O σ H ds) : ∀ p, O p = true → H p ≠ none := fun p h e => by
  obtain ⟨o, q⟩ := s.trk p h
  rw [e] at q; cases q
/-- a fresh own object among hidden ones: data of the heap ahead is data behind -/
theorem ext_own {O : Ow} {H H' : Hp} {p : Addr} (hp : H p = none) (x : Ext H H') : Ext (hid O H) (hid (own1 O p) H') := fun a o h => by
  obtain ⟨h1, h2⟩ := hid_some h
  have ne : a ≠ p := fun e => by rw [e, hp] at h2; cases h2
  have : own1 O p a = false := by unfold own1; rw [if_neg ne]; exact h1
  rw [hid_of this]; exact x _ _ h2
theorem ext_hid {O : Ow} {H H' : Hp} (x : Ext H H') : Ext (hid O H) (hid O H') := fun a o h => by
  obtain ⟨h1, h2⟩ := hid_some h
  rw [hid_of h1]; exact x _ _ h2
/-- a new frozen object at a fresh place is seen -/
theorem hid_new {O : Ow} {H : Hp} {p : Addr} {o : HO} (hl : ∀ p, O p = true → H p ≠ none) (hp : H p = none) : hid O (upd H p o) p = some o := by
  have : O p = false := by
    cases e : O p with
    | false => rfl
    | true => exact absurd hp (hl p e)
  rw [hid_of this, upd_same]

section
variable {X : Cx} {w : Wi} {a b : Expr} {pos : Pos}
theorem _root_.L2.PE.weak {e : Expr} {t t' : TE} (h : PE X e t) (i : ∀ σ H Q, t' σ H Q → t σ H Q) : PE X e t' := ⟨fun pins s σ H Q I q => h.run pins s σ H Q I (i σ H Q q)⟩
theorem _root_.L2.PT.weak {e : Expr} {t t' : TT} (h : PT X e t) (i : ∀ σ H Q, t' σ H Q → t σ H Q) : PT X e t' := ⟨fun pins s σ H Q I q => h.run pins s σ H Q I (i σ H Q q)⟩
theorem _root_.L2.PA.weak {e : List Expr} {t t' : TA} (h : PA X e t) (i : ∀ σ H Q, t' σ H Q → t σ H Q) : PA X e t' := ⟨fun pos pins s σ H Q I q => h.run pos pins s σ H Q I (i σ H Q q)⟩
theorem _root_.L2.PS.weak {st : Stmt} {t t' : TS} (h : PS X st t) (i : ∀ D σ H, t' D σ H → t D σ H) : PS X st t' := ⟨fun pins s σ H D I q => h.run pins s σ H D I (i D σ H q)⟩
theorem _root_.L2.PSs.weak {st : List Stmt} {t t' : TS} (h : PSs X st t) (i : ∀ D σ H, t' D σ H → t D σ H) : PSs X st t' := ⟨fun pins s σ H D I q => h.run pins s σ H D I (i D σ H q)⟩
abbrev DE (X : Cx) (w : Wi) (e : Expr) (f : M PD) : Prop := PE X e (rdD X.K w f)
abbrev OE (X : Cx) (w : Wi) (e : Expr) (f : M Cn) : Prop := PE X e (rdO X.K w f)
abbrev DT (X : Cx) (w : Wi) (e : Expr) (f : M Bool) : Prop := PT X e (rdT X.K w f)
abbrev DA (X : Cx) (w : Wi) (es : List Expr) (f : M (List PD)) : Prop := PA X es (rdA X.K w f)

/-! names, constants -/
def gv (i : Nat) : M PD := fun ds => match ds[i]? with
  | some (some (.dat d)) => .ok d ds
  | _ => .err
theorem de_var {e : Expr} {i : Nat} (h : PE X e (tVar i)) : DE X w e (gv i) := h.weak fun σ H Q ⟨O, ds, s, q⟩ => by
  unfold gv at q
  split at q
  · rename_i d e
    obtain ⟨v, e1, hv⟩ := s.slot i _ e
    exact ⟨v, e1, q.dat_here s hv⟩
  · exact q.elim
theorem de_c {e : Expr} {v : V} {d : PD} (h : PE X e (tC v)) (hd : ∀ H, Dq X.K H v d) : DE X w e (ret d) := h.weak fun σ H Q ⟨O, ds, s, q⟩ => q.dat_here s (hd _)
theorem de_int {i : Int} {j : Nat} : DE X w (.Constant (.int i) j pos) (ret (.int i)) := de_c pe_int fun _ => .int i
theorem de_bl {b : Bool} {j : Nat} : DE X w (.Constant (.bool b) j pos) (ret (.bool b)) := de_c pe_bl fun _ => .bl b
theorem de_non {j : Nat} : DE X w (.Constant .none j pos) (ret .none) := de_c pe_non fun _ => .non
theorem de_str {x : Str} {j : Nat} : DE X w (.Constant (.str x) j pos) (ret (.str x)) := de_c pe_str fun _ => .str x
/-- a module's constant -/
theorem de_gi {x : Str} {i : Int} {u : Value} (hg : Gl X x) (hm : X.mg x = some u) (r : RelV (.int i) u) (hd : (x == ("__debug__" : Str)) = false := by decide) : DE X w (.Name x pos) (ret (.int i)) := de_c (pe_glob hg hm r hd) fun _ => .int i
theorem de_gs {x : Str} {i : Str} {u : Value} (hg : Gl X x) (hm : X.mg x = some u) (r : RelV (.str i) u) (hd : (x == ("__debug__" : Str)) = false := by decide) : DE X w (.Name x pos) (ret (.str i)) := de_c (pe_glob hg hm r hd) fun _ => .str i
/-- a fresh own object taken as data -/
def fz (f : M Cn) : M PD := bnd f fun c => if c.can = true then ret c.frz else stuck
theorem de_fz {e : Expr} {f : M Cn} (h : OE X w e f) : DE X w e (fz f) := h.weak fun σ H Q ⟨O, ds, s, q⟩ => by
  refine ⟨O, ds, s, q.bind0 fun c v H1 O1 ds1 p rv h1 => ?_⟩
  obtain ⟨a, rfl, h0, ho, n, hc⟩ := rv
  by_cases z : c.can = true
  · rw [if_pos z] at h1
    exact h1 _ H1 (off1 O1 a) (p.frz (s.fresh h0) n) (hc.frz z)
  · rw [if_neg z] at h1
    exact h1.elim
end
end DL

namespace DL
open PySem PySem.Spec PyProof.Rows L2

def lim : Nat := 16777216
theorem lim_le : lim ≤ sizeLine := by rw [sizeLine_eq]; decide
theorem le_line {n : Nat} (h : n ≤ lim) : n ≤ sizeLine := Nat.le_trans h lim_le

def bin {α : Type} (f : PD → PD → Option α) (fa fb : M PD) : M α := bnd fa fun x => bnd fb fun y => ofO (f x y)
def una {α : Type} (f : PD → Option α) (fa : M PD) : M α := bnd fa fun x => ofO (f x)
def nry {α : Type} (f : List PD → Option α) (fa : M (List PD)) : M α := bnd fa fun x => ofO (f x)
/-- the items of a list or tuple -/
def seqOf : PD → Option (List PD)
  | .list xs => some xs
  | .tuple xs => some xs
  | _ => none
theorem Dq.seq {K : Fg} {H : Hp} {v : V} {d : PD} {xs : List PD} (h : Dq K H v d) (e : seqOf d = some xs) : ∃ a vs, v = .ref a ∧ (SqL K H a vs ∨ SqT K H a vs) ∧ DqAll K H vs xs := by
  cases h with
  | lst h1 h2 => cases e; exact ⟨_, _, rfl, .inl (.inl (.inl h1)), h2⟩
  | tup h1 h2 => cases e; exact ⟨_, _, rfl, .inr h1, h2⟩
  | _ => cases e

section
variable {X : Cx} {w : Wi} {a b : Expr} {pos : Pos} {es : List Expr} {α : Type} {tr : α → RV}

/-! argument lists -/
theorem da_nil : DA X w [] (ret []) := pa_nil.weak fun σ H Q ⟨O, ds, s, q⟩ => q [] H O (Post.refl s) .nil
theorem da_cons {f : M PD} {g : M (List PD)} (ha : DE X w a f) (hr : DA X w es g) (hs : starEach (a :: es) X.env = (false, eval a X.env) :: starEach es X.env := by rfl) :
    DA X w (a :: es) (bnd f fun x => bnd g fun xs => ret (x :: xs)) := (pa_cons ha hr hs).weak fun σ H Q ⟨O, ds, s, q⟩ => by
  refine ⟨O, ds, s, RdK.bindA q fun x v H1 O1 ds1 p rv h1 => ⟨O1, ds1, p.sat, RdA.bindA h1 fun xs vs H2 O2 ds2 p2 hv h2 => ?_⟩⟩
  exact h2 (v :: vs) H2 O2 (Post.refl p2.sat) (.cons (Dq.mono p2.ext _ _ rv) hv)
theorem da_star {f : M PD} {g : M (List PD)} {p : Pos} (ha : DE X w a f) (hr : DA X w es g) (hs : starEach (.Starred a p :: es) X.env = (true, eval a X.env) :: starEach es X.env := by rfl) :
    DA X w (.Starred a p :: es) (bnd f fun x => match seqOf x with | some ys => bnd g fun xs => ret (ys ++ xs) | none => stuck) := (StX.pa_star ha hr hs).weak fun σ H Q ⟨O, ds, s, q⟩ => by
  refine ⟨O, ds, s, RdK.bindA q fun x v H1 O1 ds1 p rv h1 => ?_⟩
  cases e : seqOf x with
  | none => rw [e] at h1; exact h1.elim
  | some ys =>
    rw [e] at h1
    obtain ⟨c, us, rfl, hq, hu⟩ := Dq.seq rv e
    refine ⟨c, us, rfl, ?_, O1, ds1, p.sat, RdA.bindA h1 fun xs vs H2 O2 ds2 p2 hv h2 => ?_⟩
    · rcases hq with h | h
      · exact .inr (hid_ext.sqL h)
      · exact .inl (hid_ext.sqT h)
    · exact h2 (us ++ vs) H2 O2 (Post.refl p2.sat) ((DqAll.mono p2.ext _ _ hu).append hv)

/-! displays -/
def mkTup (f : M (List PD)) : M PD := nry (fun xs => if xs.length ≤ lim then some (.tuple xs) else none) f
def mkLst (f : M (List PD)) : M Cn := nry (fun xs => if xs.length ≤ lim then some (.lst xs) else none) f
theorem Live.off {O : Ow} {H : Hp} {p : Addr} (l : Live O H) (hp : H p = none) : O p = false := by
  cases e : O p with
  | false => rfl
  | true => exact absurd hp (l p e)
theorem dq_newT {K : Fg} {O : Ow} {H : Hp} {p : Addr} {vs : List V} {xs : List PD} (l : Live O H) (hp : H p = none) (hv : DqAll K (hid O H) vs xs) : Dq K (hid O (upd H p (.tup vs))) (.ref p) (.tuple xs) :=
  .tup (.inl (.inl (by rw [hid_of (l.off hp), upd_same]))) (DqAll.mono (ext_hid (ext_upd hp)) _ _ hv)
theorem dq_newL {K : Fg} {O : Ow} {H : Hp} {p : Addr} {vs : List V} {xs : List PD} (l : Live O H) (hp : H p = none) (hv : DqAll K (hid O H) vs xs) : Dq K (hid O (upd H p (.lst vs))) (.ref p) (.list xs) :=
  .lst (by rw [hid_of (l.off hp), upd_same]) (DqAll.mono (ext_hid (ext_upd hp)) _ _ hv)
theorem ch_newL {K : Fg} {O : Ow} {H : Hp} {p : Addr} {vs : List V} {xs : List PD} (hp : H p = none) (hv : DqAll K (hid O H) vs xs) : CH K (hid (own1 O p) (upd H p (.lst vs))) (upd H p (.lst vs)) p (.lst xs) :=
  ⟨vs, upd_same, DqAll.mono (ext_own hp (ext_upd hp)) _ _ hv⟩
theorem upd_nn {H : Hp} {p : Addr} {o : HO} : upd H p o p ≠ none := by rw [upd_same]; simp
/-- by its two ways out: a new list at p -/
theorem KOk.newL {K : Fg} {O : Ow} {H : Hp} {vs : List V} {xs : List PD} {Q : VK} {p : Addr} (h : KOk K O H (.own (.lst xs)) Q) (hp : H p = none) (hv : DqAll K (hid O H) vs xs) : Q (.ref p) (upd H p (.lst vs)) :=
  h p _ hp (ext_upd hp) upd_nn (ch_newL hp hv)
theorem KOk.newT {K : Fg} {O : Ow} {H : Hp} {vs : List V} {xs : List PD} {Q : VK} {p : Addr} (h : KOk K O H (.dat (.tuple xs)) Q) (l : Live O H) (hp : H p = none) (hv : DqAll K (hid O H) vs xs) : Q (.ref p) (upd H p (.tup vs)) :=
  h _ _ (ext_upd hp) (dq_newT l hp hv)
theorem de_tup {f : M (List PD)} {k : Nat} (h : DA X w es f) : DE X w (.Tuple es k pos) (mkTup f) := (pe_tup h).weak fun σ H Q ⟨O, ds, s, q⟩ => by
  refine ⟨O, ds, s, RdA.bind q fun xs vs H1 O1 ds1 p hv h1 => ?_⟩
  have h1 : RdK X.K w RV.dat O1 σ H1 ds1 (ofO (if xs.length ≤ lim then some (PyData.tuple xs) else none) ds1) Q := h1
  by_cases z : xs.length ≤ lim
  · rw [if_pos z] at h1
    exact ⟨by rw [hv.length]; exact le_line z, fun p' hp => (RdK.kok p.sat h1).newT p.sat.live hp hv⟩
  · rw [if_neg z] at h1; exact h1.elim
theorem oe_lst {f : M (List PD)} (h : DA X w es f) : OE X w (.List es pos) (mkLst f) := (pe_lst h).weak fun σ H Q ⟨O, ds, s, q⟩ => by
  refine ⟨O, ds, s, RdA.bind q fun xs vs H1 O1 ds1 p hv h1 => ?_⟩
  have h1 : RdK X.K w RV.own O1 σ H1 ds1 (ofO (if xs.length ≤ lim then some (Cn.lst xs) else none) ds1) Q := h1
  by_cases z : xs.length ≤ lim
  · rw [if_pos z] at h1
    exact ⟨by rw [hv.length]; exact le_line z, fun p' hp => (RdK.kok p.sat h1).newL hp hv⟩
  · rw [if_neg z] at h1; exact h1.elim
/-- an own result among plain ones, as data -/
def frzV (f : M RV) : M PD := bnd f fun r => match r with
  | .dat d => ret d
  | .own c => if c.can = true then ret c.frz else stuck
  | .scr _ => stuck
  | .lck _ => stuck
abbrev VE (X : Cx) (w : Wi) (e : Expr) (f : M RV) : Prop := PE X e (rd X.K w id f)
theorem de_v {f : M RV} (h : VE X w a f) : DE X w a (frzV f) := h.weak fun σ H Q ⟨O, ds, s, q⟩ => by
  refine ⟨O, ds, s, RdK.bind0 q fun r v H1 O1 ds1 p rv h1 => ?_⟩
  cases r with
  | dat d => exact h1 v H1 O1 p rv
  | own c =>
    obtain ⟨a, rfl, h0, ho, n, hc⟩ := rv
    by_cases z : c.can = true
    · have h1 : RdK X.K w RV.dat O σ H ds ((if c.can = true then ret c.frz else stuck) ds1) Q := h1
      rw [if_pos z] at h1
      exact h1 _ H1 (off1 O1 a) (p.frz (s.fresh h0) n) (hc.frz z)
    · have h1 : RdK X.K w RV.dat O σ H ds ((if c.can = true then ret c.frz else stuck) ds1) Q := h1
      rw [if_neg z] at h1
      exact h1.elim
  | scr _ => exact h1.elim
  | lck _ => exact h1.elim
/-- .. as an own one -/
def ownV (f : M RV) : M Cn := bnd f fun r => match r with
  | .own c => ret c
  | _ => stuck
theorem oe_v {f : M RV} (h : VE X w a f) : OE X w a (ownV f) := h.weak fun σ H Q ⟨O, ds, s, q⟩ => by
  refine ⟨O, ds, s, RdK.bind0 q fun r v H1 O1 ds1 p rv h1 => ?_⟩
  cases r with
  | dat d => exact h1.elim
  | own c => exact h1 v H1 O1 p rv
  | scr _ => exact h1.elim
  | lck _ => exact h1.elim

/-! operators -/
theorem xe_op {op : Operator} {r : R2} {f : PD → PD → Option α} {fa fb : M PD} (ho : OpR X (binaryOp op) r) (hv : Vo2 X.K tr r f) (ha : DE X w a fa) (hb : DE X w b fb) : PE X (.BinOp a op b pos) (rd X.K w tr (bin f fa fb)) :=
  (pe_op ho ha hb).weak fun σ H Q ⟨O, ds, s, q⟩ => by
  refine ⟨O, ds, s, RdK.bind q fun x v H1 O1 ds1 p rv h1 => ⟨O1, ds1, p.sat, RdK.bind h1 fun y u H2 O2 ds2 p2 rv2 h2 => ?_⟩⟩
  cases e : f x y with
  | none => rw [e] at h2; exact h2.elim
  | some z =>
    rw [e] at h2
    exact hv O2 H2 v u x y z Q p2.sat.live (Dq.mono p2.ext _ _ rv) rv2 e (RdK.kok p2.sat h2)
theorem xe_un {op : UnaryOp} {r : V → Hp → VK → Prop} {f : PD → Option α} {fa : M PD} (ho : UnR X (unaryOp op) r) (hv : Vo1 X.K tr r f) (ha : DE X w a fa) : PE X (.UnaryOp op a pos) (rd X.K w tr (una f fa)) :=
  (pe_un ho ha).weak fun σ H Q ⟨O, ds, s, q⟩ => by
  refine ⟨O, ds, s, RdK.bind q fun x v H1 O1 ds1 p rv h1 => ?_⟩
  cases e : f x with
  | none => rw [e] at h1; exact h1.elim
  | some z =>
    rw [e] at h1
    exact hv O1 H1 v x z Q p.sat.live rv e (RdK.kok p.sat h1)
theorem xe_cmp {op : CmpOp} {r : R2} {f : PD → PD → Option α} {fa fb : M PD} (ho : OpR X (compareOp op) r) (hv : Vo2 X.K tr r f) (hm : behindInMarks op b = false) (ha : DE X w a fa) (hb : DE X w b fb) : PE X (.Compare a [op] [b] pos) (rd X.K w tr (bin f fa fb)) :=
  (pe_cmpR ho ha hb hm).weak fun σ H Q ⟨O, ds, s, q⟩ => by
  refine ⟨O, ds, s, RdK.bind q fun x v H1 O1 ds1 p rv h1 => ⟨O1, ds1, p.sat, RdK.bind h1 fun y u H2 O2 ds2 p2 rv2 h2 => ?_⟩⟩
  cases e : f x y with
  | none => rw [e] at h2; exact h2.elim
  | some z =>
    rw [e] at h2
    exact hv O2 H2 v u x y z Q p2.sat.live (Dq.mono p2.ext _ _ rv) rv2 e (RdK.kok p2.sat h2)
/-- a comparison's truth -/
def boolOf : PD → M Bool
  | .bool b => ret b
  | _ => stuck
theorem dt_cmp {op : CmpOp} {r : R2} {f : PD → PD → Option PD} {fa fb : M PD} (ho : OpR X (compareOp op) r) (hv : Vo2 X.K RV.dat r f) (hm : behindInMarks op b = false) (ha : DE X w a fa) (hb : DE X w b fb) : DT X w (.Compare a [op] [b] pos) (bnd (bin f fa fb) boolOf) :=
  (pt_cmpR ho ha hb hm).weak fun σ H Q ⟨O, ds, s, q⟩ => by
  have q : RdT X.K w O σ H ds (bnd fa (fun x => bnd (bnd fb fun y => ofO (f x y)) boolOf) ds) Q := by
    have e : bnd (bin f fa fb) boolOf ds = bnd fa (fun x => bnd (bnd fb fun y => ofO (f x y)) boolOf) ds := by
      unfold bin bnd
      cases fa ds <;> rfl
    rw [← e]; exact q
  refine ⟨O, ds, s, RdK.bindT q fun x v H1 O1 ds1 p rv h1 => ?_⟩
  have h1 : RdT X.K w O1 σ H1 ds1 (bnd fb (fun y => bnd (ofO (f x y)) boolOf) ds1) Q := by
    have e : bnd (bnd fb fun y => ofO (f x y)) boolOf ds1 = bnd fb (fun y => bnd (ofO (f x y)) boolOf) ds1 := by
      unfold bnd
      cases fb ds1 <;> rfl
    rw [← e]; exact h1
  refine ⟨O1, ds1, p.sat, RdK.bindT h1 fun y u H2 O2 ds2 p2 rv2 h2 => ?_⟩
  cases e : f x y with
  | none => rw [e] at h2; exact h2.elim
  | some z =>
    rw [e] at h2
    refine hv O2 H2 v u x y z _ p2.sat.live (Dq.mono p2.ext _ _ rv) rv2 e fun v' H' x' hz => ?_
    cases z with
    | bool k =>
      cases hz
      exact ⟨k, rfl, h2 H' O2 (Post.grow p2.sat x')⟩
    | _ => exact h2.elim
end
end DL

namespace DL
open PySem PySem.Spec PyProof.Rows L2
open PySem.W (alike dataLt)

/-! ### comparisons -/
def okD (d : PD) : Bool := SeqAt.shaped d
def notNone : PD → Bool
  | .none => false
  | _ => true
def eqB (a b : PD) : Option Bool := if (okD a && okD b) = true then some (PyData.eqv a b) else none
def neB (a b : PD) : Option Bool := if (okD a && okD b) = true then some (!PyData.eqv a b) else none
def cmpOk (a b : PD) : Bool := okD a && okD b && alike a b && notNone a
def ltB (a b : PD) : Option Bool := if cmpOk a b = true then some (dataLt a b) else none
def gtB (a b : PD) : Option Bool := if cmpOk a b = true then some (dataLt b a) else none
def leB (a b : PD) : Option Bool := if cmpOk a b = true then some (!dataLt b a) else none
def geB (a b : PD) : Option Bool := if cmpOk a b = true then some (!dataLt a b) else none
def isB : PD → PD → Option Bool
  | a, .none => some (!notNone a)
  | .bool a, .bool b => some (decide (a = b))
  | _, _ => none
def isNotB (a b : PD) : Option Bool := (isB a b).map (!·)
def inB (x c : PD) : Option Bool := match seqOf c with
  | some xs => if (okD x && okD c) = true then some (xs.any fun z => PyData.eqv z x) else none
  | none => none
def notInB (x c : PD) : Option Bool := (inB x c).map (!·)
/-- a comparison by data -/
def rB (K : Fg) (g : PD → PD → Option Bool) : R2 := fun x y H Q => ∃ a b k, Dq K H x a ∧ Dq K H y b ∧ g a b = some k ∧ Q (.bl k) H
def bD (g : PD → PD → Option Bool) (a b : PD) : Option PD := (g a b).map .bool
theorem vo_b {K : Fg} (g : PD → PD → Option Bool) : Vo2 K RV.dat (rB K g) (bD g) := fun O H x y a b z Q l ha hb e k => by
  unfold bD at e
  cases q : g a b with
  | none => rw [q] at e; cases e
  | some t =>
    rw [q] at e; cases e
    exact ⟨a, b, t, Dq.mono hid_ext _ _ ha, Dq.mono hid_ext _ _ hb, q, k.here (.bl t)⟩
theorem Dq.reads {X : Cx} {pins : List (Addr × Obj)} {σ : L2.St} {H : Hp} {s : Shared} {d : PD} {v : V} {u : Value} (I : Inv X pins σ H s) (h : Dq X.K H v d) (r : RelV v u) (c : d.canLay0 = true) : ∃ as, Reads s.heap u d as :=
  Dp.reads I d v u (Dq.dp d v c h) r
theorem okD_lay {d : PD} (h : okD d = true) : d.canLay0 = true := SeqAt.canLay_of_shaped h
theorem notNone_ne {d : PD} (h : notNone d = true) : d ≠ .none := by
  intro e; subst e; cases h
theorem room_ok {A : Around} {a b : PD} (h : okD a = true) (hu : A.units + 64 < cLine) : A.units + min a.depth b.depth < cLine := SeqAt.room_of_shaped h hu
section
variable {X : Cx}
theorem od_eq (hu : X.A.units + 64 < cLine) : OpR X (compareOp .Eq) (rB X.K eqB) := fun pins s σ H x y v u Q I rx ry ⟨a, b, k, ha, hb, e, q⟩ => by
  unfold eqB at e
  by_cases c : (okD a && okD b) = true
  · rw [if_pos c] at e; cases e
    obtain ⟨c1, c2⟩ := Bool.and_eq_true_iff.mp c
    obtain ⟨as, r1⟩ := ha.reads I rx (okD_lay c1)
    obtain ⟨bs, r2⟩ := hb.reads I ry (okD_lay c2)
    exact SeqAt.compareEq_shaped r1 r2 c1 c2 hu ⟨.bl _, H, I, rfl, q⟩
  · rw [if_neg c] at e; cases e
theorem od_ne (hu : X.A.units + 64 < cLine) : OpR X (compareOp .NotEq) (rB X.K neB) := fun pins s σ H x y v u Q I rx ry ⟨a, b, k, ha, hb, e, q⟩ => by
  unfold neB at e
  by_cases c : (okD a && okD b) = true
  · rw [if_pos c] at e; cases e
    obtain ⟨c1, c2⟩ := Bool.and_eq_true_iff.mp c
    obtain ⟨as, r1⟩ := ha.reads I rx (okD_lay c1)
    obtain ⟨bs, r2⟩ := hb.reads I ry (okD_lay c2)
    exact SeqAt.compareNe_shaped r1 r2 c1 c2 hu ⟨.bl _, H, I, rfl, q⟩
  · rw [if_neg c] at e; cases e
theorem cmpOk_all {a b : PD} (h : cmpOk a b = true) : okD a = true ∧ okD b = true ∧ alike a b = true ∧ a ≠ .none := by
  unfold cmpOk at h
  simp only [Bool.and_eq_true] at h
  obtain ⟨⟨⟨h1, h2⟩, h3⟩, h4⟩ := h
  exact ⟨h1, h2, h3, notNone_ne h4⟩
theorem od_lt (hu : X.A.units + 64 < cLine) : OpR X (compareOp .Lt) (rB X.K ltB) := fun pins s σ H x y v u Q I rx ry ⟨a, b, k, ha, hb, e, q⟩ => by
  unfold ltB at e
  by_cases c : cmpOk a b = true
  · rw [if_pos c] at e; cases e
    obtain ⟨c1, c2, c3, c4⟩ := cmpOk_all c
    obtain ⟨as, r1⟩ := ha.reads I rx (okD_lay c1)
    obtain ⟨bs, r2⟩ := hb.reads I ry (okD_lay c2)
    exact PySem.W.lt_data r1 r2 c3 c4 (room_ok c1 hu) ⟨.bl _, H, I, rfl, q⟩
  · rw [if_neg c] at e; cases e
theorem od_gt (hu : X.A.units + 64 < cLine) : OpR X (compareOp .Gt) (rB X.K gtB) := fun pins s σ H x y v u Q I rx ry ⟨a, b, k, ha, hb, e, q⟩ => by
  unfold gtB at e
  by_cases c : cmpOk a b = true
  · rw [if_pos c] at e; cases e
    obtain ⟨c1, c2, c3, c4⟩ := cmpOk_all c
    obtain ⟨as, r1⟩ := ha.reads I rx (okD_lay c1)
    obtain ⟨bs, r2⟩ := hb.reads I ry (okD_lay c2)
    exact PySem.W.gt_data r1 r2 c3 c4 (room_ok c1 hu) ⟨.bl _, H, I, rfl, q⟩
  · rw [if_neg c] at e; cases e
theorem od_le (hu : X.A.units + 64 < cLine) : OpR X (compareOp .LtE) (rB X.K leB) := fun pins s σ H x y v u Q I rx ry ⟨a, b, k, ha, hb, e, q⟩ => by
  unfold leB at e
  by_cases c : cmpOk a b = true
  · rw [if_pos c] at e; cases e
    obtain ⟨c1, c2, c3, c4⟩ := cmpOk_all c
    obtain ⟨as, r1⟩ := ha.reads I rx (okD_lay c1)
    obtain ⟨bs, r2⟩ := hb.reads I ry (okD_lay c2)
    exact PySem.W.le_data r1 r2 c3 c4 (room_ok c1 hu) ⟨.bl _, H, I, rfl, q⟩
  · rw [if_neg c] at e; cases e
theorem od_ge (hu : X.A.units + 64 < cLine) : OpR X (compareOp .GtE) (rB X.K geB) := fun pins s σ H x y v u Q I rx ry ⟨a, b, k, ha, hb, e, q⟩ => by
  unfold geB at e
  by_cases c : cmpOk a b = true
  · rw [if_pos c] at e; cases e
    obtain ⟨c1, c2, c3, c4⟩ := cmpOk_all c
    obtain ⟨as, r1⟩ := ha.reads I rx (okD_lay c1)
    obtain ⟨bs, r2⟩ := hb.reads I ry (okD_lay c2)
    exact PySem.W.ge_data r1 r2 c3 c4 (room_ok c1 hu) ⟨.bl _, H, I, rfl, q⟩
  · rw [if_neg c] at e; cases e
theorem Dq.non_iff {K : Fg} {H : Hp} {v : V} {d : PD} (h : Dq K H v d) : decide (v = .non) = !notNone d := by
  cases h <;> rfl
theorem od_is : OpR X (compareOp .Is) (rB X.K isB) := fun pins s σ H x y v u Q I rx ry ⟨a, b, k, ha, hb, e, q⟩ => by
  cases hb with
  | non =>
    have e : some (!notNone a) = some k := by cases a <;> exact e
    cases e
    exact op_isN pins s σ H x _ v u Q I rx ry ⟨rfl, by rw [ha.non_iff]; exact q⟩
  | bl j =>
    cases ha with
    | bl i => cases e; exact op_is_bl pins s σ H _ _ v u Q I rx ry ⟨i, j, rfl, rfl, q⟩
    | _ => cases e
  | _ => cases ha <;> cases e
theorem od_isNot : OpR X (compareOp .IsNot) (rB X.K isNotB) := fun pins s σ H x y v u Q I rx ry ⟨a, b, k, ha, hb, e, q⟩ => by
  unfold isNotB at e
  cases hb with
  | non =>
    have e : some (!(!notNone a)) = some k := by cases a <;> exact e
    cases e
    exact op_notN pins s σ H x _ v u Q I rx ry ⟨rfl, by rw [ha.non_iff]; exact q⟩
  | bl j =>
    cases ha with
    | bl i => cases e; exact op_isnot_bl pins s σ H _ _ v u Q I rx ry ⟨i, j, rfl, rfl, q⟩
    | _ => cases e
  | _ => cases ha <;> cases e
theorem od_in (hu : X.A.units + 65 < cLine) : OpR X (compareOp .In) (rB X.K inB) := fun pins s σ H x y v u Q I rx ry ⟨a, b, k, ha, hb, e, q⟩ => by
  unfold inB at e
  cases z : seqOf b with
  | none => rw [z] at e; cases e
  | some xs =>
    rw [z] at e
    by_cases c : (okD a && okD b) = true
    · have e : (if (okD a && okD b) = true then some (xs.any fun z => PyData.eqv z a) else none) = some k := e
      rw [if_pos c] at e; cases e
      obtain ⟨c1, c2⟩ := Bool.and_eq_true_iff.mp c
      obtain ⟨as, r1⟩ := ha.reads I rx (okD_lay c1)
      obtain ⟨bs, r2⟩ := hb.reads I ry (okD_lay c2)
      cases b <;> cases z
      · exact SeqAt.in_list_reads r2 r1 (okD_lay c2) (okD_lay c1) (room_in_shaped c1 hu) ⟨.bl _, H, I, rfl, q⟩
      · exact SeqAt.in_tuple_reads r2 r1 (okD_lay c2) (okD_lay c1) (room_in_shaped c1 hu) ⟨.bl _, H, I, rfl, q⟩
    · have e : (if (okD a && okD b) = true then some (xs.any fun z => PyData.eqv z a) else none) = some k := e
      rw [if_neg c] at e; cases e
theorem od_notIn (hu : X.A.units + 65 < cLine) : OpR X (compareOp .NotIn) (rB X.K notInB) := fun pins s σ H x y v u Q I rx ry ⟨a, b, k, ha, hb, e, q⟩ => by
  unfold notInB inB at e
  cases z : seqOf b with
  | none => rw [z] at e; cases e
  | some xs =>
    rw [z] at e
    by_cases c : (okD a && okD b) = true
    · have e : ((if (okD a && okD b) = true then some (xs.any fun z => PyData.eqv z a) else none).map (!·)) = some k := e
      rw [if_pos c] at e; cases e
      obtain ⟨c1, c2⟩ := Bool.and_eq_true_iff.mp c
      obtain ⟨as, r1⟩ := ha.reads I rx (okD_lay c1)
      obtain ⟨bs, r2⟩ := hb.reads I ry (okD_lay c2)
      cases b <;> cases z
      · exact SeqAt.notIn_list_reads r2 r1 (okD_lay c2) (okD_lay c1) (room_in_shaped c1 hu) ⟨.bl _, H, I, rfl, q⟩
      · exact SeqAt.notIn_tuple_reads r2 r1 (okD_lay c2) (okD_lay c1) (room_in_shaped c1 hu) ⟨.bl _, H, I, rfl, q⟩
    · have e : ((if (okD a && okD b) = true then some (xs.any fun z => PyData.eqv z a) else none).map (!·)) = some k := e
      rw [if_neg c] at e; cases e
variable {w : Wi} {a b c : Expr} {pos : Pos} {fa fb fc : M PD}
theorem de_cmp {op : CmpOp} {g : PD → PD → Option Bool} (ho : OpR X (compareOp op) (rB X.K g)) (hm : behindInMarks op b = false) (ha : DE X w a fa) (hb : DE X w b fb) : DE X w (.Compare a [op] [b] pos) (bin (bD g) fa fb) := xe_cmp ho (vo_b g) hm ha hb
/-- the test of a comparison -/
def tbin (g : PD → PD → Option Bool) (fa fb : M PD) : M Bool := bnd fa fun x => bnd fb fun y => ofO (g x y)
theorem bind_tbin (g : PD → PD → Option Bool) (fa fb : M PD) : bnd (bin (bD g) fa fb) boolOf = tbin g fa fb := by
  funext ds
  unfold bin tbin bnd bD
  cases fa ds with
  | ok x ds1 =>
    dsimp only
    cases fb ds1 with
    | ok y ds2 =>
      dsimp only
      cases e : g x y with
      | none => rfl
      | some k => rfl
    | ex _ _ => rfl
    | err => rfl
  | ex _ _ => rfl
  | err => rfl
theorem dt_cmp' {op : CmpOp} {g : PD → PD → Option Bool} (ho : OpR X (compareOp op) (rB X.K g)) (hm : behindInMarks op b = false) (ha : DE X w a fa) (hb : DE X w b fb) : DT X w (.Compare a [op] [b] pos) (tbin g fa fb) := by
  rw [← bind_tbin]; exact dt_cmp ho (vo_b g) hm ha hb
/-- a op b op' c -/
def tchain (g g' : PD → PD → Option Bool) (fa fb fc : M PD) : M Bool := bnd fa fun x => bnd fb fun y => bnd (ofO (g x y)) fun k => if k = true then bnd fc fun z => ofO (g' y z) else ret false
def chain (g g' : PD → PD → Option Bool) (fa fb fc : M PD) : M PD := bnd fa fun x => bnd fb fun y => bnd (ofO (g x y)) fun k => if k = true then bnd fc fun z => ofO (bD g' y z) else ret (.bool false)
theorem de_chain {op op' : CmpOp} {g g' : PD → PD → Option Bool} (ho : OpR X (compareOp op) (rB X.K g)) (ho' : OpR X (compareOp op') (rB X.K g')) (ha : DE X w a fa) (hb : DE X w b fb) (hc : DE X w c fc) (hm : lastMarks [op, op'] [b, c] = false := by with_unfolding_all rfl) :
    DE X w (.Compare a [op, op'] [b, c] pos) (chain g g' fa fb fc) := (pe_chain ho ho' ha hb hc hm).weak fun σ H Q ⟨O, ds, s, q⟩ => by
  refine ⟨O, ds, s, RdK.bind q fun x v H1 O1 ds1 p rv h1 => ⟨O1, ds1, p.sat, RdK.bind h1 fun y u H2 O2 ds2 p2 rv2 h2 => ?_⟩⟩
  cases e : g x y with
  | none => rw [e] at h2; exact h2.elim
  | some k =>
    rw [e] at h2
    refine ⟨x, y, k, Dq.mono hid_ext _ _ (Dq.mono p2.ext _ _ rv), Dq.mono hid_ext _ _ rv2, e, k, rfl, ?_⟩
    cases k with
    | false => exact RdK.dat_here p2.sat h2 (.bl false)
    | true =>
      rw [if_pos rfl]
      have h2 : RdK X.K w RV.dat O2 σ H2 ds2 (bnd fc (fun z => ofO (bD g' y z)) ds2) Q := h2
      refine ⟨O2, ds2, p2.sat, RdK.bind h2 fun z v3 H3 O3 ds3 p3 rv3 h3 => ?_⟩
      cases e' : bD g' y z with
      | none => rw [e'] at h3; exact h3.elim
      | some t =>
        rw [e'] at h3
        exact vo_b g' O3 H3 u v3 y z t Q p3.sat.live (Dq.mono p3.ext _ _ rv2) rv3 e' (RdK.kok p3.sat h3)
theorem dt_chain {op op' : CmpOp} {g g' : PD → PD → Option Bool} (ho : OpR X (compareOp op) (rB X.K g)) (ho' : OpR X (compareOp op') (rB X.K g')) (ha : DE X w a fa) (hb : DE X w b fb) (hc : DE X w c fc) (hm : lastMarks [op, op'] [b, c] = false := by with_unfolding_all rfl) :
    DT X w (.Compare a [op, op'] [b, c] pos) (tchain g g' fa fb fc) := (pt_chain ho ho' ha hb hc hm).weak fun σ H Q ⟨O, ds, s, q⟩ => by
  refine ⟨O, ds, s, RdK.bindT q fun x v H1 O1 ds1 p rv h1 => ⟨O1, ds1, p.sat, RdK.bindT h1 fun y u H2 O2 ds2 p2 rv2 h2 => ?_⟩⟩
  cases e : g x y with
  | none => rw [e] at h2; exact h2.elim
  | some k =>
    rw [e] at h2
    refine ⟨x, y, k, Dq.mono hid_ext _ _ (Dq.mono p2.ext _ _ rv), Dq.mono hid_ext _ _ rv2, e, k, rfl, ?_⟩
    cases k with
    | false => exact ⟨false, rfl, h2 H2 O2 (Post.refl p2.sat)⟩
    | true =>
      rw [if_pos rfl]
      have h2 : RdT X.K w O2 σ H2 ds2 (bnd fc (fun z => ofO (g' y z)) ds2) Q := h2
      refine ⟨O2, ds2, p2.sat, RdK.bindT h2 fun z v3 H3 O3 ds3 p3 rv3 h3 => ?_⟩
      cases e' : g' y z with
      | none => rw [e'] at h3; exact h3.elim
      | some t =>
        rw [e'] at h3
        exact ⟨y, z, t, Dq.mono hid_ext _ _ (Dq.mono p3.ext _ _ rv2), Dq.mono hid_ext _ _ rv3, e', t, rfl, h3 H3 O3 (Post.refl p3.sat)⟩

/-! ### and, or, not, if-else -/
def andD (fa fb : M PD) : M PD := bnd fa fun x => match x with
  | .bool true => fb
  | .bool false => ret (.bool false)
  | _ => stuck
def orD (fa fb : M PD) : M PD := bnd fa fun x => match x with
  | .bool false => fb
  | .bool true => ret (.bool true)
  | _ => stuck
def notD (fa : M PD) : M PD := bnd fa fun x => match x with
  | .bool k => ret (.bool (!k))
  | _ => stuck
theorem de_one {op : BoolOp} (ha : DE X w a fa) : DE X w (.BoolOp op [a] pos) fa := pe_one ha
theorem de_and {rest : List Expr} (ha : DE X w a fa) (hb : DE X w (.BoolOp .And (b :: rest) pos) fb) : DE X w (.BoolOp .And (a :: b :: rest) pos) (andD fa fb) := (pe_and ha hb).weak fun σ H Q ⟨O, ds, s, q⟩ => by
  refine ⟨O, ds, s, RdK.bind q fun x v H1 O1 ds1 p rv h1 => ?_⟩
  cases x with
  | bool k =>
    cases rv
    refine ⟨k, rfl, ?_⟩
    cases k with
    | true => exact ⟨O1, ds1, p.sat, h1⟩
    | false => exact RdK.dat_here p.sat h1 (.bl false)
  | _ => exact h1.elim
theorem de_or {rest : List Expr} (ha : DE X w a fa) (hb : DE X w (.BoolOp .Or (b :: rest) pos) fb) : DE X w (.BoolOp .Or (a :: b :: rest) pos) (orD fa fb) := (pe_or ha hb).weak fun σ H Q ⟨O, ds, s, q⟩ => by
  refine ⟨O, ds, s, RdK.bind q fun x v H1 O1 ds1 p rv h1 => ?_⟩
  cases x with
  | bool k =>
    cases rv
    refine ⟨k, rfl, ?_⟩
    cases k with
    | false => exact ⟨O1, ds1, p.sat, h1⟩
    | true => exact RdK.dat_here p.sat h1 (.bl true)
  | _ => exact h1.elim
theorem de_not (ha : DE X w a fa) : DE X w (.UnaryOp .Not a pos) (notD fa) := (pe_not ha).weak fun σ H Q ⟨O, ds, s, q⟩ => by
  refine ⟨O, ds, s, RdK.bind q fun x v H1 O1 ds1 p rv h1 => ?_⟩
  cases x with
  | bool k =>
    cases rv
    exact ⟨k, rfl, RdK.dat_here p.sat h1 (.bl (!k))⟩
  | _ => exact h1.elim

variable {ta tb : M Bool}
def andT (ta tb : M Bool) : M Bool := bnd ta fun k => if k = true then tb else ret false
def orT (ta tb : M Bool) : M Bool := bnd ta fun k => if k = true then ret true else tb
def notT (ta : M Bool) : M Bool := bnd ta fun k => ret (!k)
abbrev DW (X : Cx) (w : Wi) (e : Expr) (f : M Bool) : Prop := PW X e (rdT X.K w f)
theorem _root_.L2.PW.weak {e : Expr} {t t' : TT} (h : PW X e t) (i : ∀ σ H Q, t' σ H Q → t σ H Q) : PW X e t' := ⟨fun wh pins s σ H Q I q => h.run wh pins s σ H Q I (i σ H Q q)⟩
theorem dw_and1 (ha : DT X w a ta) : DW X w (.BoolOp .And [a] pos) ta := pw_and1 ha
theorem dw_or1 (ha : DT X w a ta) : DW X w (.BoolOp .Or [a] pos) ta := pw_or1 ha
theorem dw_and {rest : List Expr} (ha : DT X w a ta) (hb : DW X w (.BoolOp .And (b :: rest) pos) tb) : DW X w (.BoolOp .And (a :: b :: rest) pos) (andT ta tb) := (pw_and ha hb).weak fun σ H Q ⟨O, ds, s, q⟩ => by
  refine ⟨O, ds, s, RdT.bindT q fun k H1 O1 ds1 p h1 => ?_⟩
  cases k with
  | true => exact ⟨O1, ds1, p.sat, h1⟩
  | false => exact h1 H1 O1 (Post.refl p.sat)
theorem dw_or {rest : List Expr} (ha : DT X w a ta) (hb : DW X w (.BoolOp .Or (b :: rest) pos) tb) : DW X w (.BoolOp .Or (a :: b :: rest) pos) (orT ta tb) := (pw_or ha hb).weak fun σ H Q ⟨O, ds, s, q⟩ => by
  refine ⟨O, ds, s, RdT.bindT q fun k H1 O1 ds1 p h1 => ?_⟩
  cases k with
  | false => exact ⟨O1, ds1, p.sat, h1⟩
  | true => exact h1 H1 O1 (Post.refl p.sat)
theorem dt_w {e : Expr} (h : DW X w e ta) : DT X w e ta := h.pt
theorem dt_not (ha : DT X w a ta) : DT X w (.UnaryOp .Not a pos) (notT ta) := (pt_not ha).weak fun σ H Q ⟨O, ds, s, q⟩ => by
  refine ⟨O, ds, s, RdT.bindT q fun k H1 O1 ds1 p h1 => ?_⟩
  exact h1 H1 O1 (Post.refl p.sat)
/-- a bool as a test -/
theorem dt_val (ha : DE X w a fa) (he : ∀ whole, isTrue a X.env whole = (do let v ← whole; standAt a.pos; holding [v] (truthy v)) := by intro _; rfl) : DT X w a (bnd fa boolOf) := (pt_val ha he).weak fun σ H Q ⟨O, ds, s, q⟩ => by
  refine ⟨O, ds, s, RdK.bindT q fun x v H1 O1 ds1 p rv h1 => ?_⟩
  cases x with
  | bool k => cases rv; exact ⟨k, rfl, h1 H1 O1 (Post.refl p.sat)⟩
  | _ => exact h1.elim
variable {α : Type} {tr : α → RV} {ga gb : M α}
def ifD (t : M Bool) (ga gb : M α) : M α := bnd t fun k => if k = true then ga else gb
theorem xe_if (hc : DT X w c ta) (ha : PE X a (rd X.K w tr ga)) (hb : PE X b (rd X.K w tr gb)) : PE X (.IfExp c a b pos) (rd X.K w tr (ifD ta ga gb)) := (pe_ifExp hc ha hb).weak fun σ H Q ⟨O, ds, s, q⟩ => by
  refine ⟨O, ds, s, RdT.bind q fun k H1 O1 ds1 p h1 => ?_⟩
  cases k with
  | true => exact ⟨O1, ds1, p.sat, h1⟩
  | false => exact ⟨O1, ds1, p.sat, h1⟩
end
end DL

namespace DL
open PySem PySem.Spec PyProof.Rows L2

/-! ### operators by values -/
def dI (i : Int) : Option RV := some (.dat (.int i))
def addV : PD → PD → Option RV
  | .int a, .int b => dI (a + b)
  | .str a, .str b => if a.length + b.length ≤ lim then some (.dat (.str (a ++ b))) else none
  | .tuple xs, .tuple ys => if xs.length + ys.length ≤ lim then some (.dat (.tuple (xs ++ ys))) else none
  | .list xs, .list ys => if xs.length + ys.length ≤ lim then some (.own (.lst (xs ++ ys))) else none
  | _, _ => none
def small64 (i : Int) : Bool := decide (-(2 ^ 64) < i) && decide (i < 2 ^ 64)
def mulOk (i j : Int) : Bool := small64 i || small64 j
def rep {α : Type} (xs : List α) (k : Int) : List α := (List.replicate k.toNat xs).flatten
def mulV : PD → PD → Option RV
  | .int a, .int b => if mulOk a b = true then dI (a * b) else none
  | .list xs, .int k => if xs.length * k.toNat ≤ lim ∧ k < 2 ^ 62 ∧ -(2 ^ 62) ≤ k then some (.own (.lst (rep xs k))) else none
  | .tuple xs, .int k => if 2 ≤ k ∧ k ≤ 1000 ∧ xs.length ≤ 1000 ∧ xs ≠ [] then some (.dat (.tuple (rep xs k))) else none
  | _, _ => none
def subI : PD → PD → Option PD
  | .int a, .int b => some (.int (a - b))
  | _, _ => none
def fdivI : PD → PD → Option PD
  | .int a, .int b => if 0 < b ∧ b < 1073741824 then some (.int (a / b)) else none
  | _, _ => none
def modI : PD → PD → Option PD
  | .int a, .int b => if 0 < b then some (.int (a % b)) else none
  | _, _ => none
def powI : PD → PD → Option PD
  | .int a, .int b => if 0 ≤ b ∧ b ≤ 1000 ∧ a.natAbs < 2 ^ 300 then some (.int (a ^ b.toNat)) else none
  | _, _ => none
def shlI : PD → PD → Option PD
  | .int a, .int b => if 0 ≤ b ∧ b ≤ 1000 ∧ a.natAbs < 2 ^ 64 then some (.int (a * 2 ^ b.toNat)) else none
  | _, _ => none
def shrI : PD → PD → Option PD
  | .int a, .int b => if 0 ≤ b then some (.int (a / 2 ^ b.toNat)) else none
  | _, _ => none
def xorI : PD → PD → Option PD
  | .int a, .int b => some (.int (Builtin.bitXor a b))
  | _, _ => none
def negI : PD → Option PD
  | .int a => some (.int (-a))
  | _ => none
theorem KOk.dI' {K : Fg} {O : Ow} {H : Hp} {i : Int} {Q : VK} (h : KOk K O H (.dat (.int i)) Q) : Q (.int i) H := h.here (.int i)
theorem nil_iff {K : Fg} {H : Hp} {vs : List V} {xs : List PD} (h : DqAll K H vs xs) : vs = [] ↔ xs = [] := by
  cases h <;> simp
theorem DqAll.rep {K : Fg} {H : Hp} {vs : List V} {xs : List PD} (h : DqAll K H vs xs) : ∀ n : Nat, DqAll K H (List.replicate n vs).flatten (List.replicate n xs).flatten
  | 0 => .nil
  | n + 1 => by
    rw [List.replicate_succ, List.replicate_succ, List.flatten_cons, List.flatten_cons]
    exact h.append (DqAll.rep h n)
section
variable {X : Cx}
abbrev rAdd (K : Fg) : R2 := fun x y H Q => rI0 (fun i j => .int (i + j)) x y H Q ∨ (∃ i j, x = .str i ∧ y = .str j ∧ i.length + j.length ≤ sizeLine ∧ Q (.str (i ++ j)) H) ∨ rCatA K x y H Q ∨ rCat x y H Q
theorem oa_add : OpR X (binaryOp .Add) (rAdd X.K) := op_add.or (op_add_str.or (op_catA.or op_cat))
theorem vo_add {K : Fg} : Vo2 K id (rAdd K) addV := fun O H x y a b z Q l ha hb e k => by
  cases ha with
  | int i =>
    cases hb with
    | int j => cases e; exact .inl ⟨i, j, rfl, rfl, k.here (.int _)⟩
    | _ => cases e
  | str i =>
    cases hb with
    | str j =>
      unfold addV at e; dsimp only at e
      by_cases c : i.length + j.length ≤ lim
      · rw [if_pos c] at e; cases e
        exact .inr (.inl ⟨i, j, rfl, rfl, le_line c, k.here (.str _)⟩)
      · rw [if_neg c] at e; cases e
    | _ => cases e
  | @tup p vs xs h1 h2 =>
    cases hb with
    | @tup q ws ys g1 g2 =>
      unfold addV at e; dsimp only at e
      by_cases c : xs.length + ys.length ≤ lim
      · rw [if_pos c] at e; cases e
        refine .inr (.inr (.inl ⟨p, q, vs, ws, rfl, rfl, hid_ext.sqT h1, hid_ext.sqT g1, by rw [h2.length, g2.length]; exact le_line c, fun z => ?_, fun _ z => ?_, fun _ _ r hr => ?_⟩))
        · have e1 := (nil_iff h2).mp z
          subst e1
          exact k.here (.tup g1 g2)
        · have e1 := (nil_iff g2).mp z
          subst e1
          rw [List.append_nil] at k
          exact k.here (.tup h1 h2)
        · exact k.newT l hr (h2.append g2)
      · rw [if_neg c] at e; cases e
    | _ => cases e
  | @lst p vs xs h1 h2 =>
    cases hb with
    | @lst q ws ys g1 g2 =>
      unfold addV at e; dsimp only at e
      by_cases c : xs.length + ys.length ≤ lim
      · rw [if_pos c] at e; cases e
        exact .inr (.inr (.inr ⟨p, q, vs, ws, rfl, rfl, (hid_some h1).2, (hid_some g1).2, by rw [h2.length, g2.length]; exact le_line c, fun r hr => k.newL hr (h2.append g2)⟩))
      · rw [if_neg c] at e; cases e
    | _ => cases e
  | _ => cases hb <;> cases e
abbrev rMul (K : Fg) : R2 := fun x y H Q => rI CMul (fun i j => .int (i * j)) x y H Q ∨ rRep x y H Q ∨ rRepT K x y H Q
theorem oa_mul : OpR X (binaryOp .Mult) (rMul X.K) := op_mul.or (op_rep.or op_repT)
theorem vo_mul {K : Fg} : Vo2 K id (rMul K) mulV := fun O H x y a b z Q l ha hb e k => by
  cases ha with
  | int i =>
    cases hb with
    | int j =>
      unfold mulV at e; dsimp only at e
      by_cases c : mulOk i j = true
      · rw [if_pos c] at e; cases e
        refine .inl ⟨i, j, rfl, rfl, ?_, k.here (.int _)⟩
        unfold mulOk small64 at c
        simp only [Bool.or_eq_true, Bool.and_eq_true, decide_eq_true_eq] at c
        exact c
      · rw [if_neg c] at e; cases e
    | _ => cases e
  | @lst p vs xs h1 h2 =>
    cases hb with
    | int j =>
      unfold mulV at e; dsimp only at e
      by_cases c : xs.length * j.toNat ≤ lim ∧ j < 2 ^ 62 ∧ -(2 ^ 62) ≤ j
      · rw [if_pos c] at e; cases e
        refine .inr (.inl ⟨p, j, vs, rfl, rfl, (hid_some h1).2, by omega, by omega, by rw [h2.length]; exact le_line c.1, fun r hr => ?_⟩)
        exact k.newL hr (h2.rep _)
      · rw [if_neg c] at e; cases e
    | _ => cases e
  | @tup p vs xs h1 h2 =>
    cases hb with
    | int j =>
      unfold mulV at e; dsimp only at e
      by_cases c : 2 ≤ j ∧ j ≤ 1000 ∧ xs.length ≤ 1000 ∧ xs ≠ []
      · rw [if_pos c] at e; cases e
        refine .inr (.inr ⟨p, j, vs, rfl, rfl, hid_ext.sqT h1, fun z => c.2.2.2 ((nil_iff h2).mp z), c.1, c.2.1, by rw [h2.length]; exact c.2.2.1, fun r hr => ?_⟩)
        exact k.newT l hr (h2.rep _)
      · rw [if_neg c] at e; cases e
    | _ => cases e
  | _ => cases hb <;> cases e
theorem vo_sub {K : Fg} : Vo2 K .dat (rI0 fun i j => .int (i - j)) subI := fun O H x y a b z Q l ha hb e k => by
  cases ha <;> cases hb <;> cases e
  exact ⟨_, _, rfl, rfl, k.here (.int _)⟩
theorem vo_fdiv {K : Fg} : Vo2 K .dat (rI CDiv fun i j => .int (i / j)) fdivI := fun O H x y a b z Q l ha hb e k => by
  cases ha with
  | int i =>
    cases hb with
    | int j =>
      unfold fdivI at e; dsimp only at e
      by_cases c : 0 < j ∧ j < 1073741824
      · rw [if_pos c] at e; cases e
        exact ⟨_, _, rfl, rfl, c, k.here (.int _)⟩
      · rw [if_neg c] at e; cases e
    | _ => cases e
  | _ => cases hb <;> cases e
theorem vo_mod {K : Fg} : Vo2 K .dat (rI (fun _ j => 0 < j) fun i j => .int (i % j)) modI := fun O H x y a b z Q l ha hb e k => by
  cases ha with
  | int i =>
    cases hb with
    | int j =>
      unfold modI at e; dsimp only at e
      by_cases c : 0 < j
      · rw [if_pos c] at e; cases e
        exact ⟨_, _, rfl, rfl, c, k.here (.int _)⟩
      · rw [if_neg c] at e; cases e
    | _ => cases e
  | _ => cases hb <;> cases e
def CPowW (i j : Int) : Prop := 0 ≤ j ∧ j ≤ 1000 ∧ i.natAbs < 2 ^ 300
theorem op_powW : OpR X (binaryOp .Pow) (rI CPowW fun i j => .int (i ^ j.toNat)) := opI fun i j _ _ _ _ _ hc q => by
  refine pow_int hc.1 ?_ q
  have h : Builtin.Int.intBits i ≤ 300 := by
    unfold Builtin.Int.intBits
    split
    · omega
    · rename_i n
      have := PySem.Flt.log2_lt_of (by decide : 0 < 300) hc.2.2
      omega
  have h2 : (Builtin.Int.intBits i : Int) * j ≤ 300 * 1000 := Int.mul_le_mul (by omega) hc.2.1 hc.1 (by decide)
  omega
theorem vo_pow {K : Fg} : Vo2 K .dat (rI CPowW fun i j => .int (i ^ j.toNat)) powI := fun O H x y a b z Q l ha hb e k => by
  cases ha with
  | int i =>
    cases hb with
    | int j =>
      unfold powI at e; dsimp only at e
      by_cases c : 0 ≤ j ∧ j ≤ 1000 ∧ i.natAbs < 2 ^ 300
      · rw [if_pos c] at e; cases e
        exact ⟨_, _, rfl, rfl, c, k.here (.int _)⟩
      · rw [if_neg c] at e; cases e
    | _ => cases e
  | _ => cases hb <;> cases e
theorem vo_shl {K : Fg} : Vo2 K .dat (rI CPow fun i j => .int (i * 2 ^ j.toNat)) shlI := fun O H x y a b z Q l ha hb e k => by
  cases ha with
  | int i =>
    cases hb with
    | int j =>
      unfold shlI at e; dsimp only at e
      by_cases c : 0 ≤ j ∧ j ≤ 1000 ∧ i.natAbs < 2 ^ 64
      · rw [if_pos c] at e; cases e
        exact ⟨_, _, rfl, rfl, ⟨c.1, by omega, c.2.2⟩, k.here (.int _)⟩
      · rw [if_neg c] at e; cases e
    | _ => cases e
  | _ => cases hb <;> cases e
theorem vo_shr {K : Fg} : Vo2 K .dat (rI (fun _ j => 0 ≤ j) fun i j => .int (i / 2 ^ j.toNat)) shrI := fun O H x y a b z Q l ha hb e k => by
  cases ha with
  | int i =>
    cases hb with
    | int j =>
      unfold shrI at e; dsimp only at e
      by_cases c : 0 ≤ j
      · rw [if_pos c] at e; cases e
        exact ⟨_, _, rfl, rfl, c, k.here (.int _)⟩
      · rw [if_neg c] at e; cases e
    | _ => cases e
  | _ => cases hb <;> cases e
theorem vo_xor {K : Fg} : Vo2 K .dat (rI0 fun i j => .int (Builtin.bitXor i j)) xorI := fun O H x y a b z Q l ha hb e k => by
  cases ha <;> cases hb <;> cases e
  exact ⟨_, _, rfl, rfl, k.here (.int _)⟩
theorem vo_neg {K : Fg} : Vo1 K .dat (rU fun i => .int (-i)) negI := fun O H x a z Q l ha e k => by
  cases ha <;> cases e
  exact ⟨_, rfl, k.here (.int _)⟩
variable {w : Wi} {a b : Expr} {pos : Pos} {fa fb : M PD}
theorem ve_add (ha : DE X w a fa) (hb : DE X w b fb) : VE X w (.BinOp a .Add b pos) (bin addV fa fb) := xe_op oa_add vo_add ha hb
theorem ve_mul (ha : DE X w a fa) (hb : DE X w b fb) : VE X w (.BinOp a .Mult b pos) (bin mulV fa fb) := xe_op oa_mul vo_mul ha hb
theorem de_sub (ha : DE X w a fa) (hb : DE X w b fb) : DE X w (.BinOp a .Sub b pos) (bin subI fa fb) := xe_op op_sub vo_sub ha hb
theorem de_fdiv (ha : DE X w a fa) (hb : DE X w b fb) : DE X w (.BinOp a .FloorDiv b pos) (bin fdivI fa fb) := xe_op op_fdiv vo_fdiv ha hb
theorem de_mod (ha : DE X w a fa) (hb : DE X w b fb) : DE X w (.BinOp a .Mod b pos) (bin modI fa fb) := xe_op op_mod vo_mod ha hb
theorem de_pow (ha : DE X w a fa) (hb : DE X w b fb) : DE X w (.BinOp a .Pow b pos) (bin powI fa fb) := xe_op op_powW vo_pow ha hb
theorem de_shl (ha : DE X w a fa) (hb : DE X w b fb) : DE X w (.BinOp a .LShift b pos) (bin shlI fa fb) := xe_op op_shl vo_shl ha hb
theorem de_shr (ha : DE X w a fa) (hb : DE X w b fb) : DE X w (.BinOp a .RShift b pos) (bin shrI fa fb) := xe_op op_shr vo_shr ha hb
theorem de_xor (ha : DE X w a fa) (hb : DE X w b fb) : DE X w (.BinOp a .BitXor b pos) (bin xorI fa fb) := xe_op op_xor vo_xor ha hb
theorem de_neg (ha : DE X w a fa) : DE X w (.UnaryOp .USub a pos) (una negI fa) := xe_un un_neg vo_neg ha

/-! ### subscripts -/
def ixD : PD → PD → Option PD
  | .list xs, .int i => atI xs i
  | .tuple xs, .int i => atI xs i
  | _, _ => none
theorem DqAll.atI {K : Fg} {H : Hp} {vs : List V} {xs : List PD} {i : Int} {d : PD} (h : DqAll K H vs xs) (e : atI xs i = some d) : ∃ v, atI vs i = some v ∧ Dq K H v d := by
  unfold L2.atI at e ⊢
  rw [h.length]
  cases q : ixN xs.length i with
  | none => rw [q] at e; cases e
  | some j => rw [q] at e; exact h.get e
abbrev rIxLT (K : Fg) : R2 := fun x y H Q => rIxL K x y H Q ∨ rIxT K x y H Q
theorem vo_ix {K : Fg} : Vo2 K .dat (rIxLT K) ixD := fun O H x y a b z Q l ha hb e k => by
  cases ha with
  | @lst p vs xs h1 h2 =>
    cases hb with
    | int i =>
      obtain ⟨v, e1, hv⟩ := h2.atI e
      exact .inl ⟨p, vs, i, v, rfl, rfl, .inl (.inl (hid_some h1).2), e1, k.here hv⟩
    | _ => cases e
  | @tup p vs xs h1 h2 =>
    cases hb with
    | int i =>
      obtain ⟨v, e1, hv⟩ := h2.atI e
      exact .inr ⟨p, vs, i, v, rfl, rfl, hid_ext.sqT h1, e1, k.here hv⟩
    | _ => cases e
  | _ => cases hb <;> cases e
theorem de_ix (ha : DE X w a fa) (hb : DE X w b fb) (hs : PlainIx b := by exact fun _ _ => rfl) : DE X w (.Subscript a b pos) (bin ixD fa fb) := (pe_ix (ix_list.or ix_tup) ha hb hs).weak fun σ H Q ⟨O, ds, s, q⟩ => by
  refine ⟨O, ds, s, RdK.bind q fun x v H1 O1 ds1 p rv h1 => ⟨O1, ds1, p.sat, RdK.bind h1 fun y u H2 O2 ds2 p2 rv2 h2 => ?_⟩⟩
  cases e : ixD x y with
  | none => rw [e] at h2; exact h2.elim
  | some z =>
    rw [e] at h2
    exact vo_ix O2 H2 v u x y z Q p2.sat.live (Dq.mono p2.ext _ _ rv) rv2 e (RdK.kok p2.sat h2)

/-! ### slices -/
def cutD (xs : List PD) (lo hi : Option Int) : List PD := (xs.drop (HT.sIx xs.length 0 lo)).take (HT.sIx xs.length xs.length hi - HT.sIx xs.length 0 lo)
theorem DqAll.cut {K : Fg} {H : Hp} {vs : List V} {xs : List PD} (lo hi : Option Int) (h : DqAll K H vs xs) : DqAll K H (cutV vs lo hi) (cutD xs lo hi) := by
  unfold cutV cutD
  rw [h.length]
  exact (h.drop _).take _
def slV (lo hi : Option Int) : PD → Option RV
  | .list xs => some (.own (.lst (cutD xs lo hi)))
  | .tuple xs => some (.dat (.tuple (cutD xs lo hi)))
  | _ => none
abbrev DO (X : Cx) (w : Wi) (e : Option Expr) (f : M (Option Int)) : Prop := PO X e (fun σ H Q => ∃ O ds, Sat X.K O σ H ds ∧ match f ds with
  | .ok a ds' => ∀ H' O', Post X.K nk O O' σ σ H H' ds ds' → Q a H'
  | .ex x ds' => RdX X.K w O σ H ds x ds'
  | .err => False)
theorem do_none : DO X w none (ret none) := ⟨fun pins s σ H Q I ⟨O, ds, sa, q⟩ => po_none.run pins s σ H Q I (q H O (Post.refl sa))⟩
def intO (f : M PD) : M (Option Int) := bnd f fun x => match x with
  | .int i => ret (some i)
  | _ => stuck
theorem do_some (ha : DE X w a fa) : DO X w (some a) (intO fa) := ⟨fun pins s σ H Q I ⟨O, ds, sa, q⟩ => (po_some ha).run pins s σ H Q I ⟨O, ds, sa, by
  unfold intO bnd at q
  cases e : fa ds with
  | ok x ds' =>
    rw [e] at q
    intro v H' O' p rv
    cases x with
    | int i => cases rv; exact ⟨i, rfl, q H' O' p⟩
    | _ => exact q.elim
  | ex x ds' => rw [e] at q; exact q
  | err => rw [e] at q; exact q⟩⟩
theorem cut_all {α : Type} {xs : List α} {lo hi : Option Int} (h : HT.sIx xs.length 0 lo = 0 ∧ HT.sIx xs.length xs.length hi = xs.length) : (xs.drop (HT.sIx xs.length 0 lo)).take (HT.sIx xs.length xs.length hi - HT.sIx xs.length 0 lo) = xs := by
  rw [h.1, h.2]; simp
def slM (fa : M PD) (fl fh : M (Option Int)) : M RV := bnd fa fun x => bnd fl fun l => bnd fh fun h => ofO (slV l h x)
theorem ve_sl {lo hi : Option Expr} {fl fh : M (Option Int)} {p2 : Pos} (ha : DE X w a fa) (hl : DO X w lo fl) (hh : DO X w hi fh) : VE X w (.Subscript a (.Slice lo hi none p2) pos) (slM fa fl fh) :=
  (pe_slice (sl_list.or sl_tupA) ha hl hh).weak fun σ H Q ⟨O, ds, s, q⟩ => by
  refine ⟨O, ds, s, RdK.bind q fun x v H1 O1 ds1 p rv h1 => ⟨O1, ds1, p.sat, ?_⟩⟩
  unfold bnd at h1
  cases e : fl ds1 with
  | ex x ds' => rw [e] at h1; exact h1
  | err => rw [e] at h1; exact h1
  | ok lo' ds2 =>
    rw [e] at h1
    intro H2 O2 p2
    have h1 := RdK.pre p2 h1
    refine ⟨O2, ds2, p2.sat, ?_⟩
    dsimp only at h1
    cases e2 : fh ds2 with
    | ex x ds' => rw [e2] at h1; exact h1
    | err => rw [e2] at h1; exact h1
    | ok hi' ds3 =>
      rw [e2] at h1
      intro H3 O3 p3
      have h1 := RdK.pre p3 h1
      dsimp only at h1
      have hx := Dq.mono (p2.trans p3).ext _ _ rv
      cases e3 : slV lo' hi' x with
      | none => rw [e3] at h1; exact h1.elim
      | some z =>
        rw [e3] at h1
        have k := RdK.kok p3.sat h1
        cases hx with
        | @lst p' vs xs g1 g2 =>
          cases e3
          exact .inl ⟨p', vs, rfl, .inl (.inl (hid_some g1).2), fun r hr => k.newL hr (g2.cut _ _)⟩
        | @tup p' vs xs g1 g2 =>
          cases e3
          refine .inr ⟨p', vs, rfl, hid_ext.sqT g1, fun z => ?_, fun z r hr => k.newT p3.sat.live hr (g2.cut _ _)⟩
          have e4 : cutD xs lo' hi' = xs := by
            unfold cutD
            rw [g2.length] at z
            exact cut_all z
          have k : KOk X.K O3 H3 (.dat (.tuple (cutD xs lo' hi'))) Q := k
          rw [e4] at k
          exact k.here (.tup g1 g2)
        | _ => cases e3
end
end DL

namespace DL
open PySem PySem.Spec PyProof.Rows L2

/-! ### calls of built-ins -/
section
variable {X : Cx} {w : Wi} {e : Expr} {es : List Expr} {p pos : Pos} {α : Type} {tr : α → RV} {x : Str} {id T : String} {r : List V → Hp → VK → Prop} {f : List PD → Option α} {fa : M (List PD)}
theorem cb_weak {e : Expr} (h : ∀ {t : TA}, PA X es t → PE X e (tCB r t)) (hv : VoN X.K tr r f) (ha : DA X w es fa) : PE X e (rd X.K w tr (nry f fa)) := (h ha).weak fun σ H Q ⟨O, ds, s, q⟩ => by
  refine ⟨O, ds, s, RdA.bind q fun xs vs H1 O1 ds1 p hv1 h1 => ?_⟩
  cases e : f xs with
  | none => rw [e] at h1; exact h1.elim
  | some z =>
    rw [e] at h1
    exact hv O1 H1 vs xs z Q p.sat.live hv1 e (RdK.kok p.sat h1)
theorem xe_callB (hc : CallR X (.builtin id) r) (hv : VoN X.K tr r f) (hg : Gl X x) (hm : X.mg x = none) (hb : bootBuiltins x = some (.builtin id)) (ha : DA X w (e :: es) fa) (hn : x ≠ "__name__" := by decide) (hdb : (x == ("__debug__" : Str)) = false := by decide)
    (he : starEach (e :: es) X.env = (false, eval e X.env) :: starEach es X.env := by rfl) (hpl : (backTo pos (starEach es X.env)).any (·.1) = false := by rfl) : PE X (.Call (.Name x p) (e :: es) [] pos) (rd X.K w tr (nry f fa)) :=
  cb_weak (fun h => pe_callB hc hg hm hb h hn hdb he hpl) hv ha
theorem xe_callTy (hc : CallR X (.type T) r) (hv : VoN X.K tr r f) (hg : Gl X x) (hm : X.mg x = none) (hb : bootBuiltins x = some (.type T)) (ha : DA X w (e :: es) fa) (hn : x ≠ "__name__" := by decide) (hdb : (x == ("__debug__" : Str)) = false := by decide)
    (he : starEach (e :: es) X.env = (false, eval e X.env) :: starEach es X.env := by rfl) (hpl : (backTo pos (starEach es X.env)).any (·.1) = false := by rfl) : PE X (.Call (.Name x p) (e :: es) [] pos) (rd X.K w tr (nry f fa)) :=
  cb_weak (fun h => pe_callTy hc hg hm hb h hn hdb he hpl) hv ha
end
/-- one argument -/
def one {α : Type} (f : PD → Option α) : List PD → Option α
  | [d] => f d
  | _ => none
def two {α : Type} (f : PD → PD → Option α) : List PD → Option α
  | [d, e] => f d e
  | _ => none
def lenD : PD → Option PD
  | .list xs => some (.int xs.length)
  | .tuple xs => some (.int xs.length)
  | .str x => if x.length ≤ lim then some (.int x.length) else none
  | _ => none
def boolsOf : List PD → Option (List Bool)
  | [] => some []
  | .bool b :: r => (boolsOf r).map (b :: ·)
  | _ :: _ => none
def intsOf : List PD → Option (List Int)
  | [] => some []
  | .int i :: r => (intsOf r).map (i :: ·)
  | _ :: _ => none
def allD : PD → Option PD
  | .list xs => (boolsOf xs).map fun bs => .bool (bs.all id)
  | _ => none
def anyD : PD → Option PD
  | .list xs => (boolsOf xs).map fun bs => .bool (bs.any id)
  | _ => none
def sumD : PD → Option PD
  | .list xs => (intsOf xs).map fun ns => .int ns.sum
  | _ => none
def listD (d : PD) : Option Cn := (seqOf d).map .lst
def tupleD (d : PD) : Option PD := (seqOf d).map .tuple
def intD : PD → Option PD
  | .int i => some (.int i)
  | .bool b => some (.int (if b then 1 else 0))
  | _ => none
def absD : PD → Option PD
  | .int i => some (.int (if i < 0 then -i else i))
  | _ => none
def max2 : PD → PD → Option PD
  | .int i, .int j => some (.int (if j > i then j else i))
  | _, _ => none
def min2 : PD → PD → Option PD
  | .int i, .int j => some (.int (if j < i then j else i))
  | _, _ => none
section
variable {K : Fg}
theorem dq_bools {H : Hp} : ∀ {xs : List PD} {vs : List V} {bs : List Bool}, DqAll K H vs xs → boolsOf xs = some bs → vs = bs.map V.bl
  | [], _, _, .nil, e => by cases e; rfl
  | .bool b :: r, _, bs, .cons h1 h2, e => by
    cases h1
    unfold boolsOf at e
    cases q : boolsOf r with
    | none => rw [q] at e; cases e
    | some cs => rw [q] at e; cases e; rw [dq_bools h2 q]; rfl
  | .none :: _, _, _, _, e => by cases e
  | .int _ :: _, _, _, _, e => by cases e
  | .str _ :: _, _, _, _, e => by cases e
  | .list _ :: _, _, _, _, e => by cases e
  | .tuple _ :: _, _, _, _, e => by cases e
  | .dict _ :: _, _, _, _, e => by cases e
theorem dq_ints {H : Hp} : ∀ {xs : List PD} {vs : List V} {bs : List Int}, DqAll K H vs xs → intsOf xs = some bs → vs = bs.map V.int
  | [], _, _, .nil, e => by cases e; rfl
  | .int b :: r, _, bs, .cons h1 h2, e => by
    cases h1
    unfold intsOf at e
    cases q : intsOf r with
    | none => rw [q] at e; cases e
    | some cs => rw [q] at e; cases e; rw [dq_ints h2 q]; rfl
  | .none :: _, _, _, _, e => by cases e
  | .bool _ :: _, _, _, _, e => by cases e
  | .str _ :: _, _, _, _, e => by cases e
  | .list _ :: _, _, _, _, e => by cases e
  | .tuple _ :: _, _, _, _, e => by cases e
  | .dict _ :: _, _, _, _, e => by cases e
theorem one_inv {α : Type} {f : PD → Option α} {as : List PD} {z : α} {H : Hp} {vs : List V} (h : DqAll K H vs as) (e : one f as = some z) : ∃ d v, as = [d] ∧ vs = [v] ∧ Dq K H v d ∧ f d = some z := by
  cases h with
  | nil => cases e
  | cons h1 h2 =>
    cases h2 with
    | nil => exact ⟨_, _, rfl, rfl, h1, e⟩
    | cons _ _ => cases e
theorem two_inv {α : Type} {f : PD → PD → Option α} {as : List PD} {z : α} {H : Hp} {vs : List V} (h : DqAll K H vs as) (e : two f as = some z) : ∃ d d' v v', as = [d, d'] ∧ vs = [v, v'] ∧ Dq K H v d ∧ Dq K H v' d' ∧ f d d' = some z := by
  cases h with
  | nil => cases e
  | cons h1 h2 =>
    cases h2 with
    | nil => cases e
    | cons h2 h3 =>
      cases h3 with
      | nil => exact ⟨_, _, _, _, rfl, rfl, h1, h2, e⟩
      | cons _ _ => cases e
theorem vo_len : VoN K .dat (fun xs H Q => ∃ x n, xs = [x] ∧ LenV K x H n ∧ Q (.int n) H) (one lenD) := fun O H xs as z Q l h e k => by
  obtain ⟨d, v, rfl, rfl, hv, e⟩ := one_inv h e
  cases hv with
  | @lst p vs ds h1 h2 => cases e; exact ⟨_, vs.length, rfl, .inl ⟨vs, .inl (.inl (hid_some h1).2), rfl⟩, by rw [h2.length]; exact k.here (.int _)⟩
  | @tup p vs ds h1 h2 => cases e; exact ⟨_, vs.length, rfl, .inr ⟨vs, hid_ext.sqT h1, rfl⟩, by rw [h2.length]; exact k.here (.int _)⟩
  | str x =>
    unfold lenD at e; dsimp only at e
    by_cases c : x.length ≤ lim
    · rw [if_pos c] at e; cases e
      exact ⟨_, x.length, rfl, ⟨le_line c, rfl⟩, k.here (.int _)⟩
    · rw [if_neg c] at e; cases e
  | _ => cases e
theorem vo_all : VoN K .dat (rAll K) (one allD) := fun O H xs as z Q l h e k => by
  obtain ⟨d, v, rfl, rfl, hv, e⟩ := one_inv h e
  cases hv with
  | @lst p vs ds h1 h2 =>
    unfold allD at e; dsimp only at e
    cases q : boolsOf ds with
    | none => rw [q] at e; cases e
    | some bs =>
      rw [q] at e; cases e
      have := dq_bools h2 q
      subst this
      exact ⟨p, bs, rfl, .inl (.inl (hid_some h1).2), k.here (.bl _)⟩
  | _ => cases e
theorem vo_any : VoN K .dat (rAny K) (one anyD) := fun O H xs as z Q l h e k => by
  obtain ⟨d, v, rfl, rfl, hv, e⟩ := one_inv h e
  cases hv with
  | @lst p vs ds h1 h2 =>
    unfold anyD at e; dsimp only at e
    cases q : boolsOf ds with
    | none => rw [q] at e; cases e
    | some bs =>
      rw [q] at e; cases e
      have := dq_bools h2 q
      subst this
      exact ⟨p, bs, rfl, .inl (.inl (hid_some h1).2), k.here (.bl _)⟩
  | _ => cases e
theorem vo_sum : VoN K .dat (rSum K) (one sumD) := fun O H xs as z Q l h e k => by
  obtain ⟨d, v, rfl, rfl, hv, e⟩ := one_inv h e
  cases hv with
  | @lst p vs ds h1 h2 =>
    unfold sumD at e; dsimp only at e
    cases q : intsOf ds with
    | none => rw [q] at e; cases e
    | some bs =>
      rw [q] at e; cases e
      have := dq_ints h2 q
      subst this
      exact ⟨p, bs, rfl, .inl (.inl (hid_some h1).2), k.here (.int _)⟩
  | _ => cases e
theorem vo_list : VoN K .own (fun xs H Q => ∃ p ys, xs = [.ref p] ∧ (SqL K H p ys ∨ SqT K H p ys) ∧ ∀ l, H l = none → Q (.ref l) (upd H l (.lst ys))) (one listD) := fun O H xs as z Q l h e k => by
  obtain ⟨d, v, rfl, rfl, hv, e⟩ := one_inv h e
  cases hv with
  | @lst p vs ds h1 h2 => cases e; exact ⟨p, vs, rfl, .inl (.inl (.inl (hid_some h1).2)), fun r hr => k.newL hr h2⟩
  | @tup p vs ds h1 h2 => cases e; exact ⟨p, vs, rfl, .inr (hid_ext.sqT h1), fun r hr => k.newL hr h2⟩
  | _ => cases e
theorem vo_tuple : VoN K .dat (fun xs H Q => ∃ p ys, xs = [.ref p] ∧ ((SqL K H p ys ∧ ∀ l, H l = none → Q (.ref l) (upd H l (.tup ys))) ∨ (SqT K H p ys ∧ Q (.ref p) H))) (one tupleD) := fun O H xs as z Q l h e k => by
  obtain ⟨d, v, rfl, rfl, hv, e⟩ := one_inv h e
  cases hv with
  | @lst p vs ds h1 h2 => cases e; exact ⟨p, vs, rfl, .inl ⟨.inl (.inl (hid_some h1).2), fun r hr => k.newT l hr h2⟩⟩
  | @tup p vs ds h1 h2 => cases e; exact ⟨p, vs, rfl, .inr ⟨hid_ext.sqT h1, k.here (.tup h1 h2)⟩⟩
  | _ => cases e
theorem vo_int : VoN K .dat (fun xs H Q => (∃ i, xs = [.int i] ∧ Q (.int i) H) ∨ ∃ k, xs = [.bl k] ∧ Q (.int (if k then 1 else 0)) H) (one intD) := fun O H xs as z Q l h e k => by
  obtain ⟨d, v, rfl, rfl, hv, e⟩ := one_inv h e
  cases hv with
  | int i => cases e; exact .inl ⟨i, rfl, k.here (.int _)⟩
  | bl b => cases e; exact .inr ⟨b, rfl, k.here (.int _)⟩
  | _ => cases e
theorem vo_abs : VoN K .dat (fun xs H Q => ∃ i, xs = [.int i] ∧ Q (.int (if i < 0 then -i else i)) H) (one absD) := fun O H xs as z Q l h e k => by
  obtain ⟨d, v, rfl, rfl, hv, e⟩ := one_inv h e
  cases hv with
  | int i => cases e; exact ⟨i, rfl, k.here (.int _)⟩
  | _ => cases e
theorem vo_max2 : VoN K .dat (fun xs H Q => ∃ i j, xs = [.int i, .int j] ∧ Q (.int (if j > i then j else i)) H) (two max2) := fun O H xs as z Q l h e k => by
  obtain ⟨d, d', v, v', rfl, rfl, h1, h2, e⟩ := two_inv h e
  cases h1 <;> cases h2 <;> cases e
  exact ⟨_, _, rfl, k.here (.int _)⟩
theorem vo_min2 : VoN K .dat (fun xs H Q => ∃ i j, xs = [.int i, .int j] ∧ Q (.int (if j < i then j else i)) H) (two min2) := fun O H xs as z Q l h e k => by
  obtain ⟨d, d', v, v', rfl, rfl, h1, h2, e⟩ := two_inv h e
  cases h1 <;> cases h2 <;> cases e
  exact ⟨_, _, rfl, k.here (.int _)⟩
end
section
variable {X : Cx} {w : Wi} {e e2 : Expr} {p pos : Pos} {fa fb : M PD}
/-- short: f of one, of two arguments -/
def ap1 {α : Type} (f : PD → Option α) (fa : M PD) : M α := nry (one f) (bnd fa fun x => bnd (ret []) fun xs => ret (x :: xs))
def ap2 {α : Type} (f : PD → PD → Option α) (fa fb : M PD) : M α := nry (two f) (bnd fa fun x => bnd (bnd fb fun y => bnd (ret []) fun ys => ret (y :: ys)) fun xs => ret (x :: xs))
/-- no star -/
def NS (X : Cx) (e : Expr) : Prop := ∀ es, starEach (e :: es) X.env = (false, eval e X.env) :: starEach es X.env
theorem NS.pl {X : Cx} {e : Expr} {pos : Pos} (h : NS X e) : (backTo pos (starEach [e] X.env)).any (·.1) = false := by rw [h []]; rfl
theorem da1 (h : DE X w e fa) (ns : NS X e) : DA X w [e] (bnd fa fun x => bnd (ret []) fun xs => ret (x :: xs)) := da_cons h da_nil (ns [])
theorem da2 (h : DE X w e fa) (h2 : DE X w e2 fb) (ns : NS X e) (ns2 : NS X e2) :
    DA X w [e, e2] (bnd fa fun x => bnd (bnd fb fun y => bnd (ret []) fun ys => ret (y :: ys)) fun xs => ret (x :: xs)) := da_cons h (da_cons h2 da_nil (ns2 [])) (ns [e2])
theorem de_len (hg : Gl X "len") (hm : X.mg "len" = none) (h : DE X w e fa) (ns : NS X e := by exact fun _ => rfl) : DE X w (.Call (.Name "len" p) [e] [] pos) (ap1 lenD fa) := xe_callB call_len vo_len hg hm PySem.boot_len (da1 h ns) (by decide) (by decide) (ns []) rfl
theorem de_all (hc : X.calm = true) (hg : Gl X "all") (hm : X.mg "all" = none) (h : DE X w e fa) (ns : NS X e := by exact fun _ => rfl) : DE X w (.Call (.Name "all" p) [e] [] pos) (ap1 allD fa) := xe_callB (cr_all hc) vo_all hg hm (by decide +kernel) (da1 h ns) (by decide) (by decide) (ns []) rfl
theorem de_any (hc : X.calm = true) (hg : Gl X "any") (hm : X.mg "any" = none) (h : DE X w e fa) (ns : NS X e := by exact fun _ => rfl) : DE X w (.Call (.Name "any" p) [e] [] pos) (ap1 anyD fa) := xe_callB (cr_any hc) vo_any hg hm (by decide +kernel) (da1 h ns) (by decide) (by decide) (ns []) rfl
theorem de_sum (hc : X.calm = true) (hg : Gl X "sum") (hm : X.mg "sum" = none) (h : DE X w e fa) (ns : NS X e := by exact fun _ => rfl) : DE X w (.Call (.Name "sum" p) [e] [] pos) (ap1 sumD fa) := xe_callB (cr_sum hc) vo_sum hg hm (by decide +kernel) (da1 h ns) (by decide) (by decide) (ns []) rfl
theorem de_abs (hg : Gl X "abs") (hm : X.mg "abs" = none) (h : DE X w e fa) (ns : NS X e := by exact fun _ => rfl) : DE X w (.Call (.Name "abs" p) [e] [] pos) (ap1 absD fa) := xe_callB call_abs vo_abs hg hm (by decide +kernel) (da1 h ns) (by decide) (by decide) (ns []) rfl
theorem de_tuple (hg : Gl X "tuple") (hm : X.mg "tuple" = none) (h : DE X w e fa) (ns : NS X e := by exact fun _ => rfl) : DE X w (.Call (.Name "tuple" p) [e] [] pos) (ap1 tupleD fa) := xe_callTy call_tuple_of vo_tuple hg hm (by decide +kernel) (da1 h ns) (by decide) (by decide) (ns []) rfl
theorem de_intc (hg : Gl X "int") (hm : X.mg "int" = none) (h : DE X w e fa) (ns : NS X e := by exact fun _ => rfl) : DE X w (.Call (.Name "int" p) [e] [] pos) (ap1 intD fa) := xe_callTy call_int1 vo_int hg hm (by decide +kernel) (da1 h ns) (by decide) (by decide) (ns []) rfl
theorem oe_list (hg : Gl X "list") (hm : X.mg "list" = none) (h : DE X w e fa) (ns : NS X e := by exact fun _ => rfl) : OE X w (.Call (.Name "list" p) [e] [] pos) (ap1 listD fa) := xe_callTy call_list_of vo_list hg hm (by decide +kernel) (da1 h ns) (by decide) (by decide) (ns []) rfl
theorem de_max2 (hc : X.calm = true) (hg : Gl X "max") (hm : X.mg "max" = none) (h : DE X w e fa) (h2 : DE X w e2 fb) (ns : NS X e := by exact fun _ => rfl) (ns2 : NS X e2 := by exact fun _ => rfl) : DE X w (.Call (.Name "max" p) [e, e2] [] pos) (ap2 max2 fa fb) := xe_callB (call_max2 hc) vo_max2 hg hm (by decide +kernel) (da2 h h2 ns ns2) (by decide) (by decide) (ns [e2]) ns2.pl
theorem de_min2 (hc : X.calm = true) (hg : Gl X "min") (hm : X.mg "min" = none) (h : DE X w e fa) (h2 : DE X w e2 fb) (ns : NS X e := by exact fun _ => rfl) (ns2 : NS X e2 := by exact fun _ => rfl) : DE X w (.Call (.Name "min" p) [e, e2] [] pos) (ap2 min2 fa fb) := xe_callB (call_min2 hc) vo_min2 hg hm (by decide +kernel) (da2 h h2 ns ns2) (by decide) (by decide) (ns [e2]) ns2.pl

/-! isinstance of a built-in class -/
def tyD : PD → String
  | .none => "NoneType"
  | .bool _ => "bool"
  | .int _ => "int"
  | .str _ => "str"
  | .list _ => "list"
  | .tuple _ => "tuple"
  | .dict _ => "dict"
def isiD (T : String) (d : PD) : Bool := match d with
  | .bool _ => T == "bool" || T == "int"
  | d => T == tyD d
def isDic : PD → Bool
  | .dict _ => true
  | _ => false
theorem Dq.ty {K : Fg} {O : Ow} {H : Hp} {v : V} {d : PD} (nd : isDic d = false) (h : Dq K (hid O H) v d) : TyX K H v (.type (tyD d)) := by
  cases h with
  | non => exact .base .non
  | bl b => exact .base (.bl b)
  | int i => exact .base (.int i)
  | str x => exact .base (.str x)
  | lst h1 h2 => exact .base (.lst (hid_some h1).2)
  | tup h1 h2 =>
    rcases h1 with (h1 | ⟨o, h1⟩) | ⟨o, its, n, h1, c, _⟩
    · exact .base (.tup (hid_some h1).2)
    · exact .fTuple (hid_some h1).2
    · exact .kTuple h1 c
  | dic h1 h2 => cases nd
  | dit h1 h2 => cases nd
/-- the five classes that are asked of -/
def isiTab (T : String) : Bool := (["NoneType", "bool", "int", "str", "list", "tuple", "dict"].all fun a => kitB a T == some (if a == "bool" then T == "bool" || T == "int" else T == a))
theorem kit_isi {K : Fg} {T : String} (h : isiTab T = true) (d : PD) : PySem.W.kitOne K (.type (tyD d)) (.type T) = some (isiD T d) := by
  have g : ∀ a, a ∈ ["NoneType", "bool", "int", "str", "list", "tuple", "dict"] → kitB a T = some (if a == "bool" then T == "bool" || T == "int" else T == a) := fun a ha => by
    have := List.all_eq_true.mp h a ha
    exact eq_of_beq this
  refine kit_ty ?_
  cases d with
  | none => exact g "NoneType" (by simp)
  | bool b => exact g "bool" (by simp)
  | int i => exact g "int" (by simp)
  | str x => exact g "str" (by simp)
  | list xs => exact g "list" (by simp)
  | tuple xs => exact g "tuple" (by simp)
  | dict kvs => exact g "dict" (by simp)
def isiM (T : String) (fa : M PD) : M PD := bnd fa fun x => if isDic x = true then stuck else ret (.bool (isiD T x))
theorem ns_name {x : Str} {px : Pos} : NS X (.Name x px) := fun _ => rfl
theorem de_isi {T : String} {x : Str} {px : Pos} (ht : isiTab T = true) (hg : Gl X "isinstance") (hm : X.mg "isinstance" = none) (hgx : Gl X x) (hmx : X.mg x = none) (hbx : bootBuiltins x = some (.type T)) (h : DE X w e fa)
    (hn : x ≠ "__name__" := by decide) (hdb : (x == ("__debug__" : Str)) = false := by decide) (ns : NS X e := by exact fun _ => rfl) :
    DE X w (.Call (.Name "isinstance" p) [e, .Name x px] [] pos) (isiM T fa) := (pe_callB call_isi hg hm (by decide +kernel) (pa_cons h (pa_cons (pe_bltn (v := .ty T) hgx hmx hbx rfl hn hdb) pa_nil (ns_name [])) (ns _)) (by decide) (by decide) (ns _) ns_name.pl).weak fun σ H Q ⟨O, ds, s, q⟩ => by
  refine ⟨O, ds, s, RdK.bind q fun x v H1 O1 ds1 p rv h1 => ?_⟩
  cases nd : isDic x with
  | true => rw [if_pos nd] at h1; exact h1.elim
  | false =>
    rw [if_neg (by rw [nd]; exact Bool.false_ne_true)] at h1
    exact ⟨v, .ty T, _, _, _, rfl, .ty T, rv.ty nd, kit_isi ht x, RdK.dat_here p.sat h1 (.bl _)⟩
end
theorem tab_tuple : isiTab "tuple" = true := by decide +kernel
theorem tab_int : isiTab "int" = true := by decide +kernel
theorem tab_bool : isiTab "bool" = true := by decide +kernel
theorem tab_str : isiTab "str" = true := by decide +kernel
theorem tab_list : isiTab "list" = true := by decide +kernel
end DL

set_option maxHeartbeats 1000000
namespace DL
open PySem PySem.Spec PyProof.Rows L2

/-! ### sources of any kind: a list or a tuple -/
def SqX (K : Fg) (H : Hp) (k : Bool) (a : Addr) (xs : List V) : Prop := match k with
  | true => SqL K H a xs
  | false => SqT K H a xs
def IterX (h : Heap) (k : Bool) (it a : Addr) (i : Nat) : Prop := match k with
  | true => h.IsListIter it a i
  | false => h.IsTupleIter it a i
def HasX (h : Heap) (k : Bool) (a : Addr) (items : Array Value) : Prop := match k with
  | true => h.IsList a items
  | false => h.IsTuple a items
def iterObj (k : Bool) (a : Addr) : Obj := match k with
  | true => { cls := .type "list_iterator", data := .fields #[.ref a, .int 0 0] }
  | false => { cls := .type "tuple_iterator", data := .fields #[.ref a, .int 0 0] }
theorem begins_x (k : Bool) (a : Addr) (items : Array Value) : Begins (.ref a) (iterObj k a) (fun h => HasX h k a items) := by
  cases k
  · exact begins_tuple a items
  · exact begins_list a items
theorem draws_x {prog : Program} {w : World} {A : Around} (hh : A.handled = none) (k : Bool) (it a : Addr) (hne : a ≠ it) (items : Array Value) :
    Draws prog w A it [it, a] items.size (fun i v => items[i]? = some v) (fun i h => IterX h k it a i ∧ HasX h k a items) := by
  cases k
  · exact Draws.tuple hh it a hne items
  · exact Draws.list hh it a hne items
theorem iter_made {h : Heap} {k : Bool} {it a : Addr} (e : h.get? it = some (iterObj k a)) : IterX h k it a 0 := by
  cases k
  · exact ⟨_, e, rfl, rfl⟩
  · exact ⟨_, e, rfl, rfl⟩
theorem IterX.at' {h h' : Heap} {k : Bool} {it a : Addr} {i : Nat} (s : IterX h k it a i) (e : ∀ o, h.get? it = some o → h'.get? it = some o) : IterX h' k it a i := by
  cases k
  · exact Heap.IsTupleIter.at (show h.IsTupleIter it a i from s) e
  · exact Heap.IsListIter.at (show h.IsListIter it a i from s) e
theorem IterX.obj {h : Heap} {k : Bool} {it a : Addr} {i : Nat} (s : IterX h k it a i) : ∃ o, h.get? it = some o ∧ ∀ v, o.data ≠ .cell v := by
  cases k
  · obtain ⟨o, e, _, d⟩ := (show h.IsTupleIter it a i from s)
    exact ⟨o, e, fun v z => by rw [d] at z; cases z⟩
  · obtain ⟨o, e, _, d⟩ := (show h.IsListIter it a i from s)
    exact ⟨o, e, fun v z => by rw [d] at z; cases z⟩
section
variable {X : Cx} {pins : List (Addr × Obj)} {σ : L2.St} {H : Hp} {s : Shared} {a : Addr} {xs ys : List V} {k : Bool}
theorem inv_x (I : Inv X pins σ H s) (h : SqX X.K H k a xs) : ∃ its : List Value, Vals xs its ∧ HasX s.heap k a its.toArray ∧ (∃ o, s.heap.get? a = some o) := by
  cases k
  · obtain ⟨its, r, p, _⟩ := I.tuple (show SqT X.K H a xs from h)
    obtain ⟨o, e, _⟩ := id p
    exact ⟨its, r, p, o, e⟩
  · obtain ⟨its, r, p, _⟩ := I.list (show SqL X.K H a xs from h)
    obtain ⟨o, n, e, _⟩ := id p
    exact ⟨its, r, p.isList, o, e⟩
theorem inv_x_inj (I : Inv X pins σ H s) (h : SqX X.K H k a xs) (h' : SqX X.K H k a ys) : xs = ys := by
  cases k
  · exact I.tuple_inj h h'
  · exact I.list_inj h h'
end

/-! ### for over a list or a tuple -/
def iSeq (K : Fg) (tl : TE) : TI := fun σ H R => tl σ H fun x H1 => ∃ a, x = .ref a ∧ (((∃ xs, SqL K H1 a xs) ∧ R (Itl K a) H1) ∨ ((∃ xs, SqT K H1 a xs) ∧ R (Itt K a) H1))
theorem pi_seq {X : Cx} {tg l : Expr} {tl : TE} (hl : PE X l tl) : PI X tg l (iSeq X.K tl) := by
  refine ⟨fun pins s σ H R I h => ?_⟩
  refine thn (hl.run pins s σ H _ I h) fun v s1 ⟨x, H1, I1, r1, q1⟩ => ?_
  obtain ⟨a, e, q1⟩ := q1
  subst e
  cases r1
  rcases q1 with ⟨⟨xs, hq⟩, q⟩ | ⟨⟨xs, hq⟩, q⟩
  · obtain ⟨its, rv, p, hz⟩ := I1.list hq
    refine wpAny_pyIter_list p.isList ?_
    refine ⟨s1.heap.objs.size, [s1.heap.objs.size], _, _, H1, rfl, I1.kept (t' := s1.toks) fun b o e => Heap.get?_push_of_some _ e, turn_list a _, ⟨_, Heap.get?_push_size _ rfl, rfl, rfl⟩, fun b hb => ?_, q⟩
    have e : b = s1.heap.objs.size := by simpa using hb
    subst e
    exact I1.fpOk (Nat.le_refl _) (I1.hok.fresh (Nat.le_refl _))
  · obtain ⟨its, rv, p, hz⟩ := I1.tuple hq
    refine wpAny_pyIter_tuple (show s1.heap.IsTuple a its.toArray from p) ?_
    refine ⟨s1.heap.objs.size, [s1.heap.objs.size], _, _, H1, rfl, I1.kept (t' := s1.toks) fun b o e => Heap.get?_push_of_some _ e, turn_tuple a _, ⟨_, Heap.get?_push_size _ rfl, rfl, rfl⟩, fun b hb => ?_, q⟩
    have e : b = s1.heap.objs.size := by simpa using hb
    subst e
    exact I1.fpOk (Nat.le_refl _) (I1.hok.fresh (Nat.le_refl _))

/-! ### enumerate of a list or a tuple -/
set_option maxHeartbeats 2000000 in
theorem meets_enumerate_one {v : Value} {o : Obj} {H : Heap → Prop} (B : Begins v o H) :
    Meets (Builtin.«enumerate.__new__» ⟨[.type "enumerate", v], []⟩) (fun _ R s => H s.heap ∧
      R (.ok (.ret (.ref (s.heap.push o).objs.size))) { s with heap := (s.heap.push o).push { cls := .type "enumerate", data := .fields #[.none, .bool false, .ref s.heap.objs.size, rawInt 0, .none, .none] } }) :=
  .of_wp fun prog w A R s h => by
    obtain ⟨hp, g, d, tk, os⟩ := s; obtain ⟨h1, h⟩ := h
    have hsub := sub_enumerate
    have q1 : ∀ {A' : Around} {E : Value → Shared → Prop} {Q : Value → Shared → Prop}, Q (.ref hp.objs.size) ⟨hp.push o, g, d, tk, os⟩ → wpAny (model prog w) A' (pyIter v) Q E ⟨hp, g, d, tk, os⟩ :=
      fun q => B.iter prog w _ _ ⟨hp, g, d, tk, os⟩ _ h1 q
    wp_walk using q1
    refine wpAny_stack_any fun st => wpAny_pure ?_
    split
    · rename_i c _ _ _ _ _
      cases (c == Value.type "enumerate")
      · wp_walk using q1
        exact ⟨_, rfl, h⟩
      · wp_walk using q1
        exact ⟨_, rfl, h⟩
    · wp_walk using q1
      exact ⟨_, rfl, h⟩
theorem call_enum_one {prog : Program} {w : World} {A : Around} {E : Value → Shared → Prop} {s : Shared} {v : Value} {o : Obj} {H : Heap → Prop} {Q : Value → Shared → Prop} (B : Begins v o H) (h1 : H s.heap)
    (h : ∀ h', IsEnum h' (s.heap.objs.size + 1) s.heap.objs.size 0 .none → h'.get? s.heap.objs.size = some o → h'.objs.size = s.heap.objs.size + 2 →
      (∀ b o, s.heap.get? b = some o → h'.get? b = some o) → Q (.ref (s.heap.objs.size + 1)) { s with heap := h' }) :
    wpAny (model prog w) A (call (.type "enumerate") [v]) Q E s := by
  refine callType_new F.called_enumerate (by decide) (F.typeCall_enumerate_1 _) (F.newCall_enumerate_1 _) (fun obj => F.args_object_init_2 obj _) F.entry_enumerate_new
    (meets_enumerate_one B) ⟨h1, ?_⟩
  have hz : (s.heap.push o).objs.size = s.heap.objs.size + 1 := Heap.size_push ..
  show _ ∧ _
  rw [hz]
  have he : IsEnum ((s.heap.push o).push { cls := .type "enumerate", data := .fields #[.none, .bool false, .ref s.heap.objs.size, rawInt 0, .none, .none] }) (s.heap.objs.size + 1) s.heap.objs.size 0 .none := by
    have := Heap.get?_push_size (s.heap.push o) (o := { cls := .type "enumerate", data := .fields #[.none, .bool false, .ref s.heap.objs.size, rawInt 0, .none, .none] }) rfl
    rw [hz] at this; exact this
  refine ⟨⟨_, he, rfl⟩, h _ he (Heap.get?_push_of_some _ (Heap.get?_push_size _ B.free)) (by rw [Heap.size_push, hz]) fun b o x => Heap.get?_push_of_some _ (Heap.get?_push_of_some _ x)⟩
def IteX (K : Fg) (k : Bool) (a : Addr) : It :=
  ⟨fun i H => ∃ xs x, SqX K H k a xs ∧ xs[i]? = some x,
    fun i H v H' => ∃ T x, v = .ref T ∧ H T = none ∧ H' = upd H T (.tup [.int (i : Nat), x]) ∧ ∀ xs, SqX K H k a xs → xs[i]? = some x,
    fun i H => ∃ xs, SqX K H k a xs ∧ xs.length = i⟩
theorem turn_enumX {P : Program} {w : World} {K : Fg} {elts : List Expr} {kk : Nat} {tpos : Pos} (k : Bool) (a e it : Addr) :
    Turn P w K (.Tuple elts kk tpos) (IteX K k a) [e, it] e (fun i h => (∃ old, IsEnum h e it (i : Int) old) ∧ IterX h k it a i ∧ e ≠ it ∧ a ≠ it ∧ e ≠ a) where
  mem := by simp
  obj := fun i h st b hb => by
    obtain ⟨⟨old, he⟩, hi, _⟩ := st
    have e' : b = e ∨ b = it := by simpa using hb
    rcases e' with z | z
    · rw [z]; exact ⟨_, he, fun v q => nomatch q⟩
    · rw [z]; exact hi.obj
  keep := fun i h h' st k => let ⟨⟨old, he⟩, hi, r⟩ := st; ⟨⟨old, k e (by simp) _ he⟩, hi.at' fun o q => k it (by simp) o q, r⟩
  item := by
    intro X hP hw hK hc i pins s σ H E I hf st hg
    subst hP hw hK
    obtain ⟨⟨old, he⟩, hit, hne, hai, hea⟩ := st
    obtain ⟨xs, x, hq, hx⟩ := hg
    obtain ⟨its, rv, p, oa, ha⟩ := inv_x I hq
    obtain ⟨u, hu, ru⟩ := rv.get hx
    have hel : e < s.heap.objs.size := Heap.lt_size he
    have hil : it < s.heap.objs.size := by obtain ⟨_, q, _⟩ := hit.obj; exact Heap.lt_size q
    have hlt : i < its.toArray.size := by
      have := (List.getElem?_eq_some_iff.mp hu).1
      simpa using this
    refine wpAny_pyNext_enum_itemC (draws_x (A := X.A.in1) (I.ok.hd hc) k it a hai its.toArray) he ⟨hit, p⟩ hlt hne (by simp; exact ⟨hne, hea⟩) fun x' h' tk hP' ho hst' hT hsz hk => ?_
    have ex : x' = u := by
      have : its.toArray[i]? = some x' := hP'
      rw [show its.toArray[i]? = some u by simpa using hu] at this
      exact (Option.some.inj this).symm
    subst ex
    refine ⟨_, rfl, wpAny_letOwnedTupleGo_enum (s := { s with heap := h', toks := tk + 1 }) ho fun h'' he' sb => ?_⟩
    have hT2 : h''.get? s.heap.objs.size = some { cls := .type "tuple", data := .seq #[.int i tk, x'] } := (sb.2 _ (Nat.ne_of_gt hel)).trans hT
    have new : ObjOk X.prog X.w (upd H s.heap.objs.size (.tup [.int (i : Nat), x])) h'' s.heap.objs.size (.tup [.int (i : Nat), x]) :=
      ⟨by show 2 ≤ sizeLine; decide, [.int i tk, x'], .cons ⟨_, rfl⟩ (.cons ru .nil), ⟨_, hT2, rfl, _, rfl⟩⟩
    have I1 : Inv X pins σ (upd H s.heap.objs.size (.tup [.int (i : Nat), x])) { s with heap := h'', toks := tk + 1 } :=
      I.turnedNew (ch := [e, it]) (fun b ob hb q => (sb.2 b (fun z => hb (by simp [z]))).trans (hk b ob (fun z => hb (by simp [z])) (fun z => hb (by simp [z])) q)) hf (Nat.le_refl _) new
    refine ⟨.ref s.heap.objs.size, _, I1, rfl, ⟨_, x, rfl, I.hok.fresh (Nat.le_refl _), rfl, fun ys hy => by rw [inv_x_inj I hy hq]; exact hx⟩, ⟨⟨x', ?_⟩, hst'.1.at' fun o q => (sb.2 it (Ne.symm hne)).trans q, hne, hai, hea⟩, fun b hb => ?_⟩
    · have e1 : ((i + 1 : Nat) : Int) = (i : Int) + 1 := by omega
      rw [e1]; exact he'
    · have hb' : b < s.heap.objs.size := by
        have e' : b = e ∨ b = it := by simpa using hb
        rcases e' with z | z
        · rw [z]; exact hel
        · rw [z]; exact hil
      rw [upd_ne (Nat.ne_of_lt hb')]
      exact (hf b hb).1
  done := by
    intro X hP hw hK hc i pins s σ H E I hf st hg
    subst hP hw hK
    obtain ⟨⟨old, he⟩, hit, hne, hai, hea⟩ := st
    obtain ⟨xs, hq, hx⟩ := hg
    obtain ⟨its, rv, p, oa, ha⟩ := inv_x I hq
    obtain ⟨f0, f1, f2, f3, f4, f5⟩ := hf it (by simp)
    have hl := rv.length
    have hn : its.toArray.size = i := by simp; omega
    refine wpAny_pyNext_enum_endD (n := its.toArray.size) (draws_x (A := X.A.in1) (I.ok.hd hc) k it a hai its.toArray) he ⟨by rw [hn]; exact hit, p⟩ fun h' eb => ⟨rfl, I.turned (t' := s.toks) (fun b o hb q => eb b o hb q) f0 f1 f3 f4 f5⟩
  self := fun A i s Q E st h => let ⟨⟨_, he⟩, _⟩ := st; wpAny_pyIter_enum he h
def iEnumX (K : Fg) (ta : TA) : TI := fun σ H R => ta σ H fun vs H1 => ∃ a k xs, vs = [.ref a] ∧ SqX K H1 k a xs ∧ R (IteX K k a) H1
theorem pi_enumX {X : Cx} {e : Expr} {ta : TA} {p pos tpos : Pos} {elts : List Expr} {kk : Nat} (hg : Gl X "enumerate") (hm : X.mg "enumerate" = none) (ha : PA X [e] ta) (hs : starEach [e] X.env = [(false, eval e X.env)]) :
    PI X (.Tuple elts kk tpos) (.Call (.Name "enumerate" p) [e] [] pos) (iEnumX X.K ta) := by
  refine ⟨fun pins s σ H R I h => ?_⟩
  refine Call_ (ld_blt I hg hm boot_enumerate (PyProof.Rows.callWith_type1 (thn (ha.run pos pins s σ H _ I h) fun us s1 ⟨vs, H1, I1, r1, q1⟩ => ?_) hs rfl))
  obtain ⟨a, k, xs, ex, hq, q⟩ := q1
  subst ex
  cases r1 with
  | cons r rr =>
    cases rr
    cases r
    obtain ⟨its, rv, p', oa, hao⟩ := inv_x I1 hq
    have la : a < s1.heap.objs.size := Heap.lt_size hao
    refine call_enum_one (begins_x k a its.toArray) p' fun h' he hit hsz hk => wpAny_pyIter_enum he ?_
    have I2 : Inv X pins σ H1 { s1 with heap := h' } := I1.kept (t' := s1.toks) hk
    refine ⟨s1.heap.objs.size + 1, [s1.heap.objs.size + 1, s1.heap.objs.size], _, _, H1, rfl, I2, turn_enumX k a (s1.heap.objs.size + 1) s1.heap.objs.size, ⟨⟨.none, he⟩, iter_made hit, Nat.succ_ne_self _, Nat.ne_of_lt la, Nat.ne_of_gt (Nat.lt_succ_of_lt la)⟩, fun b hb => ?_, q⟩
    have e' : b = s1.heap.objs.size + 1 ∨ b = s1.heap.objs.size := by simpa using hb
    have hle : s1.heap.objs.size ≤ b := by
      rcases e' with z | z
      · rw [z]; exact Nat.le_add_right _ _
      · rw [z]; exact Nat.le_refl _
    exact I1.fpOk hle (I1.hok.fresh hle)

/-! ### zip of two, each a list or a tuple -/
def ItzX (K : Fg) (k k2 : Bool) (a b : Addr) : It :=
  ⟨fun i H => ∃ (xs ys : List V) (x y : V), SqX K H k a xs ∧ SqX K H k2 b ys ∧ xs[i]? = some x ∧ ys[i]? = some y,
    fun i H v H' => ∃ T x y, v = .ref T ∧ H T = none ∧ H' = upd H T (.tup [x, y]) ∧ (∀ xs, SqX K H k a xs → xs[i]? = some x) ∧ ∀ ys, SqX K H k2 b ys → ys[i]? = some y,
    fun i H => ∃ xs ys : List V, SqX K H k a xs ∧ SqX K H k2 b ys ∧ i ≤ xs.length ∧ i ≤ ys.length ∧ (i = xs.length ∨ i = ys.length)⟩
structure ZipFar (z TI TO i1 i2 a b : Addr) : Prop where
  TIz : TI ≠ z
  TOz : TO ≠ z
  TITO : TI ≠ TO
  TIi1 : TI ≠ i1
  TIi2 : TI ≠ i2
  zi1 : z ≠ i1
  zi2 : z ≠ i2
  Ti1 : TO ≠ i1
  Ti2 : TO ≠ i2
  i12 : i1 ≠ i2
  za : z ≠ a
  zb : z ≠ b
  Ta : TO ≠ a
  Tb : TO ≠ b
  i1a : i1 ≠ a
  i1b : i1 ≠ b
  i2a : i2 ≠ a
  i2b : i2 ≠ b
theorem ZipFar.sep {z TI TO i1 i2 a b : Addr} (D : ZipFar z TI TO i1 i2 a b) : ZipSep2 z TI TO i1 i2 [i1, a] [i2, b] :=
  ⟨D.TIz, D.TOz, D.TITO, D.TIi1, by simp, by simp; exact ⟨D.zi1, D.za⟩, by simp; exact ⟨D.Ti1, D.Ta⟩, D.TIi2, by simp, by simp; exact ⟨D.zi2, D.zb⟩, by simp; exact ⟨D.Ti2, D.Tb⟩, by simp; exact ⟨D.i12, D.i1b⟩, by simp; exact ⟨D.i12.symm, D.i2a⟩⟩
theorem turn_zipX {P : Program} {w : World} {K : Fg} {elts : List Expr} {kk : Nat} {tpos : Pos} {k k2 : Bool} {a b z TI TO i1 i2 : Addr} (D : ZipFar z TI TO i1 i2 a b) :
    Turn P w K (.Tuple elts kk tpos) (ItzX K k k2 a b) [z, TI, TO, i1, i2] z (fun i h => IsZip h z TI TO .none ∧ IsPair h TI (.ref i1) (.ref i2) ∧ (∃ x y, IsPair h TO x y) ∧ IterX h k i1 a i ∧ IterX h k2 i2 b i) where
  mem := by simp
  obj := fun i h st c hc => by
    obtain ⟨hz, hTI, ⟨x, y, hTO⟩, h1, h2⟩ := st
    have e' : c = z ∨ c = TI ∨ c = TO ∨ c = i1 ∨ c = i2 := by simpa using hc
    rcases e' with q | q | q | q | q
    · rw [q]; exact ⟨_, hz, fun v q => nomatch q⟩
    · rw [q]; exact ⟨_, hTI, fun v q => nomatch q⟩
    · rw [q]; exact ⟨_, hTO, fun v q => nomatch q⟩
    · rw [q]; exact h1.obj
    · rw [q]; exact h2.obj
  keep := fun i h h' st k => by
    obtain ⟨hz, hTI, ⟨x, y, hTO⟩, h1, h2⟩ := st
    exact ⟨k z (by simp) _ hz, k TI (by simp) _ hTI, ⟨x, y, k TO (by simp) _ hTO⟩, h1.at' fun o q => k i1 (by simp) o q, h2.at' fun o q => k i2 (by simp) o q⟩
  item := by
    intro X hP hw hK hc i pins s σ H E I hf st hg
    subst hP hw hK
    obtain ⟨hz, hTI, ⟨x0, y0, hTO⟩, h1, h2⟩ := st
    obtain ⟨xs, ys, x, y, hqx, hqy, hx, hy⟩ := hg
    obtain ⟨its, rv, p, _⟩ := inv_x I hqx
    obtain ⟨its2, rv2, p2, _⟩ := inv_x I hqy
    obtain ⟨u, hu, ru⟩ := rv.get hx
    obtain ⟨u2, hu2, ru2⟩ := rv2.get hy
    have hzl : z < s.heap.objs.size := Heap.lt_size hz
    have l1 : i < its.toArray.size := by have := (List.getElem?_eq_some_iff.mp hu).1; simpa using this
    have l2 : i < its2.toArray.size := by have := (List.getElem?_eq_some_iff.mp hu2).1; simpa using this
    refine wpAny_pyNext_zipD2_item D.sep (draws_x (A := X.A.in1) (I.ok.hd hc) k i1 a D.i1a.symm its.toArray) (draws_x (A := X.A.in1) (I.ok.hd hc) k2 i2 b D.i2b.symm its2.toArray) hz hTI hTO ⟨h1, p⟩ ⟨h2, p2⟩ l1 l2 fun x1 x2 h' tk hp1 hp2 z' TO' st1 st2 hT hsz hk => ?_
    have ex : x1 = u := by
      have : its.toArray[i]? = some x1 := hp1
      rw [show its.toArray[i]? = some u by simpa using hu] at this
      exact (Option.some.inj this).symm
    have ey : x2 = u2 := by
      have : its2.toArray[i]? = some x2 := hp2
      rw [show its2.toArray[i]? = some u2 by simpa using hu2] at this
      exact (Option.some.inj this).symm
    subst ex ey
    refine ⟨_, rfl, wpAny_letOwnedTupleGo_zip (s := { s with heap := h', toks := tk }) z' fun h'' z'' sb => ?_⟩
    have hT2 : h''.get? s.heap.objs.size = some { cls := .type "tuple", data := .seq #[x1, x2] } := (sb.2 _ (Nat.ne_of_gt hzl)).trans hT
    have new : ObjOk X.prog X.w (upd H s.heap.objs.size (.tup [x, y])) h'' s.heap.objs.size (.tup [x, y]) :=
      ⟨by show 2 ≤ sizeLine; decide, [x1, x2], .cons ru (.cons ru2 .nil), ⟨_, hT2, rfl, _, rfl⟩⟩
    have I1 : Inv X pins σ (upd H s.heap.objs.size (.tup [x, y])) { s with heap := h'', toks := tk } :=
      I.turnedNew (ch := [z, TI, TO, i1, i2]) (fun c o hb q => (sb.2 c (fun q' => hb (by simp [q']))).trans (hk c o (fun q' => hb (by simp [q'])) (fun q' => hb (by simp [q'])) (fun q' => hb (by simp [q'])) (fun q' => hb (by simp [q'])) q)) hf (Nat.le_refl _) new
    refine ⟨.ref s.heap.objs.size, _, I1, rfl, ⟨_, x, y, rfl, I.hok.fresh (Nat.le_refl _), rfl, fun l hl => by rw [inv_x_inj I hl hqx]; exact hx, fun l hl => by rw [inv_x_inj I hl hqy]; exact hy⟩, ⟨z'', ?_, ⟨x1, x2, ?_⟩, ?_, ?_⟩, fun c hcm => ?_⟩
    · exact (sb.2 _ D.TIz).trans (hk _ _ D.TIz D.TITO D.TIi1 D.TIi2 hTI)
    · exact (sb.2 _ D.TOz).trans TO'
    · exact st1.1.at' fun o q => (sb.2 _ D.zi1.symm).trans q
    · exact st2.1.at' fun o q => (sb.2 _ D.zi2.symm).trans q
    · have hlt : c < s.heap.objs.size := by
        have e' : c = z ∨ c = TI ∨ c = TO ∨ c = i1 ∨ c = i2 := by simpa using hcm
        rcases e' with q | q | q | q | q
        · rw [q]; exact hzl
        · rw [q]; exact Heap.lt_size hTI
        · rw [q]; exact Heap.lt_size hTO
        · rw [q]; obtain ⟨_, e1, _⟩ := h1.obj; exact Heap.lt_size e1
        · rw [q]; obtain ⟨_, e2, _⟩ := h2.obj; exact Heap.lt_size e2
      rw [upd_ne (Nat.ne_of_lt hlt)]
      exact (hf c hcm).1
  done := by
    intro X hP hw hK hc i pins s σ H E I hf st hg
    subst hP hw hK
    obtain ⟨hz, hTI, ⟨x0, y0, hTO⟩, h1, h2⟩ := st
    obtain ⟨xs, ys, hqx, hqy, hend⟩ := hg
    obtain ⟨its, rv, p, _⟩ := inv_x I hqx
    obtain ⟨its2, rv2, p2, _⟩ := inv_x I hqy
    have l1 := rv.length
    have l2 := rv2.length
    have n1 : its.toArray.size = xs.length := by simp; omega
    have n2 : its2.toArray.size = ys.length := by simp; omega
    refine wpAny_pyNext_zipD2_end (i := i) D.sep (draws_x (A := X.A.in1) (I.ok.hd hc) k i1 a D.i1a.symm its.toArray) (draws_x (A := X.A.in1) (I.ok.hd hc) k2 i2 b D.i2b.symm its2.toArray) hz hTI hTO ⟨h1, p⟩ ⟨h2, p2⟩ (by rw [n1]; exact hend.1) (by rw [n2]; exact hend.2.1) (by rw [n1, n2]; exact hend.2.2) fun h' tk hk => ⟨rfl, I.turnedL (ch := [z, TI, TO, i1, i2]) (fun c o hb q =>
      hk c o (fun q' => hb (by simp [q'])) (fun q' => hb (by simp [q'])) (fun q' => hb (by simp [q'])) (fun q' => hb (by simp [q'])) q) hf⟩
  self := fun A i s Q E st h => wpAny_pyIter_zip st.1 h
def iZipX (K : Fg) (ta : TA) : TI := fun σ H R => ta σ H fun vs H1 => ∃ a b k k2 xs ys, vs = [.ref a, .ref b] ∧ SqX K H1 k a xs ∧ SqX K H1 k2 b ys ∧ R (ItzX K k k2 a b) H1
theorem far_new {N a b : Nat} (la : a < N) (lb : b < N) : ZipFar (N + 4) (N + 2) (N + 3) N (N + 1) a b := by
  constructor <;> exact fun h => absurd (show (_ : Nat) = _ from h) (by omega)
theorem pi_zipX {X : Cx} {e e2 : Expr} {ta : TA} {p pos tpos : Pos} {elts : List Expr} {kk : Nat} (hg : Gl X "zip") (hm : X.mg "zip" = none) (ha : PA X [e, e2] ta)
    (hs : starEach [e, e2] X.env = (false, eval e X.env) :: starEach [e2] X.env) (hpl : (backTo pos (starEach [e2] X.env)).any (·.1) = false) :
    PI X (.Tuple elts kk tpos) (.Call (.Name "zip" p) [e, e2] [] pos) (iZipX X.K ta) := by
  refine ⟨fun pins s σ H R I h => ?_⟩
  refine Call_ (ld_blt I hg hm PyProof.Rows.boot_zip (PyProof.Rows.callWith_type1 (thn (ha.run pos pins s σ H _ I h) fun us s1 ⟨vs, H1, I1, r1, q1⟩ => ?_) hs hpl))
  obtain ⟨a, b, k, k2, xs, ys, ex, hqx, hqy, q⟩ := q1
  subst ex
  cases r1 with
  | cons r rr =>
    cases rr with
    | cons r' rr =>
      cases rr
      cases r
      cases r'
      obtain ⟨its, rv, p1, oa, hoa⟩ := inv_x I1 hqx
      obtain ⟨its2, rv2, p2, ob, hob⟩ := inv_x I1 hqy
      refine zip_begins2 (begins_x k a its.toArray) (begins_x k2 b its2.toArray) p1 p2 fun h' hz hTI hTO h1 h2 hsz hk => wpAny_pyIter_zip hz ?_
      have I2 : Inv X pins σ H1 { s1 with heap := h' } := I1.kept (t' := s1.toks) hk
      refine ⟨s1.heap.objs.size + 4, [s1.heap.objs.size + 4, s1.heap.objs.size + 2, s1.heap.objs.size + 3, s1.heap.objs.size, s1.heap.objs.size + 1], _, _, H1, rfl, I2, turn_zipX (far_new (Heap.lt_size hoa) (Heap.lt_size hob)), ⟨hz, hTI, ⟨_, _, hTO⟩, iter_made h1, iter_made h2⟩, fun c hcm => ?_, q⟩
      have e' : c = s1.heap.objs.size + 4 ∨ c = s1.heap.objs.size + 2 ∨ c = s1.heap.objs.size + 3 ∨ c = s1.heap.objs.size ∨ c = s1.heap.objs.size + 1 := by simpa using hcm
      have hle : s1.heap.objs.size ≤ c := by
        rcases e' with z | z | z | z | z
        · rw [z]; exact Nat.le_add_right _ _
        · rw [z]; exact Nat.le_add_right _ _
        · rw [z]; exact Nat.le_add_right _ _
        · rw [z]; exact Nat.le_refl _
        · rw [z]; exact Nat.le_add_right _ _
      exact I1.fpOk hle (I1.hok.fresh hle)
end DL

set_option maxHeartbeats 200000
namespace DL
open PySem PySem.Spec PyProof.Rows L2

/-! ### what a for walks, by data -/
def WalksD (K : Fg) (J : It) (O1 : Ow) (H1 : Hp) (xs : List PD) : Prop := ∀ (O : Ow) (H : Hp), Ext (hid O1 H1) (hid O H) → Live O H →
  (∀ (i : Nat) (d : PD), xs[i]? = some d → J.go i H ∧ ∀ v H', J.yld i H v H' → Ext H H' ∧ Dq K (hid O H') v d) ∧ J.stop xs.length H
theorem WalksD.mono {K : Fg} {J : It} {O1 O2 : Ow} {H1 H2 : Hp} {xs : List PD} (w : WalksD K J O1 H1 xs) (x : Ext (hid O1 H1) (hid O2 H2)) : WalksD K J O2 H2 xs := fun O H y l => w O H (x.trans y) l
section
variable (K : Fg) (w : Wi)
def RdI (O : Ow) (σ : L2.St) (H : Hp) (ds : DS) (r : Rs (List PD)) (R : It → Hp → Prop) : Prop := match r with
  | .ok xs ds' => ∀ J H' O', Post K nk O O' σ σ H H' ds ds' → WalksD K J O' H' xs → R J H'
  | .ex x ds' => RdX K w O σ H ds x ds'
  | .err => False
def rdI (f : M (List PD)) : TI := fun σ H R => ∃ O ds, Sat K O σ H ds ∧ RdI K w O σ H ds (f ds) R
end
abbrev DI (X : Cx) (w : Wi) (tg e : Expr) (f : M (List PD)) : Prop := PI X tg e (rdI X.K w f)
theorem _root_.L2.PI.weak {X : Cx} {tg e : Expr} {t t' : TI} (h : PI X tg e t) (i : ∀ σ H R, t' σ H R → t σ H R) : PI X tg e t' := ⟨fun pins s σ H R I q => h.run pins s σ H R I (i σ H R q)⟩
section
variable {K : Fg} {w : Wi} {O O1 : Ow} {σ : L2.St} {H H1 : Hp} {ds ds1 : DS} {α : Type} {tr : α → RV}
theorem RdI.pre {r : Rs (List PD)} {R : It → Hp → Prop} (p : Post K nk O O1 σ σ H H1 ds ds1) (h : RdI K w O σ H ds r R) : RdI K w O1 σ H1 ds1 r R := by
  cases r with
  | ok a ds' => exact fun J H' O' q => h J H' O' (p.trans q)
  | ex x ds' => exact RdX.pre p h
  | err => exact h
theorem RdK.bindI {f : M α} {g : α → M (List PD)} {R : It → Hp → Prop} (h : RdI K w O σ H ds (bnd f g ds) R) {Q1 : VK}
    (k : ∀ a v H1 O1 ds1, Post K nk O O1 σ σ H H1 ds ds1 → RvOk K H O1 σ H1 ds1 v (tr a) → RdI K w O1 σ H1 ds1 (g a ds1) R → Q1 v H1) : RdK K w tr O σ H ds (f ds) Q1 := by
  unfold bnd at h
  cases e : f ds with
  | ok a ds' => rw [e] at h; exact fun v H' O' q rv => k a v H' O' ds' q rv (RdI.pre q h)
  | ex x ds' => rw [e] at h; exact h
  | err => rw [e] at h; exact h
theorem RdA.bindI {f : M (List PD)} {g : List PD → M (List PD)} {R : It → Hp → Prop} (h : RdI K w O σ H ds (bnd f g ds) R) {Q1 : List V → Hp → Prop}
    (k : ∀ xs vs H1 O1 ds1, Post K nk O O1 σ σ H H1 ds ds1 → DqAll K (hid O1 H1) vs xs → RdI K w O1 σ H1 ds1 (g xs ds1) R → Q1 vs H1) : RdA K w O σ H ds (f ds) Q1 := by
  unfold bnd at h
  cases e : f ds with
  | ok a ds' => rw [e] at h; exact fun vs H' O' q rv => k a vs H' O' ds' q rv (RdI.pre q h)
  | ex x ds' => rw [e] at h; exact h
  | err => rw [e] at h; exact h
theorem walks_lst {a : Addr} {vs : List V} {xs : List PD} (h : hid O1 H1 a = some (.lst vs)) (hv : DqAll K (hid O1 H1) vs xs) : WalksD K (Itl K a) O1 H1 xs := fun O H x l => by
  have h1 := (hid_some (x _ _ h)).2
  have sq : SqL K H a vs := .inl (.inl h1)
  refine ⟨fun i d e => ?_, vs, sq, by rw [hv.length]; exact Nat.le_refl _⟩
  obtain ⟨v, e1, hd⟩ := hv.get e
  exact ⟨⟨vs, v, sq, e1⟩, fun u H' ⟨eH, g⟩ => by subst eH; have := g vs sq; rw [e1] at this; cases this; exact ⟨Ext.refl _, Dq.mono x _ _ hd⟩⟩
theorem walks_tup {a : Addr} {vs : List V} {xs : List PD} (h : SqT K (hid O1 H1) a vs) (hv : DqAll K (hid O1 H1) vs xs) : WalksD K (Itt K a) O1 H1 xs := fun O H x l => by
  have sq : SqT K H a vs := hid_ext.sqT (x.sqT h)
  refine ⟨fun i d e => ?_, vs, sq, by rw [hv.length]; exact Nat.le_refl _⟩
  obtain ⟨v, e1, hd⟩ := hv.get e
  exact ⟨⟨vs, v, sq, e1⟩, fun u H' ⟨eH, g⟩ => by subst eH; have := g vs sq; rw [e1] at this; cases this; exact ⟨Ext.refl _, Dq.mono x _ _ hd⟩⟩
def rngL (lo : Int) (n : Nat) : List PD := (List.range n).map fun (i : Nat) => PyData.int (lo + (i : Int))
theorem rngL_length (lo : Int) (n : Nat) : (rngL lo n).length = n := by simp [rngL]
theorem rngL_get {lo : Int} {n i : Nat} {d : PD} (e : (rngL lo n)[i]? = some d) : i < n ∧ d = .int (lo + i) := by
  unfold rngL at e
  rw [List.getElem?_map] at e
  by_cases h : i < n
  · rw [List.getElem?_range h] at e; cases e; exact ⟨h, rfl⟩
  · rw [List.getElem?_eq_none (by simp; omega)] at e; cases e
theorem walks_rng {lo : Int} {n : Nat} : WalksD K (Itr lo n) O1 H1 (rngL lo n) := fun O H x l => by
  refine ⟨fun i d e => ?_, by rw [rngL_length]; exact Nat.le_refl _⟩
  obtain ⟨h, rfl⟩ := rngL_get e
  exact ⟨h, fun u H' ⟨eH, g⟩ => by subst eH g; exact ⟨Ext.refl _, .int _⟩⟩
/-- lists and tuples told by a flag -/
theorem seq_x {v : V} {d : PD} {xs : List PD} (h : Dq K (hid O H) v d) (e : seqOf d = some xs) : ∃ a k vs, v = .ref a ∧ (∀ O' H', Ext (hid O H) (hid O' H') → SqX K H' k a vs) ∧ DqAll K (hid O H) vs xs := by
  cases h with
  | lst h1 h2 => cases e; exact ⟨_, true, _, rfl, fun O' H' x => .inl (.inl (hid_some (x _ _ h1)).2), h2⟩
  | tup h1 h2 => cases e; exact ⟨_, false, _, rfl, fun O' H' x => hid_ext.sqT (x.sqT h1), h2⟩
  | _ => cases e
def pairD (x y : PD) : PD := .tuple [x, y]
def enumL (xs : List PD) : List PD := xs.mapIdx fun i x => pairD (.int i) x
def zipL (xs ys : List PD) : List PD := List.zipWith pairD xs ys
theorem walks_enum {a : Addr} {k : Bool} {vs : List V} {xs : List PD} (h : ∀ O' H', Ext (hid O1 H1) (hid O' H') → SqX K H' k a vs) (hv : DqAll K (hid O1 H1) vs xs) : WalksD K (IteX K k a) O1 H1 (enumL xs) := fun O H x l => by
  have sq := h O H x
  refine ⟨fun i d e => ?_, vs, sq, by rw [hv.length]; simp [enumL]⟩
  unfold enumL at e
  rw [List.getElem?_mapIdx] at e
  cases q : xs[i]? with
  | none => rw [q] at e; cases e
  | some z =>
    rw [q] at e; cases e
    obtain ⟨v, e1, hd⟩ := hv.get q
    refine ⟨⟨vs, v, sq, e1⟩, fun u H' ⟨T, y, eu, hT, eH, g⟩ => ?_⟩
    have := g vs sq
    rw [e1] at this; cases this
    subst eu eH
    exact ⟨ext_upd hT, dq_newT l hT (.cons (.int _) (.cons (Dq.mono x _ _ hd) .nil))⟩
theorem walks_zip {a b : Addr} {k k2 : Bool} {vs ws : List V} {xs ys : List PD} (h : ∀ O' H', Ext (hid O1 H1) (hid O' H') → SqX K H' k a vs) (hv : DqAll K (hid O1 H1) vs xs)
    (h2 : ∀ O' H', Ext (hid O1 H1) (hid O' H') → SqX K H' k2 b ws) (hw : DqAll K (hid O1 H1) ws ys) : WalksD K (ItzX K k k2 a b) O1 H1 (zipL xs ys) := fun O H x l => by
  have sq := h O H x
  have sq2 := h2 O H x
  have l1 := hv.length
  have l2 := hw.length
  refine ⟨fun i d e => ?_, vs, ws, sq, sq2, ?_⟩
  · unfold zipL at e
    rw [List.getElem?_zipWith] at e
    cases q : xs[i]? with
    | none => rw [q] at e; cases e
    | some z =>
      cases q2 : ys[i]? with
      | none => rw [q, q2] at e; cases e
      | some z2 =>
        rw [q, q2] at e; cases e
        obtain ⟨v, e1, hd⟩ := hv.get q
        obtain ⟨v2, e2, hd2⟩ := hw.get q2
        refine ⟨⟨vs, ws, v, v2, sq, sq2, e1, e2⟩, fun u H' ⟨T, y, y2, eu, hT, eH, g, g2⟩ => ?_⟩
        have t1 := g vs sq
        rw [e1] at t1; cases t1
        have t2 := g2 ws sq2
        rw [e2] at t2; cases t2
        subst eu eH
        exact ⟨ext_upd hT, dq_newT l hT (.cons (Dq.mono x _ _ hd) (.cons (Dq.mono x _ _ hd2) .nil))⟩
  · unfold zipL
    rw [List.length_zipWith]
    omega
end
section
variable {X : Cx} {w : Wi} {tg e e2 : Expr} {p pos : Pos} {fa fb : M PD}
def itM (f : M PD) : M (List PD) := bnd f fun x => ofO (seqOf x)
theorem di_seq (h : DE X w e fa) : DI X w tg e (itM fa) := (pi_seq h).weak fun σ H R ⟨O, ds, s, q⟩ => by
  refine ⟨O, ds, s, RdK.bindI q fun x v H1 O1 ds1 p rv h1 => ?_⟩
  cases x with
  | list xs =>
    cases rv with
    | @lst a vs _ g1 g2 => exact ⟨a, rfl, .inl ⟨⟨vs, .inl (.inl (hid_some g1).2)⟩, h1 _ H1 O1 (Post.refl p.sat) (walks_lst g1 g2)⟩⟩
  | tuple xs =>
    cases rv with
    | @tup a vs _ g1 g2 => exact ⟨a, rfl, .inr ⟨⟨vs, hid_ext.sqT g1⟩, h1 _ H1 O1 (Post.refl p.sat) (walks_tup g1 g2)⟩⟩
  | _ => exact h1.elim
def big62 (i : Int) : Bool := decide (-(2 ^ 62) ≤ i) && decide (i < 2 ^ 62)
theorem big62_of {i : Int} (h : big62 i = true) : -(2 ^ 62) ≤ i ∧ i < 2 ^ 62 := by
  unfold big62 at h
  rw [Bool.and_eq_true] at h
  exact ⟨of_decide_eq_true h.1, of_decide_eq_true h.2⟩
def rng1 : PD → Option (List PD)
  | .int j => if big62 j = true then some (rngL 0 j.toNat) else none
  | _ => none
def rng2 : PD → PD → Option (List PD)
  | .int i, .int j => if (big62 i && big62 j) = true then some (rngL i (j - i).toNat) else none
  | _, _ => none
def rngM1 (fa : M PD) : M (List PD) := bnd (bnd fa fun x => bnd (ret []) fun xs => ret (x :: xs)) fun as => ofO (one rng1 as)
def rngM2 (fa fb : M PD) : M (List PD) := bnd (bnd fa fun x => bnd (bnd fb fun y => bnd (ret []) fun ys => ret (y :: ys)) fun xs => ret (x :: xs)) fun as => ofO (two rng2 as)
theorem di_range1 (hg : Gl X "range") (hm : X.mg "range" = none) (h : DE X w e fa) (ns : NS X e := by exact fun _ => rfl) : DI X w tg (.Call (.Name "range" p) [e] [] pos) (rngM1 fa) := (pi_range1 hg hm (da1 h ns) (ns [])).weak fun σ H R ⟨O, ds, s, q⟩ => by
  refine ⟨O, ds, s, RdA.bindI q fun xs vs H1 O1 ds1 p hv h1 => ?_⟩
  cases z : one rng1 xs with
  | none => rw [z] at h1; exact h1.elim
  | some ys =>
    rw [z] at h1
    obtain ⟨d, v, rfl, rfl, hd, z⟩ := one_inv hv z
    cases hd with
    | int j =>
      unfold rng1 at z; dsimp only at z
      by_cases c : big62 j = true
      · rw [if_pos c] at z; cases z
        exact ⟨j, rfl, (big62_of c).1, (big62_of c).2, h1 _ H1 O1 (Post.refl p.sat) walks_rng⟩
      · rw [if_neg c] at z; cases z
    | _ => cases z
theorem di_range2 (hg : Gl X "range") (hm : X.mg "range" = none) (h : DE X w e fa) (h2 : DE X w e2 fb) (ns : NS X e := by exact fun _ => rfl) (ns2 : NS X e2 := by exact fun _ => rfl) : DI X w tg (.Call (.Name "range" p) [e, e2] [] pos) (rngM2 fa fb) :=
  (pi_range2 hg hm (da2 h h2 ns ns2) (by rw [ns [e2], ns2 []]; rfl) (ns2 [])).weak fun σ H R ⟨O, ds, s, q⟩ => by
  refine ⟨O, ds, s, RdA.bindI q fun xs vs H1 O1 ds1 p hv h1 => ?_⟩
  cases z : two rng2 xs with
  | none => rw [z] at h1; exact h1.elim
  | some ys =>
    rw [z] at h1
    obtain ⟨d, d', v, v', rfl, rfl, hd, hd', z⟩ := two_inv hv z
    cases hd with
    | int i =>
      cases hd' with
      | int j =>
        unfold rng2 at z; dsimp only at z
        by_cases c : (big62 i && big62 j) = true
        · rw [if_pos c] at z; cases z
          rw [Bool.and_eq_true] at c
          exact ⟨i, j, rfl, ⟨(big62_of c.1).1, (big62_of c.1).2, (big62_of c.2).1, (big62_of c.2).2⟩, h1 _ H1 O1 (Post.refl p.sat) walks_rng⟩
        · rw [if_neg c] at z; cases z
      | _ => cases z
    | _ => cases hd' <;> cases z
def enumM (fa : M PD) : M (List PD) := bnd (bnd fa fun x => bnd (ret []) fun xs => ret (x :: xs)) fun as => ofO (one (fun d => (seqOf d).map enumL) as)
def zipM (fa fb : M PD) : M (List PD) := bnd (bnd fa fun x => bnd (bnd fb fun y => bnd (ret []) fun ys => ret (y :: ys)) fun xs => ret (x :: xs)) fun as => ofO (two (fun d d' => match seqOf d, seqOf d' with | some xs, some ys => some (zipL xs ys) | _, _ => none) as)
variable {elts : List Expr} {kk : Nat} {tpos : Pos}
theorem di_enum (hg : Gl X "enumerate") (hm : X.mg "enumerate" = none) (h : DE X w e fa) (ns : NS X e := by exact fun _ => rfl) : DI X w (.Tuple elts kk tpos) (.Call (.Name "enumerate" p) [e] [] pos) (enumM fa) := (pi_enumX hg hm (da1 h ns) (ns [])).weak fun σ H R ⟨O, ds, s, q⟩ => by
  refine ⟨O, ds, s, RdA.bindI q fun xs vs H1 O1 ds1 p hv h1 => ?_⟩
  cases z : one (fun d => (seqOf d).map enumL) xs with
  | none => rw [z] at h1; exact h1.elim
  | some ys =>
    rw [z] at h1
    obtain ⟨d, v, rfl, rfl, hd, z⟩ := one_inv hv z
    cases z2 : seqOf d with
    | none => rw [z2] at z; cases z
    | some zs =>
      rw [z2] at z; cases z
      obtain ⟨a, k, us, rfl, sq, hu⟩ := seq_x hd z2
      exact ⟨a, k, us, rfl, sq O1 H1 (Ext.refl _), h1 _ H1 O1 (Post.refl p.sat) (walks_enum sq hu)⟩
theorem di_zip (hg : Gl X "zip") (hm : X.mg "zip" = none) (h : DE X w e fa) (h2 : DE X w e2 fb) (ns : NS X e := by exact fun _ => rfl) (ns2 : NS X e2 := by exact fun _ => rfl) : DI X w (.Tuple elts kk tpos) (.Call (.Name "zip" p) [e, e2] [] pos) (zipM fa fb) :=
  (pi_zipX hg hm (da2 h h2 ns ns2) (ns [e2]) ns2.pl).weak fun σ H R ⟨O, ds, s, q⟩ => by
  refine ⟨O, ds, s, RdA.bindI q fun xs vs H1 O1 ds1 p hv h1 => ?_⟩
  cases z : two (fun d d' => match seqOf d, seqOf d' with | some xs, some ys => some (zipL xs ys) | _, _ => none) xs with
  | none => rw [z] at h1; exact h1.elim
  | some ys =>
    rw [z] at h1
    obtain ⟨d, d', v, v', rfl, rfl, hd, hd', z⟩ := two_inv hv z
    cases z2 : seqOf d with
    | none => rw [z2] at z; cases z
    | some zs =>
      cases z3 : seqOf d' with
      | none => rw [z2, z3] at z; cases z
      | some ws =>
        rw [z2, z3] at z; cases z
        obtain ⟨a, k, us, rfl, sq, hu⟩ := seq_x hd z2
        obtain ⟨b, k2, us2, rfl, sq2, hu2⟩ := seq_x hd' z3
        exact ⟨a, b, k, k2, us, us2, rfl, sq O1 H1 (Ext.refl _), sq2 O1 H1 (Ext.refl _), h1 _ H1 O1 (Post.refl p.sat) (walks_zip sq hu sq2 hu2)⟩
end
end DL

namespace DL
open PySem PySem.Spec PyProof.Rows L2

inductive Out where
  | nx
  | rt (r : RV)
section
variable (K : Fg) (w : Wi) (P : Nat → Bool)
def RdXS (O : Ow) (σ : L2.St) (H : Hp) (ds : DS) (x : Ex) (ds' : DS) : Prop :=
  ∃ cl, w.ce x.cls = some cl ∧ ∀ v d σ' H' O', Post K P O O' σ σ' H H' ds ds' → H' d = some (.xd [("value", v)]) → O' d = false → Dq K (hid O' H') v x.val → w.W cl (some d) σ' H'
def RdS (O : Ow) (σ : L2.St) (H : Hp) (ds : DS) (r : Rs Out) (D : Ends) : Prop := match r with
  | .ok .nx ds' => ∀ σ' H' O', Post K P O O' σ σ' H H' ds ds' → D.nx σ' H'
  | .ok (.rt r) ds' => ∀ v σ' H' O', Post K P O O' σ σ' H H' ds ds' → RvOk K H O' σ' H' ds' v r → D.rt v H'
  | .ex x ds' => RdXS K w P O σ H ds x ds'
  | .err => False
def rdS (f : M Out) : TS := fun D σ H => ∃ O ds, Sat K O σ H ds ∧ RdS K w P O σ H ds (f ds) D
def RdG (O : Ow) (σ : L2.St) (H : Hp) (ds : DS) (r : Rs Unit) (Q : L2.St → Hp → Prop) : Prop := match r with
  | .ok _ ds' => ∀ σ' H' O', Post K P O O' σ σ' H H' ds ds' → Q σ' H'
  | .ex x ds' => RdXS K w P O σ H ds x ds'
  | .err => False
def rdG (g : PD → M Unit) : TG := fun v σ H Q => ∃ O ds d, Sat K O σ H ds ∧ Dq K (hid O H) v d ∧ RdG K w P O σ H ds (g d ds) Q
def rdGs (g : List PD → M Unit) : TGs := fun vs σ H Q => ∃ O ds xs, Sat K O σ H ds ∧ DqAll K (hid O H) vs xs ∧ RdG K w P O σ H ds (g xs ds) Q
end
abbrev DS' (X : Cx) (w : Wi) (P : Nat → Bool) (st : Stmt) (f : M Out) : Prop := PS X st (rdS X.K w P f)
abbrev DB (X : Cx) (w : Wi) (P : Nat → Bool) (st : List Stmt) (f : M Out) : Prop := PSs X st (rdS X.K w P f)
abbrev DG (X : Cx) (w : Wi) (P : Nat → Bool) (tg : Expr) (g : PD → M Unit) : Prop := PG X tg (rdG X.K w P g)
abbrev DGs (X : Cx) (w : Wi) (P : Nat → Bool) (ts : List Expr) (g : List PD → M Unit) : Prop := PGs X ts (rdGs X.K w P g)
theorem _root_.L2.PG.weak {X : Cx} {tg : Expr} {t t' : TG} (h : PG X tg t) (i : ∀ v σ H Q, t' v σ H Q → t v σ H Q) : PG X tg t' := ⟨fun pins s σ H v u Q I r q => h.run pins s σ H v u Q I r (i v σ H Q q)⟩
theorem _root_.L2.PGs.weak {X : Cx} {ts : List Expr} {t t' : TGs} (h : PGs X ts t) (i : ∀ v σ H Q, t' v σ H Q → t v σ H Q) : PGs X ts t' := ⟨fun pins s σ H v u Q I r q => h.run pins s σ H v u Q I r (i v σ H Q q)⟩
section
variable {K : Fg} {w : Wi} {P : Nat → Bool} {O O1 : Ow} {σ σ1 : L2.St} {H H1 : Hp} {ds ds1 : DS} {α : Type} {tr : α → RV} {D : Ends}
theorem Post.anyP {P' : Nat → Bool} (p : Post K P O O1 σ σ H H1 ds ds1) : Post K P' O O1 σ σ H H1 ds ds1 := ⟨p.sat, p.ext, p.frn, p.own, fun _ _ => rfl, p.lenk, p.old⟩
theorem Post.noP (p : Post K P O O1 σ σ1 H H1 ds ds1) : Post K nk O O1 σ σ1 H H1 ds ds1 := ⟨p.sat, p.ext, p.frn, p.own, fun _ h => Bool.noConfusion h, p.lenk, p.old⟩
theorem RdXS.pre {x : Ex} {ds' : DS} (p : Post K P O O1 σ σ1 H H1 ds ds1) (h : RdXS K w P O σ H ds x ds') : RdXS K w P O1 σ1 H1 ds1 x ds' := by
  obtain ⟨cl, e, h⟩ := h
  exact ⟨cl, e, fun v d σ' H' O' q => h v d σ' H' O' (p.trans q)⟩
theorem RdXS.x {x : Ex} {ds' : DS} (h : RdXS K w P O σ H ds x ds') : RdX K w O σ H ds x ds' := by
  obtain ⟨cl, e, h⟩ := h
  exact ⟨cl, e, fun v d H' O' q => h v d σ H' O' q.anyP⟩
theorem RdS.pre {r : Rs Out} (p : Post K P O O1 σ σ1 H H1 ds ds1) (h : RdS K w P O σ H ds r D) : RdS K w P O1 σ1 H1 ds1 r D := by
  cases r with
  | ok o ds' =>
    cases o with
    | nx => exact fun σ' H' O' q => h σ' H' O' (p.trans q)
    | rt r => exact fun v σ' H' O' q rv => h v σ' H' O' (p.trans q) (rv.pre p.old)
  | ex x ds' => exact RdXS.pre p h
  | err => exact h
theorem RdG.pre {r : Rs Unit} {Q : L2.St → Hp → Prop} (p : Post K P O O1 σ σ1 H H1 ds ds1) (h : RdG K w P O σ H ds r Q) : RdG K w P O1 σ1 H1 ds1 r Q := by
  cases r with
  | ok o ds' => exact fun σ' H' O' q => h σ' H' O' (p.trans q)
  | ex x ds' => exact RdXS.pre p h
  | err => exact h
theorem RdK.bindS0 {f : M α} {g : α → M Out} (h : RdS K w P O σ H ds (bnd f g ds) D) {Q1 : VK}
    (k : ∀ a v H1 O1 ds1, Post K nk O O1 σ σ H H1 ds ds1 → RvOk K H O1 σ H1 ds1 v (tr a) → RdS K w P O σ H ds (g a ds1) D → Q1 v H1) : RdK K w tr O σ H ds (f ds) Q1 := by
  unfold bnd at h
  cases e : f ds with
  | ok a ds' => rw [e] at h; exact fun v H' O' q rv => k a v H' O' ds' q rv h
  | ex x ds' => rw [e] at h; exact RdXS.x h
  | err => rw [e] at h; exact h
theorem RdK.bindS {f : M α} {g : α → M Out} (h : RdS K w P O σ H ds (bnd f g ds) D) {Q1 : VK}
    (k : ∀ a v H1 O1 ds1, Post K nk O O1 σ σ H H1 ds ds1 → RvOk K H O1 σ H1 ds1 v (tr a) → RdS K w P O1 σ H1 ds1 (g a ds1) D → Q1 v H1) : RdK K w tr O σ H ds (f ds) Q1 :=
  RdK.bindS0 h fun a v H1 O1 ds1 p rv h1 => k a v H1 O1 ds1 p rv (RdS.pre p.anyP h1)
theorem RdT.bindS {f : M Bool} {g : Bool → M Out} (h : RdS K w P O σ H ds (bnd f g ds) D) {Q1 : Bool → Hp → Prop}
    (k : ∀ a H1 O1 ds1, Post K nk O O1 σ σ H H1 ds ds1 → RdS K w P O1 σ H1 ds1 (g a ds1) D → Q1 a H1) : RdT K w O σ H ds (f ds) Q1 := by
  unfold bnd at h
  cases e : f ds with
  | ok a ds' => rw [e] at h; exact fun H' O' q => k a H' O' ds' q (RdS.pre q.anyP h)
  | ex x ds' => rw [e] at h; exact RdXS.x h
  | err => rw [e] at h; exact h
theorem RdA.bindS {f : M (List PD)} {g : List PD → M Out} (h : RdS K w P O σ H ds (bnd f g ds) D) {Q1 : List V → Hp → Prop}
    (k : ∀ xs vs H1 O1 ds1, Post K nk O O1 σ σ H H1 ds ds1 → DqAll K (hid O1 H1) vs xs → RdS K w P O1 σ H1 ds1 (g xs ds1) D → Q1 vs H1) : RdA K w O σ H ds (f ds) Q1 := by
  unfold bnd at h
  cases e : f ds with
  | ok a ds' => rw [e] at h; exact fun vs H' O' q rv => k a vs H' O' ds' q rv (RdS.pre q.anyP h)
  | ex x ds' => rw [e] at h; exact RdXS.x h
  | err => rw [e] at h; exact h
theorem RdI.bindS {f : M (List PD)} {g : List PD → M Out} (h : RdS K w P O σ H ds (bnd f g ds) D) {R : It → Hp → Prop}
    (k : ∀ xs J H1 O1 ds1, Post K nk O O1 σ σ H H1 ds ds1 → WalksD K J O1 H1 xs → RdS K w P O1 σ H1 ds1 (g xs ds1) D → R J H1) : RdI K w O σ H ds (f ds) R := by
  unfold bnd at h
  cases e : f ds with
  | ok a ds' => rw [e] at h; exact fun J H' O' q wk => k a J H' O' ds' q wk (RdS.pre q.anyP h)
  | ex x ds' => rw [e] at h; exact RdXS.x h
  | err => rw [e] at h; exact h
theorem RdG.bindS {f : M Unit} {g : Unit → M Out} (h : RdS K w P O σ H ds (bnd f g ds) D) {Q : L2.St → Hp → Prop}
    (k : ∀ u σ1 H1 O1 ds1, Post K P O O1 σ σ1 H H1 ds ds1 → RdS K w P O1 σ1 H1 ds1 (g u ds1) D → Q σ1 H1) : RdG K w P O σ H ds (f ds) Q := by
  unfold bnd at h
  cases e : f ds with
  | ok a ds' => rw [e] at h; exact fun σ' H' O' q => k a σ' H' O' ds' q (RdS.pre q h)
  | ex x ds' => rw [e] at h; exact h
  | err => rw [e] at h; exact h
theorem RdG.bindG {f : M Unit} {g : Unit → M Unit} {Q1 Q : L2.St → Hp → Prop} (h : RdG K w P O σ H ds (bnd f g ds) Q1)
    (k : ∀ u σ1 H1 O1 ds1, Post K P O O1 σ σ1 H H1 ds ds1 → RdG K w P O1 σ1 H1 ds1 (g u ds1) Q1 → Q σ1 H1) : RdG K w P O σ H ds (f ds) Q := by
  unfold bnd at h
  cases e : f ds with
  | ok a ds' => rw [e] at h; exact fun σ' H' O' q => k a σ' H' O' ds' q (RdG.pre q h)
  | ex x ds' => rw [e] at h; exact h
  | err => rw [e] at h; exact h
/-- a result is stored in a slot -/
theorem Post.store {r : RV} {v : V} {i : Nat} (s : Sat K O σ H ds) (p : Post K nk O O1 σ σ H H1 ds ds1) (rv : RvOk K H O1 σ H1 ds1 v r) (hi : P i = false) : Post K P O O1 σ (σ.set i (some v)) H H1 ds (ds1.set i (some r)) := by
  have hl := p.sat.len
  have own_at : ∀ j a, OwnAt (σ.set i (some v)) (ds1.set i (some r)) j a → (j = i ∧ H a = none ∧ O1 a = true ∧ ¬ IsOwn σ ds1 a) ∨ (j ≠ i ∧ OwnAt σ ds1 j a) := by
    rintro j a ⟨⟨c, e1⟩, e2⟩
    by_cases hj : j = i
    · subst hj
      refine .inl ⟨rfl, ?_⟩
      have hlt : j < ds1.length := by
        have := (List.getElem?_eq_some_iff.mp e1).1
        simpa using this
      rw [List.getElem?_set_self hlt] at e1
      rw [List.getElem?_set_self (by omega)] at e2
      cases e1
      cases e2
      obtain ⟨b, e, h0, h1, n, _⟩ := rv
      cases e
      exact ⟨h0, h1, n⟩
    · rw [List.getElem?_set_ne (Ne.symm hj)] at e1 e2
      exact .inr ⟨hj, ⟨c, e1⟩, e2⟩
  refine ⟨⟨by simp [hl], fun j r' e => ?_, fun j k a h1 h2 => ?_, p.sat.trk⟩, p.ext, p.frn, fun a ⟨j, h⟩ => ?_, fun j hj => ?_, by simp, p.old⟩
  · by_cases hj : j = i
    · subst hj
      have hlt : j < ds1.length := by
        have := (List.getElem?_eq_some_iff.mp e).1
        simpa using this
      rw [List.getElem?_set_self hlt] at e
      cases e
      refine ⟨v, List.getElem?_set_self (by omega), ?_⟩
      cases r with
      | dat d => exact rv
      | own c => obtain ⟨a, e, _, h1, _, hc⟩ := rv; exact ⟨a, e, h1, hc⟩
      | scr ns => exact rv
      | lck kvs => exact rv.elim
    · rw [List.getElem?_set_ne (Ne.symm hj)] at e
      rw [List.getElem?_set_ne (Ne.symm hj)]
      exact p.sat.slot j r' e
  · rcases own_at j a h1 with ⟨rfl, _, _, n⟩ | ⟨n1, g1⟩
    · rcases own_at k a h2 with ⟨rfl, _⟩ | ⟨n2, g2⟩
      · rfl
      · exact absurd ⟨k, g2⟩ n
    · rcases own_at k a h2 with ⟨rfl, _, _, n⟩ | ⟨n2, g2⟩
      · exact absurd ⟨j, g1⟩ n
      · exact p.sat.inj j k a g1 g2
  · rcases own_at j a h with ⟨_, h0, _⟩ | ⟨_, g⟩
    · exact .inl (s.fresh h0)
    · exact p.own a ⟨j, g⟩
  · have : j ≠ i := fun e => by subst e; rw [hi] at hj; cases hj
    rw [List.getElem?_set_ne (Ne.symm this)]
end

/-! ### targets -/
def setR (i : Nat) (r : RV) : M Unit := fun ds => .ok () (ds.set i (some r))
def setD (i : Nat) (d : PD) : M Unit := setR i (.dat d)
section
variable {X : Cx} {w : Wi} {P : Nat → Bool} {tg : Expr} {ts : List Expr}
theorem dg_name {i : Nat} (h : PG X tg (gName i)) (hi : P i = false := by rfl) : DG X w P tg (setD i) := h.weak fun v σ H Q ⟨O, ds, d, s, hv, q⟩ =>
  q _ _ O (Post.store (r := .dat d) s (Post.refl s) hv hi)
def gNilM : List PD → M Unit
  | [] => ret ()
  | _ => stuck
def gConsM (g : PD → M Unit) (gs : List PD → M Unit) : List PD → M Unit
  | x :: r => bnd (g x) fun _ => gs r
  | [] => stuck
theorem dgs_nil : DGs X w P [] gNilM := pgs_nil.weak fun vs σ H Q ⟨O, ds, xs, s, hv, q⟩ => by
  cases hv with
  | nil => exact ⟨rfl, q σ H O (Post.refl s)⟩
  | cons _ _ => exact q.elim
theorem dgs_cons {g : PD → M Unit} {gs : List PD → M Unit} (h1 : DG X w P tg g) (h2 : DGs X w P ts gs) (hs : (assignEach (tg :: ts) X.env).map (·.2) = assign tg X.env :: (assignEach ts X.env).map (·.2) := by rfl) : DGs X w P (tg :: ts) (gConsM g gs) :=
  (pgs_cons h1 h2 hs).weak fun vs σ H Q ⟨O, ds, xs, s, hv, q⟩ => by
  cases hv with
  | nil => exact q.elim
  | @cons v vs' d ds' h1 h2 =>
    refine ⟨_, _, rfl, O, ds, _, s, h1, RdG.bindG q fun u σ1 H1 O1 ds1 p q1 => ?_⟩
    exact ⟨O1, ds1, _, p.sat, DqAll.mono p.ext _ _ h2, q1⟩
def gTupM (n : Nat) (gs : List PD → M Unit) : PD → M Unit
  | .tuple xs => if xs.length = n then gs xs else stuck
  | _ => stuck
theorem dg_tup {k n : Nat} {pos : Pos} {gs : List PD → M Unit} (hc : X.calm = true) (h : DGs X w P ts gs) (hn : (assignEach ts X.env).length = n := by rfl) (hst : (assignEach ts X.env).findIdx? (·.1) = none := by rfl) : DG X w P (.Tuple ts k pos) (gTupM n gs) :=
  (pg_tup hc h hn hst).weak fun v σ H Q ⟨O, ds, d, s, hv, q⟩ => by
  cases hv with
  | @tup a vs xs h1 h2 =>
    unfold gTupM at q; dsimp only at q
    by_cases c : xs.length = n
    · rw [if_pos c] at q
      exact ⟨a, vs, rfl, hid_ext.sqT h1, by rw [h2.length]; exact c, O, ds, xs, s, h2, q⟩
    · rw [if_neg c] at q; exact q.elim
  | _ => exact q.elim

/-! ### statements -/
variable {st : Stmt} {rest : List Stmt} {e : Expr} {pos : Pos} {f g : M Out} {α : Type} {tr : α → RV} {fa : M α}
def nxt : M Out := ret .nx
def seqM (f g : M Out) : M Out := bnd f fun o => match o with
  | .nx => g
  | .rt r => ret (.rt r)
theorem db_nil : DB X w P [] nxt := pss_nil.weak fun D σ H ⟨O, ds, s, q⟩ => q σ H O (Post.refl s)
theorem RdS.seq {K : Fg} {O : Ow} {σ : L2.St} {H : Hp} {ds : DS} {D D' : Ends} (h : RdS K w P O σ H ds (seqM f g ds) D) (hr : D'.rt = D.rt)
    (k : ∀ σ1 H1 O1 ds1, Post K P O O1 σ σ1 H H1 ds ds1 → RdS K w P O1 σ1 H1 ds1 (g ds1) D → D'.nx σ1 H1) : RdS K w P O σ H ds (f ds) D' := by
  unfold seqM bnd at h
  cases e : f ds with
  | ok o ds' =>
    rw [e] at h
    cases o with
    | nx => exact fun σ' H' O' q => k σ' H' O' ds' q (RdS.pre q h)
    | rt r => exact fun v σ' H' O' q rv => by rw [hr]; exact h v σ' H' O' q rv
  | ex x ds' => rw [e] at h; exact h
  | err => rw [e] at h; exact h
theorem db_cons (h1 : DS' X w P st f) (h2 : DB X w P rest g) : DB X w P (st :: rest) (seqM f g) := (pss_cons h1 h2).weak fun D σ H ⟨O, ds, s, q⟩ =>
  ⟨O, ds, s, RdS.seq q rfl fun σ1 H1 O1 ds1 p q1 => ⟨O1, ds1, p.sat, q1⟩⟩
theorem db_one (h1 : DS' X w P st f) : DB X w P [st] f := pss_one h1
/-- a ghost step: an own slot becomes data -/
def frzM (i : Nat) : M Out := fun ds => match ds[i]? with
  | some (some (.own c)) => if c.can = true then .ok .nx (ds.set i (some (.dat c.frz))) else .err
  | _ => .err
theorem Post.frzS {K : Fg} {O : Ow} {σ : L2.St} {H : Hp} {ds : DS} {i : Nat} {c : Cn} (s : Sat K O σ H ds) (e : ds[i]? = some (some (.own c))) (hc : c.can = true) : ∃ a, Post K P O (off1 O a) σ σ H H ds (ds.set i (some (.dat c.frz))) := by
  obtain ⟨v, e1, a, rfl, ho, hh⟩ := s.slot i _ e
  have hi : i < ds.length := (List.getElem?_eq_some_iff.mp e).1
  have me : OwnAt σ ds i a := ⟨⟨c, e⟩, e1⟩
  have own_at : ∀ j b, OwnAt σ (ds.set i (some (.dat c.frz))) j b → j ≠ i ∧ OwnAt σ ds j b := by
    rintro j b ⟨⟨c', e3⟩, e4⟩
    by_cases hj : j = i
    · subst hj; rw [List.getElem?_set_self hi] at e3; cases e3
    · rw [List.getElem?_set_ne (Ne.symm hj)] at e3
      exact ⟨hj, ⟨c', e3⟩, e4⟩
  refine ⟨a, ⟨by simp [s.len], fun j r e3 => ?_, fun j k b h1 h2 => s.inj j k b (own_at j b h1).2 (own_at k b h2).2, fun b hb => ?_⟩, hid_off, fun b hb n => ⟨?_, rfl⟩, fun b ⟨j, hj⟩ => .inr ⟨j, (own_at j b hj).2⟩, fun _ _ => rfl, rfl, fun _ h => h⟩
  · by_cases hj : j = i
    · subst hj
      rw [List.getElem?_set_self hi] at e3
      cases e3
      exact ⟨_, e1, hh.frz hc⟩
    · rw [List.getElem?_set_ne (Ne.symm hj)] at e3
      obtain ⟨v', e5, h⟩ := s.slot j r e3
      refine ⟨v', e5, ?_⟩
      cases r with
      | dat d => exact Dq.mono hid_off _ _ h
      | own c' =>
        obtain ⟨b, e6, hb, hc'⟩ := h
        have ne : b ≠ a := fun z => hj (s.inj j i a ⟨⟨c', e3⟩, by rw [e5, e6, z]⟩ me)
        exact ⟨b, e6, by unfold off1; rw [if_neg ne]; exact hb, hc'.move hid_off rfl⟩
      | scr ns => obtain ⟨b, e6, h⟩ := h; exact ⟨b, e6, hid_off.sqL h⟩
      | lck kvs => obtain ⟨b, e6, h⟩ := h; exact ⟨b, e6, h.mono hid_off⟩
  · unfold off1 at hb
    split at hb
    · cases hb
    · exact s.trk b hb
  · have ne : b ≠ a := fun z => n ⟨i, by rw [z]; exact me⟩
    unfold off1; rw [if_neg ne]; exact hb
theorem db_frz (i : Nat) (h : DB X w P rest g) : DB X w P rest (seqM (frzM i) g) := h.weak fun D σ H ⟨O, ds, s, q⟩ => by
  unfold seqM bnd frzM at q
  cases e : ds[i]? with
  | none => rw [e] at q; exact q.elim
  | some o =>
    cases o with
    | none => rw [e] at q; exact q.elim
    | some r =>
      cases r with
      | dat d => rw [e] at q; exact q.elim
      | scr ns => rw [e] at q; exact q.elim
      | lck kvs => rw [e] at q; exact q.elim
      | own c =>
        rw [e] at q
        by_cases hc : c.can = true
        · have q : RdS X.K w P O σ H ds (g (ds.set i (some (.dat c.frz)))) D := by simpa [if_pos hc] using q
          obtain ⟨a, p⟩ := Post.frzS (P := P) s e hc
          exact ⟨_, _, p.sat, RdS.pre p q⟩
        · have q : RdS X.K w P O σ H ds .err D := by simpa [if_neg hc] using q
          exact q.elim
theorem ds_expr (he : PE X e (rd X.K w tr fa)) (hs : swapsWith e none pos.line X.env = pure false := by rfl) : DS' X w P (.Expr e pos) (bnd fa fun _ => nxt) := (ps_expr he hs).weak fun D σ H ⟨O, ds, s, q⟩ =>
  ⟨O, ds, s, RdK.bindS q fun a v H1 O1 ds1 p rv q1 => q1 σ H1 O1 (Post.refl p.sat)⟩
def retM (tr : α → RV) (fa : M α) : M Out := bnd fa fun a => ret (.rt (tr a))
theorem ds_ret (he : PE X e (rd X.K w tr fa)) : DS' X w P (.Return (some e) pos) (retM tr fa) := (ps_ret he).weak fun D σ H ⟨O, ds, s, q⟩ =>
  ⟨O, ds, s, RdK.bindS0 q fun a v H1 O1 ds1 p rv q1 => q1 v σ H1 O1 p.anyP rv⟩
theorem ds_retN : DS' X w P (.Return none pos) (ret (.rt (.dat .none))) := ps_retN.weak fun D σ H ⟨O, ds, s, q⟩ => q .non σ H O (Post.refl s) .non
def stM (i : Nat) (tr : α → RV) (fa : M α) : M Out := bnd fa fun a => bnd (setR i (tr a)) fun _ => nxt
theorem xs_set {i : Nat} (h : ∀ {te : TE}, PE X e te → PS X st (tAsg te (gName i))) (he : PE X e (rd X.K w tr fa)) (hi : P i = false := by rfl) : DS' X w P st (stM i tr fa) := (h he).weak fun D σ H ⟨O, ds, s, q⟩ =>
  ⟨O, ds, s, RdK.bindS0 q fun a v H1 O1 ds1 p rv q1 => q1 _ H1 O1 (Post.store s p rv hi)⟩
def asgM (g : PD → M Unit) (fa : M PD) : M Out := bnd fa fun a => bnd (g a) fun _ => nxt
theorem ds_asg {tg : Expr} {g : PD → M Unit} {fa : M PD} (h : ∀ {te : TE} {tg' : TG}, PE X e te → PG X tg tg' → PS X st (tAsg te tg')) (he : DE X w e fa) (hg : DG X w P tg g) : DS' X w P st (asgM g fa) := (h he hg).weak fun D σ H ⟨O, ds, s, q⟩ =>
  ⟨O, ds, s, RdK.bindS q fun a v H1 O1 ds1 p rv q1 => ⟨O1, ds1, a, p.sat, rv, RdG.bindS q1 fun u σ2 H2 O2 ds2 p2 q2 => q2 σ2 H2 O2 (Post.refl p2.sat)⟩⟩
def iteM (t : M Bool) (f g : M Out) : M Out := bnd t fun k => if k = true then f else g
theorem ds_if {c : Expr} {a b : List Stmt} {t : M Bool} (hc : DT X w c t) (ha : DB X w P a f) (hb : DB X w P b g) : DS' X w P (.If c a b pos) (iteM t f g) := (ps_if hc ha hb).weak fun D σ H ⟨O, ds, s, q⟩ => by
  refine ⟨O, ds, s, RdT.bindS q fun k H1 O1 ds1 p q1 => ?_⟩
  cases k with
  | true => exact ⟨O1, ds1, p.sat, q1⟩
  | false => exact ⟨O1, ds1, p.sat, q1⟩
def forM (g : PD → M Unit) (body : M Out) : List PD → M Out
  | [] => nxt
  | x :: xs => bnd (g x) fun _ => seqM body (forM g body xs)
theorem ds_for {tg iter : Expr} {body : List Stmt} {fi : M (List PD)} {g : PD → M Unit} {fb : M Out} (hp : PassesOwn (model X.prog X.w) X.A X.env X.xe) (hc : X.calm = true) (hi : DI X w tg iter fi) (hg : DG X w P tg g) (hb : DB X w P body fb)
    (hs : ∀ x, foldedSetIterable iter X.env x = pure x := by intro _; rfl) : DS' X w P (.For tg iter body [] pos) (bnd fi (forM g fb)) := (ps_for hp hc hi hg hb hs).weak fun D σ H ⟨O, ds, s, q⟩ => by
  refine ⟨O, ds, s, RdI.bindS q fun xs J H1 O1 ds1 p wk q1 => ?_⟩
  refine ⟨fun i m σ' H' => m = xs.length - i ∧ i ≤ xs.length ∧ ∃ O' ds', Sat X.K O' σ' H' ds' ∧ Ext (hid O1 H1) (hid O' H') ∧ RdS X.K w P O' σ' H' ds' (forM g fb (xs.drop i) ds') D,
    ⟨xs.length, by simp, Nat.zero_le _, O1, ds1, p.sat, Ext.refl _, q1⟩, ?_⟩
  rintro i m σ' H' ⟨rfl, hi, O', ds', s', x', q'⟩
  obtain ⟨go, stop⟩ := wk O' H' x' s'.live
  by_cases hlt : i < xs.length
  · obtain ⟨g1, g2⟩ := go i _ (List.getElem?_eq_getElem hlt)
    refine .inr ⟨g1, fun σ2 H2 => ∃ O2 ds2, Sat X.K O2 σ2 H2 ds2 ∧ Ext (hid O1 H1) (hid O2 H2) ∧ RdS X.K w P O2 σ2 H2 ds2 (forM g fb (xs.drop (i + 1)) ds2) D, fun σ2 H2 ⟨O2, ds2, s2, x2, q2⟩ => ⟨xs.length - (i + 1), by omega, rfl, hlt, O2, ds2, s2, x2, q2⟩, fun v H2 hy => ?_⟩
    obtain ⟨e2, hd⟩ := g2 v H2 hy
    have pg := Post.grow (P := P) s' e2
    rw [List.drop_eq_getElem_cons hlt] at q'
    have q2 := RdS.pre pg q'
    refine ⟨O', ds', xs[i], pg.sat, hd, RdG.bindS q2 fun u σ3 H3 O3 ds3 p3 q3 => ⟨O3, ds3, p3.sat, RdS.seq q3 rfl fun σ4 H4 O4 ds4 p4 q4 => ?_⟩⟩
    exact ⟨O4, ds4, p4.sat, x'.trans (pg.ext.trans (p3.ext.trans p4.ext)), q4⟩
  · have e : i = xs.length := by omega
    subst e
    rw [List.drop_length] at q'
    exact .inl ⟨stop, q' σ' H' O' (Post.refl s')⟩
def whileM (t : M Bool) (b : M Out) : Nat → M Out
  | 0 => stuck
  | n + 1 => bnd t fun k => if k = true then seqM b (whileM t b n) else nxt
theorem ds_while {c : Expr} {body : List Stmt} {t : M Bool} {fb : M Out} (n : Nat) (hp : PassesOwn (model X.prog X.w) X.A X.env X.xe) (hc : DT X w c t) (hb : DB X w P body fb) : DS' X w P (.While c body [] pos) (whileM t fb n) := (ps_while hp hc hb).weak fun D σ H ⟨O, ds, s, q⟩ => by
  refine ⟨fun m σ' H' => ∃ O' ds', Sat X.K O' σ' H' ds' ∧ RdS X.K w P O' σ' H' ds' (whileM t fb m ds') D, ⟨n, O, ds, s, q⟩, ?_⟩
  rintro m σ' H' ⟨O', ds', s', q'⟩
  cases m with
  | zero => exact q'.elim
  | succ m =>
    refine ⟨O', ds', s', RdT.bindS q' fun k H1 O1 ds1 p q1 => ?_⟩
    cases k with
    | false => exact q1 σ' H1 O1 (Post.refl p.sat)
    | true =>
      rw [if_pos rfl]
      refine ⟨fun σ2 H2 => ∃ O2 ds2, Sat X.K O2 σ2 H2 ds2 ∧ RdS X.K w P O2 σ2 H2 ds2 (whileM t fb m ds2) D, fun σ2 H2 h => ⟨m, Nat.lt_succ_self m, h⟩, O1, ds1, p.sat, ?_⟩
      have q1 : RdS X.K w P O1 σ' H1 ds1 (seqM fb (whileM t fb m) ds1) D := q1
      exact RdS.seq q1 rfl fun σ4 H4 O4 ds4 p4 q4 => ⟨O4, ds4, p4.sat, q4⟩
theorem ds_pass : DS' X w P (.Pass pos) nxt := ps_pass.weak fun D σ H ⟨O, ds, s, q⟩ => q σ H O (Post.refl s)
/-- what is never come to -/
theorem ds_no : DS' X w P st stuck := ps_never.weak fun D σ H ⟨O, ds, s, q⟩ => q
end
end DL

namespace DL
open PySem PySem.Spec PyProof.Rows L2

/-! ### list comprehensions -/
def wipeD (ds : DS) : List Nat → DS
  | [] => ds
  | v :: vs => (wipeD ds vs).set v none
def restD (ds0 ds : DS) : List Nat → DS
  | [] => ds
  | v :: vs => (restD ds0 ds vs).set v (ds0[v]?.getD none)
def noOwn (ds : DS) (vs : List Nat) : Bool := vs.all fun v => match ds[v]? with
  | some (some (.own _)) => false
  | _ => true
theorem wipeD_length (ds : DS) : ∀ vs : List Nat, (wipeD ds vs).length = ds.length
  | [] => rfl
  | v :: vs => by simp [wipeD, wipeD_length ds vs]
theorem restD_length (ds0 ds : DS) : ∀ vs : List Nat, (restD ds0 ds vs).length = ds.length
  | [] => rfl
  | v :: vs => by simp [restD, restD_length ds0 ds vs]
theorem wipeD_out {ds : DS} {j : Nat} : ∀ {vs : List Nat}, j ∉ vs → (wipeD ds vs)[j]? = ds[j]?
  | [], _ => rfl
  | v :: vs, h => by
    have h1 : j ≠ v := fun e => h (by rw [e]; exact List.mem_cons_self)
    have h2 : j ∉ vs := fun e => h (List.mem_cons_of_mem _ e)
    show ((wipeD ds vs).set v none)[j]? = _
    rw [List.getElem?_set_ne (Ne.symm h1)]
    exact wipeD_out h2
theorem wipeD_some {ds : DS} {j : Nat} {r : RV} : ∀ {vs : List Nat}, (wipeD ds vs)[j]? = some (some r) → ds[j]? = some (some r) ∧ j ∉ vs
  | [], h => ⟨h, by simp⟩
  | v :: vs, h => by
    have h : ((wipeD ds vs).set v none)[j]? = some (some r) := h
    by_cases e : j = v
    · subst e
      by_cases hl : j < (wipeD ds vs).length
      · rw [List.getElem?_set_self hl] at h; cases h
      · rw [List.getElem?_eq_none (by simp; omega)] at h; cases h
    · rw [List.getElem?_set_ne (Ne.symm e)] at h
      obtain ⟨h1, h2⟩ := wipeD_some h
      exact ⟨h1, fun z => (List.mem_cons.mp z).elim e h2⟩
theorem restD_out {ds0 ds : DS} {j : Nat} : ∀ {vs : List Nat}, j ∉ vs → (restD ds0 ds vs)[j]? = ds[j]?
  | [], _ => rfl
  | v :: vs, h => by
    have h1 : j ≠ v := fun e => h (by rw [e]; exact List.mem_cons_self)
    have h2 : j ∉ vs := fun e => h (List.mem_cons_of_mem _ e)
    show ((restD ds0 ds vs).set v _)[j]? = _
    rw [List.getElem?_set_ne (Ne.symm h1)]
    exact restD_out h2
theorem restD_in {ds0 ds : DS} {j : Nat} {r : RV} : ∀ {vs : List Nat}, j ∈ vs → (restD ds0 ds vs)[j]? = some (some r) → ds0[j]? = some (some r)
  | v :: vs, hj, h => by
    have h : ((restD ds0 ds vs).set v (ds0[v]?.getD none))[j]? = some (some r) := h
    by_cases e : j = v
    · subst e
      by_cases hl : j < (restD ds0 ds vs).length
      · rw [List.getElem?_set_self hl] at h
        cases q : ds0[j]? with
        | none => rw [q] at h; cases h
        | some o => rw [q] at h; exact h
      · rw [List.getElem?_eq_none (by simp; omega)] at h; cases h
    · rw [List.getElem?_set_ne (Ne.symm e)] at h
      exact restD_in ((List.mem_cons.mp hj).elim (fun z => absurd z e) id) h
section
variable {K : Fg} {P : Nat → Bool} {O O' O1 : Ow} {σ σ' : L2.St} {H H' H1 : Hp} {ds ds' ds1 : DS} {vs : List Nat}
theorem OwnAt.wiped {j : Nat} {a : Addr} (h : OwnAt (wipe σ vs) (wipeD ds vs) j a) : OwnAt σ ds j a ∧ j ∉ vs := by
  obtain ⟨⟨c, e1⟩, e2⟩ := h
  obtain ⟨h1, h2⟩ := wipeD_some e1
  rw [wipe_out h2] at e2
  exact ⟨⟨⟨c, h1⟩, e2⟩, h2⟩
theorem IsOwn.wiped {a : Addr} (h : IsOwn (wipe σ vs) (wipeD ds vs) a) : IsOwn σ ds a := let ⟨j, g⟩ := h; ⟨j, g.wiped.1⟩
theorem Sat.wiped (s : Sat K O σ H ds) : Sat K O (wipe σ vs) H (wipeD ds vs) := by
  refine ⟨by rw [wipe_length, wipeD_length]; exact s.len, fun j r e => ?_, fun i j a h1 h2 => s.inj i j a h1.wiped.1 h2.wiped.1, s.trk⟩
  obtain ⟨h1, h2⟩ := wipeD_some e
  obtain ⟨v, e1, h⟩ := s.slot j r h1
  exact ⟨v, by rw [wipe_out h2]; exact e1, h⟩
theorem wipe_in {σ : L2.St} {j : Nat} : ∀ {vs : List Nat}, j ∈ vs → j < σ.length → (wipe σ vs)[j]? = some none
  | v :: vs, hj, hl => by
    show ((wipe σ vs).set v none)[j]? = _
    by_cases e : j = v
    · subst e
      rw [List.getElem?_set_self (by rw [wipe_length]; exact hl)]
    · rw [List.getElem?_set_ne (Ne.symm e)]
      exact wipe_in ((List.mem_cons.mp hj).elim (fun z => absurd z e) id) hl
theorem wipe_keep (hl : σ'.length = (wipe σ vs).length) (h : ∀ i, (!vs.contains i) = true → σ'[i]? = (wipe σ vs)[i]?) : wipe σ' vs = wipe σ vs := by
  refine List.ext_getElem? fun j => ?_
  by_cases hj : j ∈ vs
  · by_cases hlt : j < σ.length
    · rw [wipe_in hj hlt, wipe_in hj (by rw [hl, wipe_length]; exact hlt)]
    · rw [List.getElem?_eq_none (by rw [wipe_length, hl, wipe_length]; omega), List.getElem?_eq_none (by rw [wipe_length]; omega)]
  · rw [wipe_out hj, h j (by simpa using hj)]
/-- a turn's end told without the turn's own names -/
theorem Post.wiped (p : Post K P O O' (wipe σ vs) σ' H H' (wipeD ds vs) ds') (e : wipe σ' vs = wipe σ vs) : Post K nk O O' (wipe σ vs) (wipe σ vs) H H' (wipeD ds vs) (wipeD ds' vs) := by
  have s := p.sat.wiped (vs := vs)
  rw [e] at s
  exact ⟨s, p.ext, p.frn, fun a h => p.own a (by rw [← e] at h; exact h.wiped), fun _ _ => rfl, rfl, p.old⟩
/-- the list that is made grows -/
theorem Post.wr {D : Addr} {o : HO} (p : Post K P O O' σ σ' H H' ds ds') (s : Sat K O σ H ds) (hD : H D = none) (h1 : O' D = true) (n : ¬ IsOwn σ' ds' D) : Post K P O O' σ σ' H (upd H' D o) ds ds' := by
  have he : Ext (hid O' H') (hid O' (upd H' D o)) := fun b u e => by
    obtain ⟨e1, e2⟩ := hid_some e
    rw [hid_of e1, upd_ne (fun z => by rw [z, h1] at e1; cases e1)]
    exact e2
  refine ⟨⟨p.sat.len, fun j r e => ?_, p.sat.inj, fun a h => ?_⟩, p.ext.trans he, fun a h m => ?_, p.own, p.keep, p.lenk, fun a h => ?_⟩
  · obtain ⟨v, e1, h⟩ := p.sat.slot j r e
    refine ⟨v, e1, ?_⟩
    cases r with
    | dat d => exact Dq.mono he _ _ h
    | own c =>
      obtain ⟨a, e2, ho, hc⟩ := h
      have ne : a ≠ D := fun z => n ⟨j, ⟨c, e⟩, by rw [e1, e2, z]⟩
      exact ⟨a, e2, ho, hc.move he (upd_ne ne)⟩
    | scr ns => obtain ⟨a, e2, h⟩ := h; exact ⟨a, e2, he.sqL h⟩
    | lck kvs => obtain ⟨a, e2, h⟩ := h; exact ⟨a, e2, h.mono he⟩
  · by_cases z : a = D
    · exact ⟨o, by rw [z, upd_same]⟩
    · rw [upd_ne z]; exact p.sat.trk a h
  · obtain ⟨g1, g2⟩ := p.frn a h m
    have ne : a ≠ D := fun z => by
      have := s.fresh hD
      rw [z, this] at h; cases h
    exact ⟨g1, (upd_ne ne).trans g2⟩
  · by_cases z : a = D
    · rw [z, upd_same]; simp
    · rw [upd_ne z]; exact p.old a h
theorem noOwn_at {j : Nat} {c : Cn} (h : noOwn ds vs = true) (e : ds[j]? = some (some (.own c))) : j ∉ vs := fun hj => by
  have := List.all_eq_true.mp h j hj
  rw [e] at this
  cases this
theorem Post.rest (s : Sat K O σ H ds) (no : noOwn ds vs = true) (p : Post K nk O O' (wipe σ vs) (wipe σ vs) H H' (wipeD ds vs) (wipeD ds' vs)) : Post K nk O O' σ σ H H' ds (restD ds ds' vs) := by
  have hl : ds'.length = ds.length := by
    have := p.sat.len
    rw [wipe_length, wipeD_length, s.len] at this
    exact this.symm
  have own_at : ∀ j a, OwnAt σ (restD ds ds' vs) j a → OwnAt (wipe σ vs) (wipeD ds' vs) j a := by
    rintro j a ⟨⟨c, e1⟩, e2⟩
    by_cases hj : j ∈ vs
    · exact absurd hj (noOwn_at no (restD_in hj e1))
    · rw [restD_out hj] at e1
      exact ⟨⟨c, by rw [wipeD_out hj]; exact e1⟩, by rw [wipe_out hj]; exact e2⟩
  refine ⟨⟨by rw [restD_length, hl]; exact s.len, fun j r e => ?_, fun i j a h1 h2 => p.sat.inj i j a (own_at i a h1) (own_at j a h2), p.sat.trk⟩, p.ext, fun a h n => p.frn a h fun z => n z.wiped, fun a ⟨j, h⟩ => ?_, fun _ _ => rfl, rfl, p.old⟩
  · by_cases hj : j ∈ vs
    · have e' := restD_in hj e
      obtain ⟨v, e1, h⟩ := s.slot j r e'
      refine ⟨v, e1, ?_⟩
      cases r with
      | dat d => exact Dq.mono p.ext _ _ h
      | own c => exact absurd hj (noOwn_at no e')
      | scr ns => obtain ⟨a, e2, h⟩ := h; exact ⟨a, e2, p.ext.sqL h⟩
      | lck kvs => obtain ⟨a, e2, h⟩ := h; exact ⟨a, e2, h.mono p.ext⟩
    · rw [restD_out hj] at e
      obtain ⟨v, e1, h⟩ := p.sat.slot j r (by rw [wipeD_out hj]; exact e)
      exact ⟨v, by rw [wipe_out hj] at e1; exact e1, h⟩
  · rcases p.own a ⟨j, own_at j a h⟩ with q | q
    · exact .inl q
    · exact .inr q.wiped
end
/-- one turn -/
def turnM (g : PD → M Unit) (tt : M Bool) (fe : M PD) (x : PD) : M (Option PD) := bnd (g x) fun _ => bnd tt fun k => if k = true then bnd fe fun y => ret (some y) else ret none
def lcL (g : PD → M Unit) (tt : M Bool) (fe : M PD) (vs : List Nat) : List PD → List PD → M (List PD)
  | acc, [] => ret acc
  | acc, x :: xs => fun ds => match turnM g tt fe x (wipeD ds vs) with
    | .ok none ds' => lcL g tt fe vs acc xs ds'
    | .ok (some y) ds' => if acc.length < lim then lcL g tt fe vs (acc ++ [y]) xs ds' else .err
    | _ => .err
def lcR (g : PD → M Unit) (tt : M Bool) (fe : M PD) (vs : List Nat) (xs : List PD) : M Cn := fun ds =>
  if noOwn ds vs = true then (match lcL g tt fe vs [] xs ds with
    | .ok acc ds' => .ok (.lst acc) (restD ds ds' vs)
    | _ => .err) else .err
def lcM (fi : M (List PD)) (g : PD → M Unit) (tt : M Bool) (fe : M PD) (vs : List Nat) : M Cn := bnd fi (lcR g tt fe vs)
def blkP (vs : List Nat) : Nat → Bool := fun i => !vs.contains i
theorem lt_line {n : Nat} (h : n < lim) : n < sizeLine := Nat.lt_of_lt_of_le h lim_le
section
variable {X : Cx} {w : Wi}
/-- the reading of a comprehension -/
theorem lc_core' {fi : M (List PD)} {g : PD → M Unit} {tt : M Bool} {fe : M PD} {vs : List Nat} {σ : L2.St} {H : Hp} {Q : VK} (h : rdO X.K w (lcM fi g tt fe vs) σ H Q) :
    tLc (rdI X.K w fi) (rdG X.K .no (blkP vs) g) (rdT X.K .no tt) (rdD X.K .no fe) vs σ H Q := by
  obtain ⟨O, ds, s, q⟩ := h
  unfold lcM bnd at q
  refine ⟨O, ds, s, ?_⟩
  cases ei : fi ds with
  | err => rw [ei] at q; exact q
  | ex x ds' => rw [ei] at q; exact q
  | ok xs ds1 =>
    rw [ei] at q
    intro J H1 O1 p wk D hD
    have q : RdK X.K w RV.own O1 σ H1 ds1 (lcR g tt fe vs xs ds1) Q := RdK.pre p q
    unfold lcR at q
    by_cases no : noOwn ds1 vs = true
    · rw [if_pos no] at q
      cases er : lcL g tt fe vs [] xs ds1 with
      | err => rw [er] at q; exact q.elim
      | ex x ds' => rw [er] at q; exact q.elim
      | ok accF dsF =>
        rw [er] at q
        have sw := p.sat.wiped (vs := vs)
        obtain ⟨pf, nD⟩ := Post.fresh (P := nk) (H' := upd H1 D (.lst [])) sw hD (ext_upd hD) upd_nn
        -- what stays of the list that is made
        have stays : ∀ {P' : Nat → Bool} {O2 O3 : Ow} {σ2 σ3 : L2.St} {H2 H3 : Hp} {d2 d3 : DS}, Post X.K P' O2 O3 σ2 σ3 H2 H3 d2 d3 → O2 D = true → ¬ IsOwn σ2 d2 D → O3 D = true ∧ H3 D = H2 D ∧ ¬ IsOwn σ3 d3 D := fun {P' O2 O3 σ2 σ3 H2 H3 d2 d3} pp h1 n => by
          obtain ⟨a1, a2⟩ := pp.frn D h1 n
          exact ⟨a1, a2, fun z => (pp.own D z).elim (fun y => by rw [h1] at y; cases y) n⟩
        refine ⟨fun i m H' => m = xs.length - i ∧ i ≤ xs.length ∧ ∃ O' ds' acc av, Post X.K nk O1 O' (wipe σ vs) (wipe σ vs) H1 H' (wipeD ds1 vs) (wipeD ds' vs) ∧ H' D = some (.lst av) ∧ DqAll X.K (hid O' H') av acc ∧ O' D = true ∧ ¬ IsOwn (wipe σ vs) (wipeD ds' vs) D ∧
            lcL g tt fe vs acc (xs.drop i) ds' = .ok accF dsF,
          ⟨xs.length, by simp, Nat.zero_le _, own1 O1 D, ds1, [], [], pf, upd_same, .nil, by unfold own1; rw [if_pos rfl], nD, er⟩, ?_⟩
        rintro i m H' ⟨rfl, hi, O', ds', acc, av, p', hDl, hav, hO', nD', er'⟩
        obtain ⟨go, stop⟩ := wk O' H' p'.ext p'.sat.live
        by_cases hlt : i < xs.length
        · obtain ⟨g1, g2⟩ := go i _ (List.getElem?_eq_getElem hlt)
          rw [List.drop_eq_getElem_cons hlt] at er'
          refine .inr ⟨g1, fun H5 => ∃ O5 ds5 acc5 av5, Post X.K nk O1 O5 (wipe σ vs) (wipe σ vs) H1 H5 (wipeD ds1 vs) (wipeD ds5 vs) ∧ H5 D = some (.lst av5) ∧ DqAll X.K (hid O5 H5) av5 acc5 ∧ O5 D = true ∧ ¬ IsOwn (wipe σ vs) (wipeD ds5 vs) D ∧
              lcL g tt fe vs acc5 (xs.drop (i + 1)) ds5 = .ok accF dsF, fun H5 ⟨O5, ds5, acc5, av5, r⟩ => ⟨xs.length - (i + 1), by omega, rfl, hlt, O5, ds5, acc5, av5, r⟩, fun v H2 hy => ?_⟩
          obtain ⟨e2, hd⟩ := g2 v H2 hy
          have pg := Post.grow (P := blkP vs) p'.sat e2
          obtain ⟨b1, b2, b3⟩ := stays pg hO' nD'
          -- the turn by data
          unfold lcL at er'
          unfold turnM bnd at er'
          refine ⟨O', wipeD ds' vs, xs[i], pg.sat, hd, ?_⟩
          cases eg : g xs[i] (wipeD ds' vs) with
          | err => rw [eg] at er'; cases er'
          | ex _ _ => rw [eg] at er'; cases er'
          | ok u ds2 =>
            rw [eg] at er'
            intro σ2 H3 O2 p2
            have ek : wipe σ2 vs = wipe σ vs := wipe_keep p2.lenk p2.keep
            obtain ⟨c1, c2, c3⟩ := stays p2 b1 b3
            refine ⟨ek, O2, ds2, p2.sat, ?_⟩
            dsimp only at er'
            cases et : tt ds2 with
            | err => rw [et] at er'; cases er'
            | ex _ _ => rw [et] at er'; cases er'
            | ok k ds3 =>
              rw [et] at er'
              intro H4 O3 p3
              obtain ⟨d1, d2, d3⟩ := stays p3 c1 c3
              have p03 := (p2.trans (p3.anyP (P' := blkP vs)))
              cases k with
              | false =>
                rw [if_neg Bool.false_ne_true]
                have er' : lcL g tt fe vs acc (xs.drop (i + 1)) ds3 = .ok accF dsF := er'
                have pt := p'.trans ((pg.trans p03).wiped ek)
                refine ⟨O3, ds3, acc, av, pt, by rw [d2, c2, b2]; exact hDl, DqAll.mono (pg.ext.trans p03.ext) _ _ hav, d1, fun z => d3 ?_, er'⟩
                rw [← ek] at z; exact z.wiped
              | true =>
                rw [if_pos rfl]
                refine ⟨O3, ds3, p3.sat, ?_⟩
                dsimp only at er'
                simp only [if_true] at er'
                cases ee : fe ds3 with
                | err => rw [ee] at er'; cases er'
                | ex _ _ => rw [ee] at er'; cases er'
                | ok y ds4 =>
                  rw [ee] at er'
                  intro yv H5 O4 p4 hy4
                  obtain ⟨f1, f2, f3⟩ := stays p4 d1 d3
                  have p04 := p03.trans (p4.anyP (P' := blkP vs))
                  have er' : (if acc.length < lim then lcL g tt fe vs (acc ++ [y]) (xs.drop (i + 1)) ds4 else .err) = .ok accF dsF := er'
                  by_cases hlen : acc.length < lim
                  · rw [if_pos hlen] at er'
                    have hav5 := DqAll.mono (pg.ext.trans p04.ext) _ _ hav
                    refine ⟨av, by rw [f2, d2, c2, b2]; exact hDl, by rw [hav.length]; exact lt_line hlen, ?_⟩
                    have pt := p'.trans ((pg.trans p04).wiped ek)
                    have nDw : ¬ IsOwn (wipe σ vs) (wipeD ds4 vs) D := fun z => f3 (by rw [← ek] at z; exact z.wiped)
                    have he : Ext (hid O4 H5) (hid O4 (upd H5 D (.lst (av ++ [yv])))) := fun b u e => by
                      obtain ⟨e1, e2⟩ := hid_some e
                      rw [hid_of e1, upd_ne (fun z => by rw [z, f1] at e1; cases e1)]
                      exact e2
                    exact ⟨O4, ds4, acc ++ [y], av ++ [yv], pt.wr sw hD f1 nDw, upd_same, DqAll.mono he _ _ (hav5.append (.cons hy4 .nil)), f1, nDw, er'⟩
                  · rw [if_neg hlen] at er'; cases er'
        · have e : i = xs.length := by omega
          subst e
          rw [List.drop_length] at er'
          have er' : Rs.ok acc ds' = .ok accF dsF := er'
          cases er'
          have pr := Post.rest p.sat no p'
          refine .inl ⟨stop, q _ H' O' pr ⟨D, rfl, hD, hO', fun ⟨j, hj⟩ => ?_, av, hDl, hav⟩⟩
          rcases pr.own D ⟨j, hj⟩ with z | z
          · obtain ⟨⟨c, e1⟩, e2⟩ := hj
            by_cases hv : j ∈ vs
            · exact noOwn_at no (restD_in hv e1) hv
            · rw [restD_out hv] at e1
              exact nD' ⟨j, ⟨c, by rw [wipeD_out hv]; exact e1⟩, by rw [wipe_out hv]; exact e2⟩
          · obtain ⟨j', ⟨c, e1⟩, e2⟩ := z
            obtain ⟨v', e3, a, e4, ho, _⟩ := p.sat.slot j' _ e1
            subst e4
            rw [e2] at e3; cases e3
            obtain ⟨o, ho'⟩ := p.sat.trk _ ho
            rw [hD] at ho'; cases ho'
    · rw [if_neg no] at q; exact q.elim
def yesT : M Bool := ret true
abbrev DTs (X : Cx) (w : Wi) (ifs : List Expr) (f : M Bool) : Prop := PTs X ifs (rdT X.K w f)
theorem _root_.L2.PTs.weak {X : Cx} {e : List Expr} {t t' : TT} (h : PTs X e t) (i : ∀ σ H Q, t' σ H Q → t σ H Q) : PTs X e t' := ⟨fun pins s σ H Q I q => h.run pins s σ H Q I (i σ H Q q)⟩
theorem dts_nil : DTs X w [] yesT := pts_nil.weak fun σ H Q ⟨O, ds, s, q⟩ => q H O (Post.refl s)
theorem dts_one {c : Expr} {t : M Bool} (h : DT X w c t) : DTs X w [c] t := pts_one h
theorem oe_lc {elt tg iter : Expr} {ifs : List Expr} {scope : Scope} {own : List (Str × Nat)} {pos : Pos} {fi : M (List PD)} {g : PD → M Unit} {tt : M Bool} {fe : M PD} (hc : X.calm = true) (hN : X.N.Nodup) (hi : DI X w tg iter fi) (ok : BlkOk X.N X.env.scope scope own)
    (hg : ∀ (s : Shared) (H : Hp) (C : Addr) (cl : List (Str × Addr)) (fp : List Addr), DG (X.blk s H scope (compEnvC scope cl C X.env) fp) .no (blkP (own.map (·.2))) tg g) (ht : ∀ (s : Shared) (H : Hp) (C : Addr) (cl : List (Str × Addr)) (fp : List Addr), DTs (X.blk s H scope (compEnvC scope cl C X.env) fp) .no ifs tt)
    (he : ∀ (s : Shared) (H : Hp) (C : Addr) (cl : List (Str × Addr)) (fp : List Addr), DE (X.blk s H scope (compEnvC scope cl C X.env) fp) .no elt fe) (hs : ∀ x, foldedSetIterable iter X.env x = pure x := by intro _; rfl) :
    OE X w (.ListComp elt [⟨tg, iter, ifs, 0⟩] scope pos) (lcM fi g tt fe (own.map (·.2))) := (pe_lc hc hN hi ok hg ht he hs).weak fun σ H Q q => lc_core' q
end
end DL

namespace DL
open PySem PySem.Spec PyProof.Rows L2

/-! ### own objects: written, read -/
section
variable {K : Fg} {P : Nat → Bool} {O : Ow} {σ : L2.St} {H : Hp} {ds : DS} {i : Nat} {c c' : Cn} {a : Addr}
theorem Sat.ownSlot (s : Sat K O σ H ds) (e : ds[i]? = some (some (.own c))) : ∃ a, σ[i]? = some (some (.ref a)) ∧ O a = true ∧ CH K (hid O H) H a c := by
  obtain ⟨v, e1, a, rfl, ho, h⟩ := s.slot i _ e
  exact ⟨a, e1, ho, h⟩
theorem hid_upd {o : HO} (ho : O a = true) : hid O (upd H a o) = hid O H := by
  funext b
  unfold hid
  by_cases hb : O b = true
  · rw [if_pos hb, if_pos hb]
  · rw [if_neg hb, if_neg hb, upd_ne (fun z => hb (by rw [z]; exact ho))]
theorem Post.put {o : HO} (s : Sat K O σ H ds) (e : ds[i]? = some (some (.own c))) (e1 : σ[i]? = some (some (.ref a))) (ho : O a = true) (hh : CH K (hid O H) (upd H a o) a c') :
    Post K P O O σ σ H (upd H a o) ds (ds.set i (some (.own c'))) := by
  have hi : i < ds.length := (List.getElem?_eq_some_iff.mp e).1
  have hx := hid_upd (H := H) (o := o) ho
  have own_at : ∀ j b, OwnAt σ (ds.set i (some (.own c'))) j b → OwnAt σ ds j b := by
    rintro j b ⟨⟨d, e3⟩, e4⟩
    by_cases hj : j = i
    · subst hj
      exact ⟨⟨c, e⟩, e4⟩
    · rw [List.getElem?_set_ne (Ne.symm hj)] at e3
      exact ⟨⟨d, e3⟩, e4⟩
  refine ⟨⟨by simp [s.len], fun j r e3 => ?_, fun j k b h1 h2 => s.inj j k b (own_at j b h1) (own_at k b h2), fun b hb => ?_⟩, by rw [hx]; exact Ext.refl _, fun b hb n => ⟨hb, ?_⟩, fun b ⟨j, hj⟩ => .inr ⟨j, own_at j b hj⟩, fun _ _ => rfl, rfl, fun b hb => ?_⟩
  · by_cases hj : j = i
    · subst hj
      rw [List.getElem?_set_self hi] at e3
      cases e3
      exact ⟨_, e1, a, rfl, ho, by rw [hx]; exact hh⟩
    · rw [List.getElem?_set_ne (Ne.symm hj)] at e3
      obtain ⟨v, e5, h⟩ := s.slot j r e3
      refine ⟨v, e5, ?_⟩
      cases r with
      | dat d => exact (by rw [RH, hx]; exact h)
      | own d =>
        obtain ⟨b, e6, hb, hc⟩ := h
        have ne : b ≠ a := fun z => hj (s.inj j i a ⟨⟨d, e3⟩, by rw [e5, e6, z]⟩ ⟨⟨c, e⟩, e1⟩)
        exact ⟨b, e6, hb, by rw [hx]; exact hc.move (Ext.refl _) (upd_ne ne)⟩
      | scr ns => obtain ⟨b, e6, h⟩ := h; exact ⟨b, e6, by rw [hx]; exact h⟩
      | lck kvs => obtain ⟨b, e6, h⟩ := h; exact ⟨b, e6, by rw [hx]; exact h⟩
  · by_cases z : b = a
    · exact ⟨o, by rw [z, upd_same]⟩
    · rw [upd_ne z]; exact s.trk b hb
  · exact upd_ne (fun z => n ⟨i, by rw [z]; exact ⟨⟨c, e⟩, e1⟩⟩)
  · by_cases z : b = a
    · rw [z, upd_same]; simp
    · rw [upd_ne z]; exact hb
end
/-- the own list in a slot -/
def getL (i : Nat) : M (List PD) := fun ds => match ds[i]? with
  | some (some (.own (.lst xs))) => .ok xs ds
  | _ => .err
def setC (i : Nat) (c : Cn) : M Unit := fun ds => .ok () (ds.set i (some (.own c)))
theorem getL_ok {i : Nat} {ds ds' : DS} {xs : List PD} (h : getL i ds = .ok xs ds') : ds[i]? = some (some (.own (.lst xs))) ∧ ds' = ds := by
  unfold getL at h
  split at h
  · rename_i ys e; cases h; exact ⟨e, rfl⟩
  · cases h
theorem getL_ex {i : Nat} {ds ds' : DS} {x : Ex} (h : getL i ds = .ex x ds') : False := by
  unfold getL at h
  split at h <;> cases h
section
variable {X : Cx} {w : Wi} {a b e : Expr} {pos : Pos} {fa fb : M PD} {i : Nat} {α β : Type} {tr : α → RV} {P : Nat → Bool}
section
variable {K : Fg} {O : Ow} {σ : L2.St} {H : Hp} {ds : DS} {Q : VK}
/-- a reading that begins with an own slot's list -/
theorem RdK.getL {g : List PD → M α} (s : Sat K O σ H ds) (h : RdK K w tr O σ H ds (bnd (getL i) g ds) Q) :
    ∃ xs p vs, ds[i]? = some (some (.own (.lst xs))) ∧ σ[i]? = some (some (.ref p)) ∧ O p = true ∧ H p = some (.lst vs) ∧ DqAll K (hid O H) vs xs ∧ RdK K w tr O σ H ds (g xs ds) Q := by
  unfold bnd at h
  cases e : DL.getL i ds with
  | ok xs ds' =>
    rw [e] at h
    obtain ⟨e1, rfl⟩ := getL_ok e
    obtain ⟨p, e2, ho, vs, h1, h2⟩ := s.ownSlot e1
    exact ⟨xs, p, vs, e1, e2, ho, h1, h2, h⟩
  | ex x ds' => exact (getL_ex e).elim
  | err => rw [e] at h; exact h.elim
end
/-- x[e], x an own list -/
def oix (i : Nat) (fb : M PD) : M PD := bnd (getL i) fun _ => bnd fb fun y => bnd (getL i) fun xs => ofO (ixD (.list xs) y)
theorem de_oix (ha : PE X a (tVar i)) (hb : DE X w b fb) (hs : PlainIx b := by exact fun _ _ => rfl) : DE X w (.Subscript a b pos) (oix i fb) := (pe_ix (ix_list.or ix_tup) ha hb hs).weak fun σ H Q ⟨O, ds, s, q⟩ => by
  obtain ⟨xs0, p, vs0, e0, e1, ho, _, _, q⟩ := q.getL s
  refine ⟨_, e1, O, ds, s, RdK.bind q fun y u H2 O2 ds2 p2 rv2 h2 => ?_⟩
  obtain ⟨xs, p', vs, e3, e4, ho', h1, h2', h3⟩ := h2.getL p2.sat
  rw [e1] at e4; cases e4
  cases z : ixD (.list xs) y with
  | none => rw [z] at h3; exact h3.elim
  | some d =>
    rw [z] at h3
    -- the list is seen when it is no own one any more
    unfold ixD at z
    cases y with
    | int k =>
      cases rv2
      dsimp only at z
      obtain ⟨v, hv1, hv2⟩ := h2'.atI z
      exact .inl ⟨p, vs, k, v, rfl, rfl, .inl (.inl h1), hv1, RdK.dat_here p2.sat h3 hv2⟩
    | _ => cases z
/-- len(x), x an own list -/
def olen (i : Nat) : M PD := bnd (getL i) fun xs => ret (.int xs.length)
theorem pa_one {t : TE} (h : PE X e t) (ns : NS X e) : PA X [e] (tCons t tNil) := pa_cons h pa_nil (ns [])
theorem de_olen {p : Pos} (hg : Gl X "len") (hm : X.mg "len" = none) (h : PE X e (tVar i)) (ns : NS X e := by exact fun _ => rfl) : DE X w (.Call (.Name "len" p) [e] [] pos) (olen i) :=
  (pe_callB call_len hg hm PySem.boot_len (pa_one h ns) (by decide) (by decide) (ns []) rfl).weak fun σ H Q ⟨O, ds, s, q⟩ => by
  obtain ⟨xs, p, vs, e0, e1, ho, h1, h2, q⟩ := q.getL s
  exact ⟨_, e1, _, vs.length, rfl, .inl ⟨vs, .inl (.inl h1), rfl⟩, by rw [h2.length]; exact RdK.dat_here s q (.int _)⟩
/-- x.append(e) -/
def appM (i : Nat) (fe : M PD) : M PD := bnd (getL i) fun _ => bnd fe fun x => bnd (getL i) fun xs => if xs.length < lim then bnd (setC i (.lst (xs ++ [x]))) fun _ => ret .none else stuck
theorem de_append {apos : Pos} (ha : PE X a (tVar i)) (he : DE X w e fb) (ns : NS X e := by exact fun _ => rfl) 
    (hbase : attributeBase a "append" X.env (eval a X.env) = eval a X.env := by rfl)
    (hfew : ((backTo pos (starEach [e] X.env)).all (fun x => !x.1) && (backToKw pos (keywordEach [] X.env)).all (fun x => x.1.isSome)
      && decide (([e] : List Expr).length + ([] : List Keyword).length + (if ([] : List Keyword).isEmpty then 0 else 1) < 30)) = true := by rfl)
    (hline : (apos.endLine == pos.line) = true := by rfl) : DE X w (.Call (.Attribute a "append" apos) [e] [] pos) (appM i fb) :=
  (pe_bm PySem.F.plainAttrs_list F.slot_list_append F.type_list_append mt_append ha (pa_one he ns) hbase hfew hline (ns []) rfl).weak fun σ H Q ⟨O, ds, s, q⟩ => by
  obtain ⟨xs0, p, vs0, e0, e1, ho, h10, _, q⟩ := q.getL s
  refine ⟨_, e1, .inl ⟨rfl, vs0, .inl (.inl h10)⟩, O, ds, s, RdK.bind q fun y u H2 O2 ds2 p2 rv2 h2 => ?_⟩
  obtain ⟨xs, p', vs, e3, e4, ho', h1, h2', h3⟩ := h2.getL p2.sat
  rw [e1] at e4; cases e4
  by_cases hl : xs.length < lim
  · rw [if_pos hl] at h3
    have h3 : RdK X.K w RV.dat O2 σ H2 ds2 (.ok .none (ds2.set i (some (.own (.lst (xs ++ [y])))))) Q := h3
    have pp := Post.put (P := nk) (c' := .lst (xs ++ [y])) (o := .lst (vs ++ [u])) p2.sat e3 e1 ho' ⟨_, upd_same, h2'.append (.cons rv2 .nil)⟩
    exact ⟨p, vs, u, rfl, rfl, h1, by rw [h2'.length]; exact lt_line hl, h3 _ _ _ pp .non⟩
  · rw [if_neg hl] at h3; exact h3.elim
/-- x.extend(e): e a fresh list, or data -/
def extV : RV → Option (List PD)
  | .own (.lst xs) => some xs
  | .dat (.list xs) => some xs
  | _ => none
def extM (i : Nat) (fe : M RV) : M PD := bnd (getL i) fun _ => bnd fe fun r => bnd (ofO (extV r)) fun ys => bnd (getL i) fun xs => if xs.length + ys.length ≤ lim then bnd (setC i (.lst (xs ++ ys))) fun _ => ret .none else stuck
theorem ext_src {K : Fg} {O : Ow} {σ : L2.St} {H H0 : Hp} {ds : DS} {v : V} {r : RV} {ys : List PD} (rv : RvOk K H0 O σ H ds v r) (e : extV r = some ys) : ∃ b us, v = .ref b ∧ H b = some (.lst us) ∧ DqAll K (hid O H) us ys := by
  cases r with
  | dat d =>
    cases d with
    | list xs =>
      cases e
      cases rv with
      | @lst a vs _ h1 h2 => exact ⟨a, vs, rfl, (hid_some h1).2, h2⟩
    | _ => cases e
  | own c =>
    cases c with
    | lst xs =>
      cases e
      obtain ⟨a, rfl, _, _, _, us, h1, h2⟩ := rv
      exact ⟨a, us, rfl, h1, h2⟩
    | _ => cases e
  | _ => cases e
theorem de_extend {apos : Pos} {fe : M RV} (ha : PE X a (tVar i)) (he : VE X w e fe) (ns : NS X e := by exact fun _ => rfl) 
    (hbase : attributeBase a "extend" X.env (eval a X.env) = eval a X.env := by rfl)
    (hfew : ((backTo pos (starEach [e] X.env)).all (fun x => !x.1) && (backToKw pos (keywordEach [] X.env)).all (fun x => x.1.isSome)
      && decide (([e] : List Expr).length + ([] : List Keyword).length + (if ([] : List Keyword).isEmpty then 0 else 1) < 30)) = true := by rfl)
    (hline : (apos.endLine == pos.line) = true := by rfl) : DE X w (.Call (.Attribute a "extend" apos) [e] [] pos) (extM i fe) :=
  (pe_bm PySem.F.plainAttrs_list F.slot_list_extend F.type_list_extend mt_extend ha (pa_one he ns) hbase hfew hline (ns []) rfl).weak fun σ H Q ⟨O, ds, s, q⟩ => by
  obtain ⟨xs0, p, vs0, e0, e1, ho, h10, _, q⟩ := q.getL s
  refine ⟨_, e1, .inl ⟨rfl, vs0, .inl (.inl h10)⟩, O, ds, s, RdK.bind q fun r u H2 O2 ds2 p2 rv2 h2 => ?_⟩
  cases er : extV r with
  | none => rw [er] at h2; exact h2.elim
  | some ys =>
    rw [er] at h2
    have h2 : RdK X.K w RV.dat O2 σ H2 ds2 (bnd (getL i) (fun xs => if xs.length + ys.length ≤ lim then bnd (setC i (.lst (xs ++ ys))) fun _ => ret .none else stuck) ds2) Q := h2
    obtain ⟨xs, p', vs, e3, e4, ho', h1, h2', h3⟩ := h2.getL p2.sat
    rw [e1] at e4; cases e4
    obtain ⟨b, us, rfl, hb, hu⟩ := ext_src rv2 er
    by_cases hl : xs.length + ys.length ≤ lim
    · rw [if_pos hl] at h3
      have h3 : RdK X.K w RV.dat O2 σ H2 ds2 (.ok .none (ds2.set i (some (.own (.lst (xs ++ ys)))))) Q := h3
      have pp := Post.put (P := nk) (c' := .lst (xs ++ ys)) (o := .lst (vs ++ us)) p2.sat e3 e1 ho' ⟨_, upd_same, h2'.append hu⟩
      exact ⟨p, b, vs, us, rfl, rfl, h1, hb, by rw [h2'.length, hu.length]; exact le_line hl, h3 _ _ _ pp .non⟩
    · rw [if_neg hl] at h3; exact h3.elim
/-- x.pop(e) -/
def popM (i : Nat) (fe : M PD) : M PD := bnd (getL i) fun _ => bnd fe fun y => bnd (getL i) fun xs => match y with
  | .int k => if big62 k = true then (match seqIndex? k xs.length with
    | some j => (match xs[j]? with
      | some d => bnd (setC i (.lst (xs.eraseIdx j))) fun _ => ret d
      | none => stuck)
    | none => stuck) else stuck
  | _ => stuck
theorem DqAll.eraseIdx {K : Fg} {H : Hp} {vs : List V} {xs : List PD} (h : DqAll K H vs xs) (j : Nat) : DqAll K H (vs.eraseIdx j) (xs.eraseIdx j) := by
  rw [List.eraseIdx_eq_take_drop_succ, List.eraseIdx_eq_take_drop_succ]
  exact (h.take j).append (h.drop (j + 1))
theorem de_popAt {apos : Pos} (ha : PE X a (tVar i)) (he : DE X w e fb) (ns : NS X e := by exact fun _ => rfl) 
    (hbase : attributeBase a "pop" X.env (eval a X.env) = eval a X.env := by rfl)
    (hfew : ((backTo pos (starEach [e] X.env)).all (fun x => !x.1) && (backToKw pos (keywordEach [] X.env)).all (fun x => x.1.isSome)
      && decide (([e] : List Expr).length + ([] : List Keyword).length + (if ([] : List Keyword).isEmpty then 0 else 1) < 30)) = true := by rfl)
    (hline : (apos.endLine == pos.line) = true := by rfl) : DE X w (.Call (.Attribute a "pop" apos) [e] [] pos) (popM i fb) :=
  (pe_bm PySem.F.plainAttrs_list F.slot_list_pop F.type_list_pop mt_popAt ha (pa_one he ns) hbase hfew hline (ns []) rfl).weak fun σ H Q ⟨O, ds, s, q⟩ => by
  obtain ⟨xs0, p, vs0, e0, e1, ho, h10, _, q⟩ := q.getL s
  refine ⟨_, e1, .inl ⟨rfl, vs0, .inl (.inl h10)⟩, O, ds, s, RdK.bind q fun y u H2 O2 ds2 p2 rv2 h2 => ?_⟩
  obtain ⟨xs, p', vs, e3, e4, ho', h1, h2', h3⟩ := h2.getL p2.sat
  rw [e1] at e4; cases e4
  cases y with
  | int k =>
    cases rv2
    dsimp only at h3
    by_cases hb : big62 k = true
    · rw [if_pos hb] at h3
      obtain ⟨b1, b2⟩ := big62_of hb
      cases ej : seqIndex? k xs.length with
      | none => rw [ej] at h3; exact h3.elim
      | some j =>
        rw [ej] at h3
        dsimp only at h3
        cases ed : xs[j]? with
        | none => rw [ed] at h3; exact h3.elim
        | some d =>
          rw [ed] at h3
          have h3 : RdK X.K w RV.dat O2 σ H2 ds2 (.ok d (ds2.set i (some (.own (.lst (xs.eraseIdx j)))))) Q := h3
          obtain ⟨v, ev, hv⟩ := h2'.get ed
          have pp := Post.put (P := nk) (c' := .lst (xs.eraseIdx j)) (o := .lst (vs.eraseIdx j)) p2.sat e3 e1 ho' ⟨_, upd_same, h2'.eraseIdx j⟩
          exact ⟨p, vs, k, j, v, rfl, rfl, h1, by omega, by omega, by rw [h2'.length]; exact ej, ev, h3 _ _ _ pp (Dq.mono pp.ext _ _ hv)⟩
    · rw [if_neg hb] at h3; exact h3.elim
  | _ => exact h3.elim
/-- x op e, x an own list -/
def ocmp (g : PD → PD → Option Bool) (i : Nat) (fb : M PD) : M PD := bnd (getL i) fun _ => bnd fb fun y => bnd (getL i) fun xs => ofO (bD g (.list xs) y)
theorem de_ocmp {op : CmpOp} {g : PD → PD → Option Bool} (ho : OpR X (compareOp op) (rB X.K g)) (hm : behindInMarks op b = false) (ha : PE X a (tVar i)) (hb : DE X w b fb) : DE X w (.Compare a [op] [b] pos) (ocmp g i fb) :=
  (pe_cmpR ho ha hb hm).weak fun σ H Q ⟨O, ds, s, q⟩ => by
  obtain ⟨xs0, p, vs0, e0, e1, _, h10, _, q⟩ := q.getL s
  refine ⟨_, e1, O, ds, s, RdK.bind q fun y u H2 O2 ds2 p2 rv2 h2 => ?_⟩
  obtain ⟨xs, p', vs, e3, e4, ho', h1, h2', h3⟩ := h2.getL p2.sat
  rw [e1] at e4; cases e4
  unfold bD at h3
  cases eg : g (.list xs) y with
  | none => rw [eg] at h3; exact h3.elim
  | some k =>
    rw [eg] at h3
    exact ⟨.list xs, y, k, .lst h1 (DqAll.mono hid_ext _ _ h2'), Dq.mono hid_ext _ _ rv2, eg, RdK.dat_here p2.sat h3 (.bl k)⟩
/-- x[e] = .., x an own list -/
def gOix (i : Nat) (fe : M PD) (d : PD) : M Unit := bnd (getL i) fun _ => bnd fe fun y => bnd (getL i) fun xs => match y with
  | .int k => (match ixN xs.length k with
    | some j => setC i (.lst (xs.set j d))
    | none => stuck)
  | _ => stuck
theorem RdK.bindG {K : Fg} {O : Ow} {σ : L2.St} {H : Hp} {ds : DS} {f : M α} {g : α → M Unit} {Q : L2.St → Hp → Prop} (h : RdG K w P O σ H ds (bnd f g ds) Q) {Q1 : VK}
    (k : ∀ a v H1 O1 ds1, Post K nk O O1 σ σ H H1 ds ds1 → RvOk K H O1 σ H1 ds1 v (tr a) → RdG K w P O1 σ H1 ds1 (g a ds1) Q → Q1 v H1) : RdK K w tr O σ H ds (f ds) Q1 := by
  unfold bnd at h
  cases e : f ds with
  | ok a ds' => rw [e] at h; exact fun v H' O' q rv => k a v H' O' ds' q rv (RdG.pre q.anyP h)
  | ex x ds' => rw [e] at h; exact RdXS.x h
  | err => rw [e] at h; exact h
theorem RdG.getL {K : Fg} {O : Ow} {σ : L2.St} {H : Hp} {ds : DS} {g : List PD → M Unit} {Q : L2.St → Hp → Prop} (s : Sat K O σ H ds) (h : RdG K w P O σ H ds (bnd (getL i) g ds) Q) :
    ∃ xs p vs, ds[i]? = some (some (.own (.lst xs))) ∧ σ[i]? = some (some (.ref p)) ∧ O p = true ∧ H p = some (.lst vs) ∧ DqAll K (hid O H) vs xs ∧ RdG K w P O σ H ds (g xs ds) Q := by
  unfold bnd at h
  cases e : DL.getL i ds with
  | ok xs ds' =>
    rw [e] at h
    obtain ⟨e1, rfl⟩ := getL_ok e
    obtain ⟨p, e2, ho, vs, h1, h2⟩ := s.ownSlot e1
    exact ⟨xs, p, vs, e1, e2, ho, h1, h2, h⟩
  | ex x ds' => exact (getL_ex e).elim
  | err => rw [e] at h; exact h.elim
theorem dg_oix (ha : PE X a (tVar i)) (hb : DE X w b fb)
    (hasg : ∀ v, assign (.Subscript a b pos) X.env v = (do
      let ov ← holding [v] (eval a X.env)
      let iv ← holding [v, ov] (eval b X.env)
      standAt pos
      holding [v, ov, iv] (setItem ov iv v)
      release [v, ov, iv] []) := by intro _; rfl) : DG X w P (.Subscript a b pos) (gOix i fb) := (pg_sub ha hb set_list hasg).weak fun v σ H Q ⟨O, ds, d, s, hd, q⟩ => by
  obtain ⟨xs0, p, vs0, e0, e1, _, h10, _, q⟩ := q.getL s
  refine ⟨_, e1, O, ds, s, RdK.bindG q fun y u H2 O2 ds2 p2 rv2 h2 => ?_⟩
  obtain ⟨xs, p', vs, e3, e4, ho', h1, h2', h3⟩ := h2.getL p2.sat
  rw [e1] at e4; cases e4
  cases y with
  | int k =>
    cases rv2
    dsimp only at h3
    cases ej : ixN xs.length k with
    | none => rw [ej] at h3; exact h3.elim
    | some j =>
      rw [ej] at h3
      have h3 : RdG X.K w P O2 σ H2 ds2 (.ok () (ds2.set i (some (.own (.lst (xs.set j d)))))) Q := h3
      have pp := Post.put (P := P) (c' := .lst (xs.set j d)) (o := .lst (vs.set j v)) p2.sat e3 e1 ho' ⟨_, upd_same, h2'.set j (Dq.mono p2.ext _ _ hd)⟩
      exact ⟨p, vs, k, j, rfl, rfl, h1, by rw [h2'.length]; exact ej, h3 _ _ _ pp⟩
  | _ => exact h3.elim
end
end DL

namespace DL
open PySem PySem.Spec PyProof.Rows L2

/-! ### dicts with keys ints and texts, by data -/
def keyOf : PD → Option Key
  | .int i => some (.inl i)
  | .str x => some (.inr x)
  | _ => none
theorem keyOf_keyD (k : Key) : keyOf (keyD k) = some k := by cases k <;> rfl
theorem keyOf_some {d : PD} {k : Key} (h : keyOf d = some k) : d = keyD k := by
  cases d <;> cases h <;> rfl
abbrev KvL := List (PD × PD)
def lookK (kvs : KvL) (k : Key) : Option PD := match kvs with
  | [] => none
  | (p, d) :: r => if keyOf p = some k then some d else lookK r k
def putD (kvs : KvL) (k : Key) (d : PD) : KvL := if (lookK kvs k).isSome = true then kvs.map (fun p => if keyOf p.1 = some k then (p.1, d) else p) else kvs ++ [(keyD k, d)]
def mergeD (kvs more : KvL) : KvL := more.foldl (fun acc p => match keyOf p.1 with
  | some k => putD acc k p.2
  | none => acc) kvs
section
variable {K : Fg} {H : Hp}
theorem DqKv.look {k : Key} : ∀ {ks : List (Key × V)} {kvs : KvL}, DqKv K H ks kvs → (∀ d, lookK kvs k = some d → ∃ v, valV ks k = some v ∧ Dq K H v d) ∧ (lookK kvs k = none → valV ks k = none)
  | [], _, .nil => ⟨fun d e => (by cases e), fun _ => rfl⟩
  | (k', v) :: ks, _, .cons (d := d') (kvs := kvs) h1 h2 => by
    have ih := DqKv.look (k := k) h2
    unfold lookK
    rw [keyOf_keyD]
    by_cases e : k' = k
    · subst e
      rw [if_pos rfl]
      exact ⟨fun d e => by cases e; exact ⟨v, valV_pos rfl, h1⟩, fun e => by cases e⟩
    · rw [if_neg (fun z => e (Option.some.inj z)), valV_neg (p := (k', v)) e]
      exact ih
theorem DqKv.look_isSome {k : Key} {ks : List (Key × V)} {kvs : KvL} (h : DqKv K H ks kvs) : (valV ks k).isSome = (lookK kvs k).isSome := by
  obtain ⟨h1, h2⟩ := h.look (k := k)
  cases e : lookK kvs k with
  | none => rw [h2 e]; rfl
  | some d => obtain ⟨v, e1, _⟩ := h1 d e; rw [e1]; rfl
theorem DqKv.repl {k : Key} {v : V} {d : PD} (hv : Dq K H v d) : ∀ {ks : List (Key × V)} {kvs : KvL}, DqKv K H ks kvs → DqKv K H (ks.map fun kv => if kv.1 = k then (kv.1, v) else kv) (kvs.map (fun p => if keyOf p.1 = some k then (p.1, d) else p))
  | [], _, .nil => .nil
  | (k', v') :: ks, _, .cons (d := d') (kvs := kvs) h1 h2 => by
    rw [List.map_cons, List.map_cons]
    show DqKv K H ((if k' = k then (k', v) else (k', v')) :: _) ((if keyOf (keyD k') = some k then (keyD k', d) else (keyD k', d')) :: _)
    rw [keyOf_keyD]
    by_cases e : k' = k
    · rw [if_pos e, if_pos (by rw [e])]; exact .cons hv (h2.repl hv)
    · rw [if_neg e, if_neg (fun z => e (Option.some.inj z))]; exact .cons h1 (h2.repl hv)
theorem DqKv.append1 {k : Key} {v : V} {d : PD} (hv : Dq K H v d) : ∀ {ks : List (Key × V)} {kvs : KvL}, DqKv K H ks kvs → DqKv K H (ks ++ [(k, v)]) (kvs ++ [(keyD k, d)])
  | [], _, .nil => .cons hv .nil
  | _ :: _, _, .cons h1 h2 => .cons h1 (h2.append1 hv)
theorem DqKv.put {k : Key} {v : V} {d : PD} {ks : List (Key × V)} {kvs : KvL} (h : DqKv K H ks kvs) (hv : Dq K H v d) : DqKv K H (putK ks k v) (putD kvs k d) := by
  unfold putK putD
  rw [valV_any, h.look_isSome]
  by_cases e : (lookK kvs k).isSome = true
  · rw [if_pos e, if_pos e]; exact h.repl hv
  · rw [if_neg e, if_neg e]; exact h.append1 hv
theorem DqKv.length : ∀ {ks : List (Key × V)} {kvs : KvL}, DqKv K H ks kvs → ks.length = kvs.length
  | [], _, .nil => rfl
  | _ :: _, _, .cons _ h => by simp [h.length]
theorem DqKv.merge : ∀ {more : List (Key × V)} {mores : KvL} {ks : List (Key × V)} {kvs : KvL}, DqKv K H more mores → DqKv K H ks kvs → DqKv K H (mergeK ks more) (mergeD kvs mores)
  | [], _, _, _, .nil, h => h
  | (k, v) :: more, _, ks, kvs, .cons (d := d) (kvs := mores) h1 h2, h => by
    show DqKv K H (mergeK (putK ks k v) more) (mergeD (match keyOf (keyD k) with | some k => putD kvs k d | none => kvs) mores)
    rw [keyOf_keyD]
    exact h2.merge (h.put h1)
theorem DqKv.get {ks : List (Key × V)} {kvs : KvL} (h : DqKv K H ks kvs) : ∀ {i : Nat} {p d : PD}, kvs[i]? = some (p, d) → ∃ k v, ks[i]? = some (k, v) ∧ p = keyD k ∧ Dq K H v d := by
  induction kvs generalizing ks with
  | nil => intro i p d e; simp at e
  | cons x kvs ih =>
    cases h with
    | cons h1 h2 =>
      intro i p d e
      cases i with
      | zero => simp at e; obtain ⟨rfl, rfl⟩ := e; exact ⟨_, _, rfl, rfl, h1⟩
      | succ i => simpa using ih h2 (by simpa using e)
end
theorem keyOf_dq {K : Fg} {H : Hp} {v : V} {d : PD} {k : Key} (h : Dq K H v d) (e : keyOf d = some k) : v = kV k := by
  cases h <;> cases e <;> rfl
theorem dq_key {K : Fg} {H : Hp} (k : Key) : Dq K H (kV k) (keyD k) := by
  cases k with
  | inl i => exact .int i
  | inr x => exact .str x

/-! own dicts -/
def getDc (i : Nat) : M KvL := fun ds => match ds[i]? with
  | some (some (.own (.dic kvs))) => .ok kvs ds
  | _ => .err
theorem getDc_ok {i : Nat} {ds ds' : DS} {kvs : KvL} (h : getDc i ds = .ok kvs ds') : ds[i]? = some (some (.own (.dic kvs))) ∧ ds' = ds := by
  unfold getDc at h
  split at h
  · rename_i ys e; cases h; exact ⟨e, rfl⟩
  · cases h
theorem getDc_ex {i : Nat} {ds ds' : DS} {x : Ex} (h : getDc i ds = .ex x ds') : False := by
  unfold getDc at h
  split at h <;> cases h
section
variable {α β : Type} {tr : α → RV} {i : Nat} {P : Nat → Bool} {w : Wi}
section
variable {K : Fg} {O : Ow} {σ : L2.St} {H : Hp} {ds : DS} {Q : VK}
theorem RdK.getDc {g : KvL → M α} (s : Sat K O σ H ds) (h : RdK K w tr O σ H ds (bnd (getDc i) g ds) Q) :
    ∃ kvs p ks, ds[i]? = some (some (.own (.dic kvs))) ∧ σ[i]? = some (some (.ref p)) ∧ O p = true ∧ H p = some (.dK ks) ∧ DqKv K (hid O H) ks kvs ∧ RdK K w tr O σ H ds (g kvs ds) Q := by
  unfold bnd at h
  cases e : DL.getDc i ds with
  | ok xs ds' =>
    rw [e] at h
    obtain ⟨e1, rfl⟩ := getDc_ok e
    obtain ⟨p, e2, ho, ks, h1, h2⟩ := s.ownSlot e1
    exact ⟨xs, p, ks, e1, e2, ho, h1, h2, h⟩
  | ex x ds' => exact (getDc_ex e).elim
  | err => rw [e] at h; exact h.elim
theorem RdS.getDc {g : KvL → M Out} {D : Ends} (s : Sat K O σ H ds) (h : RdS K w P O σ H ds (bnd (getDc i) g ds) D) :
    ∃ kvs p ks, ds[i]? = some (some (.own (.dic kvs))) ∧ σ[i]? = some (some (.ref p)) ∧ O p = true ∧ H p = some (.dK ks) ∧ DqKv K (hid O H) ks kvs ∧ RdS K w P O σ H ds (g kvs ds) D := by
  unfold bnd at h
  cases e : DL.getDc i ds with
  | ok xs ds' =>
    rw [e] at h
    obtain ⟨e1, rfl⟩ := getDc_ok e
    obtain ⟨p, e2, ho, ks, h1, h2⟩ := s.ownSlot e1
    exact ⟨xs, p, ks, e1, e2, ho, h1, h2, h⟩
  | ex x ds' => exact (getDc_ex e).elim
  | err => rw [e] at h; exact h.elim
end
/-- a reading that begins behind some steps -/
theorem RdK.bindP {K : Fg} {O O0 : Ow} {σ : L2.St} {H H0 : Hp} {ds ds0 : DS} {Q : VK} {tr' : β → RV} {f : M α} {g : α → M β} (p0 : Post K nk O O0 σ σ H H0 ds ds0) (h : RdK K w tr' O σ H ds (bnd f g ds0) Q) {Q1 : VK}
    (k : ∀ a v H1 O1 ds1, Post K nk O0 O1 σ σ H0 H1 ds0 ds1 → RvOk K H0 O1 σ H1 ds1 v (tr a) → RdK K w tr' O σ H ds (g a ds1) Q → Q1 v H1) : RdK K w tr O0 σ H0 ds0 (f ds0) Q1 := by
  unfold bnd at h
  cases e : f ds0 with
  | ok a ds' => rw [e] at h; exact fun v H' O' q rv => k a v H' O' ds' q rv h
  | ex x ds' => rw [e] at h; exact RdX.pre p0 h
  | err => rw [e] at h; exact h
variable {X : Cx} {a b e f : Expr} {pos : Pos} {fa fb fc : M PD}
/-- {} -/
def dnew : M Cn := ret (.dic [])
theorem oe_dnew : OE X w (.Dict [] [] pos) dnew := pe_dnewK.weak fun σ H Q ⟨O, ds, s, q⟩ p hp => q.own_fresh s hp (ext_upd hp) upd_nn ⟨[], upd_same, .nil⟩
/-- {k: v} -/
def dnew1 (fk fv : M PD) : M Cn := bnd fk fun k => bnd fv fun v => ofO ((keyOf k).map fun k => .dic [(keyD k, v)])
theorem oe_dnew1 (ha : DE X w a fa) (hb : DE X w b fb) : OE X w (.Dict [some a] [b] pos) (dnew1 fa fb) := (pe_disp (pps_cons ha hb pps_nil) rfl rfl (by simp) (by simp)).weak fun σ H Q ⟨O, ds, s, q⟩ p hp => by
  obtain ⟨pf, nI⟩ := Post.fresh (P := nk) (H' := upd H p (.dK [])) s hp (ext_upd hp) upd_nn
  have hpO : own1 O p p = true := by unfold own1; rw [if_pos rfl]
  refine ⟨own1 O p, ds, pf.sat, RdK.bindP pf q fun x v H1 O1 ds1 p1 rv h1 => ⟨O1, ds1, p1.sat, RdK.bindP (pf.trans p1) h1 fun y u H2 O2 ds2 p2 rv2 h2 => ?_⟩⟩
  obtain ⟨o1, e1⟩ := p1.frn p hpO nI
  have n1 : ¬ IsOwn σ ds1 p := fun z => (p1.own p z).elim (fun t => by rw [hpO] at t; cases t) nI
  obtain ⟨o2, e2⟩ := p2.frn p o1 n1
  have n2 : ¬ IsOwn σ ds2 p := fun z => (p2.own p z).elim (fun t => by rw [o1] at t; cases t) n1
  refine ⟨by rw [e2, e1, upd_same], ?_⟩
  cases ek : keyOf x with
  | none => rw [ek] at h2; exact h2.elim
  | some k =>
    rw [ek] at h2
    have ev := keyOf_dq rv ek
    subst ev
    refine ⟨[(k, u)], rfl, by simp, ?_⟩
    have h2 : RdK X.K w RV.own O σ H ds (.ok (.dic [(keyD k, y)]) ds2) Q := h2
    have pp := ((pf.trans p1).trans p2).wr (o := .dK (mergeK [] [(k, u)])) s hp o2 n2
    exact h2 _ _ _ pp ⟨p, rfl, hp, o2, n2, [(k, u)], upd_same, by rw [hid_upd o2]; exact .cons rv2 .nil⟩
/-- d[k] -/
def odget (i : Nat) (fk : M PD) : M PD := bnd (getDc i) fun _ => bnd fk fun y => bnd (getDc i) fun kvs => ofO ((keyOf y).bind (lookK kvs))
theorem hu1 {X : Cx} (hu : X.A.units + 65 < cLine) : X.A.units + 1 < cLine := by omega
theorem de_odget (hu : X.A.units + 65 < cLine) (ha : PE X a (tVar i)) (hb : DE X w b fb) (hs : NoSl b := by exact fun _ _ => rfl) : DE X w (.Subscript a b pos) (odget i fb) := (pe_dget (hu1 hu) ha hb hs).weak fun σ H Q ⟨O, ds, s, q⟩ => by
  obtain ⟨_, p, _, e0, e1, _, _, _, q⟩ := q.getDc s
  refine ⟨_, e1, O, ds, s, RdK.bind q fun y u H2 O2 ds2 p2 rv2 h2 => ?_⟩
  obtain ⟨kvs, p', ks, e3, e4, ho', h1, h2', h3⟩ := h2.getDc p2.sat
  rw [e1] at e4; cases e4
  cases ek : keyOf y with
  | none => rw [ek] at h3; exact h3.elim
  | some k =>
    rw [ek] at h3
    have ev := keyOf_dq rv2 ek
    subst ev
    cases el : lookK kvs k with
    | none => 
      have h3 : RdK X.K w RV.dat O2 σ H2 ds2 (ofO (lookK kvs k) ds2) Q := h3
      rw [el] at h3; exact h3.elim
    | some d =>
      have h3 : RdK X.K w RV.dat O2 σ H2 ds2 (ofO (lookK kvs k) ds2) Q := h3
      rw [el] at h3
      obtain ⟨v, e5, hv⟩ := (h2'.look (k := k)).1 d el
      exact ⟨p, v, rfl, by rw [← e5]; exact DGet.k h1, RdK.dat_here p2.sat h3 hv⟩
/-- k in d, k not in d -/
def odin (neg : Bool) (i : Nat) (fk : M PD) : M PD := bnd fk fun y => bnd (getDc i) fun kvs => ofO ((keyOf y).map fun k => .bool ((lookK kvs k).isSome != neg))
theorem de_odin (hu : X.A.units + 65 < cLine) (hb : DE X w b fb) (ha : PE X a (tVar i)) (hm : behindInMarks .In a = false := by rfl) : DE X w (.Compare b [.In] [a] pos) (odin false i fb) := (pe_cmp (pc_din (hu1 hu) hb ha) hm).weak fun σ H Q ⟨O, ds, s, q⟩ => by
  refine ⟨O, ds, s, RdK.bind q fun y u H2 O2 ds2 p2 rv2 h2 => ?_⟩
  obtain ⟨kvs, p, ks, e3, e4, ho', h1, h2', h3⟩ := h2.getDc p2.sat
  cases ek : keyOf y with
  | none => rw [ek] at h3; exact h3.elim
  | some k =>
    rw [ek] at h3
    have ev := keyOf_dq rv2 ek
    subst ev
    refine ⟨_, e4, p, _, rfl, DGet.k h1, ?_⟩
    rw [h2'.look_isSome]
    have h3 : RdK X.K w RV.dat O2 σ H2 ds2 (.ok (.bool ((lookK kvs k).isSome != false)) ds2) Q := h3
    rw [Bool.bne_false] at h3
    exact RdK.dat_here p2.sat h3 (.bl _)
theorem de_odnotin (hu : X.A.units + 65 < cLine) (hb : DE X w b fb) (ha : PE X a (tVar i)) (hm : behindInMarks .NotIn a = false := by rfl) : DE X w (.Compare b [.NotIn] [a] pos) (odin true i fb) := (pe_cmp (pc_dnotin (hu1 hu) hb ha) hm).weak fun σ H Q ⟨O, ds, s, q⟩ => by
  refine ⟨O, ds, s, RdK.bind q fun y u H2 O2 ds2 p2 rv2 h2 => ?_⟩
  obtain ⟨kvs, p, ks, e3, e4, ho', h1, h2', h3⟩ := h2.getDc p2.sat
  cases ek : keyOf y with
  | none => rw [ek] at h3; exact h3.elim
  | some k =>
    rw [ek] at h3
    have ev := keyOf_dq rv2 ek
    subst ev
    refine ⟨_, e4, p, _, rfl, DGet.k h1, ?_⟩
    rw [h2'.look_isSome]
    have h3 : RdK X.K w RV.dat O2 σ H2 ds2 (.ok (.bool ((lookK kvs k).isSome != true)) ds2) Q := h3
    rw [Bool.bne_true] at h3
    exact RdK.dat_here p2.sat h3 (.bl _)
/-- d.get(k), d.get(k, e) -/
def odgetn (i : Nat) (fk : M PD) : M PD := bnd (getDc i) fun _ => bnd fk fun y => bnd (getDc i) fun kvs => ofO ((keyOf y).map fun k => (lookK kvs k).getD .none)
theorem de_odgetn {apos : Pos} (hu : X.A.units + 65 < cLine) (ha : PE X a (tVar i)) (hb : DE X w b fb) (m : M1 X a "get" apos b pos := by exact ⟨rfl, rfl, rfl, rfl⟩) : DE X w (.Call (.Attribute a "get" apos) [b] [] pos) (odgetn i fb) := (pe_dget1 (hu1 hu) ha hb m).weak fun σ H Q ⟨O, ds, s, q⟩ => by
  obtain ⟨_, p, _, e0, e1, _, h0, _, q⟩ := q.getDc s
  refine ⟨_, e1, p, rfl, .inl ⟨_, .inl h0⟩, O, ds, s, RdK.bind q fun y u H2 O2 ds2 p2 rv2 h2 => ?_⟩
  obtain ⟨kvs, p', ks, e3, e4, ho', h1, h2', h3⟩ := h2.getDc p2.sat
  rw [e1] at e4; cases e4
  cases ek : keyOf y with
  | none => rw [ek] at h3; exact h3.elim
  | some k =>
    rw [ek] at h3
    have ev := keyOf_dq rv2 ek
    subst ev
    refine ⟨_, DGet.k h1, ?_⟩
    have h3 : RdK X.K w RV.dat O2 σ H2 ds2 (.ok ((lookK kvs k).getD .none) ds2) Q := h3
    obtain ⟨g1, g2⟩ := h2'.look (k := k)
    cases el : lookK kvs k with
    | none => rw [el] at h3; rw [g2 el]; exact RdK.dat_here p2.sat h3 .non
    | some d => rw [el] at h3; obtain ⟨v, e5, hv⟩ := g1 d el; rw [e5]; exact RdK.dat_here p2.sat h3 hv
def odgetd (i : Nat) (fk fd : M PD) : M PD := bnd (getDc i) fun _ => bnd fk fun y => bnd fd fun z => bnd (getDc i) fun kvs => ofO ((keyOf y).map fun k => (lookK kvs k).getD z)
theorem de_odgetd {apos : Pos} (hu : X.A.units + 65 < cLine) (ha : PE X a (tVar i)) (hb : DE X w b fb) (hc : DE X w e fc) (m : M2 X a "get" apos b e pos := by exact ⟨rfl, rfl, rfl, rfl⟩) : DE X w (.Call (.Attribute a "get" apos) [b, e] [] pos) (odgetd i fb fc) := (pe_dget2 (hu1 hu) ha hb hc m).weak fun σ H Q ⟨O, ds, s, q⟩ => by
  obtain ⟨_, p, _, e0, e1, _, h0, _, q⟩ := q.getDc s
  refine ⟨_, e1, p, rfl, .inl ⟨_, .inl h0⟩, O, ds, s, RdK.bind q fun y u H2 O2 ds2 p2 rv2 h2 => ⟨O2, ds2, p2.sat, RdK.bind h2 fun z uz H3 O3 ds3 p3 rv3 h3 => ?_⟩⟩
  obtain ⟨kvs, p', ks, e3, e4, ho', h1, h2', h3⟩ := h3.getDc p3.sat
  rw [e1] at e4; cases e4
  cases ek : keyOf y with
  | none => rw [ek] at h3; exact h3.elim
  | some k =>
    rw [ek] at h3
    have ev := keyOf_dq rv2 ek
    subst ev
    refine ⟨_, DGet.k h1, ?_⟩
    have h3 : RdK X.K w RV.dat O3 σ H3 ds3 (.ok ((lookK kvs k).getD z) ds3) Q := h3
    obtain ⟨g1, g2⟩ := h2'.look (k := k)
    cases el : lookK kvs k with
    | none => rw [el] at h3; rw [g2 el]; exact RdK.dat_here p3.sat h3 rv3
    | some d => rw [el] at h3; obtain ⟨v, e5, hv⟩ := g1 d el; rw [e5]; exact RdK.dat_here p3.sat h3 hv
/-- d[k] = e -/
def odput (i : Nat) (fk fv : M PD) : M Out := bnd fv fun x => bnd (getDc i) fun _ => bnd fk fun y => bnd (getDc i) fun kvs => match keyOf y with
  | some k => if kvs.length < lim then bnd (setC i (.dic (putD kvs k x))) fun _ => nxt else stuck
  | none => stuck
theorem ds_odput {pos' : Pos} (hu : X.A.units + 65 < cLine) (ha : PE X a (tVar i)) (hb : DE X w b fb) (hv : DE X w e fc) (hs : swapsWith e (some (.Subscript a b pos')) pos.line X.env = pure false := by rfl) : DS' X w P (.Assign [.Subscript a b pos'] e pos) (odput i fb fc) :=
  (ps_dput (hu1 hu) ha hb hv hs).weak fun D σ H ⟨O, ds, s, q⟩ => by
  refine ⟨O, ds, s, RdK.bindS q fun x v H1 O1 ds1 p1 rv1 h1 => ?_⟩
  obtain ⟨_, p, _, _, e1, _, _, _, q⟩ := h1.getDc p1.sat
  refine ⟨_, e1, O1, ds1, p1.sat, RdK.bindS q fun y u H2 O2 ds2 p2 rv2 h2 => ?_⟩
  obtain ⟨kvs, p', ks, e3, e4, ho', h1, h2', h3⟩ := h2.getDc p2.sat
  rw [e1] at e4; cases e4
  cases ek : keyOf y with
  | none => rw [ek] at h3; exact h3.elim
  | some k =>
    rw [ek] at h3
    have ev := keyOf_dq rv2 ek
    subst ev
    dsimp only at h3
    by_cases hl : kvs.length < lim
    · rw [if_pos hl] at h3
      have h3 : RdS X.K w P O2 σ H2 ds2 (.ok .nx (ds2.set i (some (.own (.dic (putD kvs k x)))))) D := h3
      have pp := Post.put (P := P) (c' := .dic (putD kvs k x)) (o := .dK (putK ks k v)) p2.sat e3 e1 ho' ⟨_, upd_same, h2'.put (Dq.mono p2.ext _ _ rv1)⟩
      exact ⟨p, _, rfl, DPut.k h1 (by rw [h2'.length]; exact lt_line hl), h3 _ _ _ pp⟩
    · rw [if_neg hl] at h3; exact h3.elim

/-- d.update(e), e a fresh dict -/
def rUpd : V → List V → Hp → VK → Prop := fun x vs H Q => ∃ (a b : Addr) (ks more : List (Key × V)), x = .ref a ∧ vs = [.ref b] ∧ a ≠ b ∧ H a = some (.dK ks) ∧ H b = some (.dK more) ∧ ks.length + more.length ≤ sizeLine ∧ Q .non (upd H a (.dK (mergeK ks more)))
theorem mt_dupd : MtR X "dict.update" rUpd := by
  intro pins s σ H x vs v us Q I rx rv h
  obtain ⟨a, b, ks, more, rfl, rfl, ne, hA, hB, hz, q⟩ := h
  cases rx
  obtain ⟨u, rfl, ru⟩ := rv.one
  cases ru
  obtain ⟨z, hd, vs, rel, dd⟩ := dk_of I.hok hA
  obtain ⟨z2, hd2, vs2, rel2, dd2⟩ := dk_of I.hok hB
  have l1 : ks.length = vs.length := Paired.length rel
  have l2 : more.length = vs2.length := Paired.length rel2
  refine call_meetsIn PySem.F.slot_dict_update dd.typeIs PySem.F.entry_dict_update (PySem.F.args_dict_update_2 _ _) (meets_dict_update (mixKind X.prog X.w) a b ne hd2) ⟨vs, vs2, dd, dd2, by omega, fun h' dd' _ hs => ?_⟩
  have he : ∃ q, h'.get? a = some q := let ⟨q, _, _, hq, _⟩ := dd'; ⟨q, hq⟩
  have hl : (mergeK ks more).length ≤ sizeLine := by have := length_mergeK more ks; omega
  exact ⟨.non, _, d_write I (by rw [hA]; exact True.intro) hs he (dk_new hl hd (rel2.merge rel) dd'), rfl, q⟩
def updM (i : Nat) (fe : M Cn) : M PD := bnd (getDc i) fun _ => bnd fe fun c => bnd (getDc i) fun kvs => match c with
  | .dic more => if kvs.length + more.length ≤ lim then bnd (setC i (.dic (mergeD kvs more))) fun _ => ret .none else stuck
  | _ => stuck
theorem de_update {apos : Pos} {fe : M Cn} (ha : PE X a (tVar i)) (he : OE X w e fe) (ns : NS X e := by exact fun _ => rfl) 
    (hbase : attributeBase a "update" X.env (eval a X.env) = eval a X.env := by rfl)
    (hfew : ((backTo pos (starEach [e] X.env)).all (fun x => !x.1) && (backToKw pos (keywordEach [] X.env)).all (fun x => x.1.isSome)
      && decide (([e] : List Expr).length + ([] : List Keyword).length + (if ([] : List Keyword).isEmpty then 0 else 1) < 30)) = true := by rfl)
    (hline : (apos.endLine == pos.line) = true := by rfl) : DE X w (.Call (.Attribute a "update" apos) [e] [] pos) (updM i fe) :=
  (pe_bm PySem.F.plainAttrs_dict PySem.F.slot_dict_update PySem.F.type_dict_update mt_dupd ha (pa_one he ns) hbase hfew hline (ns []) rfl).weak fun σ H Q ⟨O, ds, s, q⟩ => by
  obtain ⟨_, p, _, e0, e1, _, h0, _, q⟩ := q.getDc s
  refine ⟨_, e1, .inr (.inr (.inl ⟨rfl, .inl ⟨_, h0⟩⟩)), O, ds, s, RdK.bind q fun c u H2 O2 ds2 p2 rv2 h2 => ?_⟩
  obtain ⟨kvs, p', ks, e3, e4, ho', h1, h2', h3⟩ := h2.getDc p2.sat
  rw [e1] at e4; cases e4
  cases c with
  | dic more =>
    obtain ⟨b, rfl, hb0, hbO, hbn, mk, hB, hm⟩ := rv2
    dsimp only at h3
    by_cases hl : kvs.length + more.length ≤ lim
    · rw [if_pos hl] at h3
      have h3 : RdK X.K w RV.dat O2 σ H2 ds2 (.ok .none (ds2.set i (some (.own (.dic (mergeD kvs more)))))) Q := h3
      have pp := Post.put (P := nk) (c' := .dic (mergeD kvs more)) (o := .dK (mergeK ks mk)) p2.sat e3 e1 ho' ⟨_, upd_same, hm.merge h2'⟩
      exact ⟨p, b, ks, mk, rfl, rfl, fun z => hbn ⟨i, by rw [← z]; exact ⟨⟨_, e3⟩, e1⟩⟩, h1, hB, by rw [h2'.length, hm.length]; exact le_line hl, h3 _ _ _ pp .non⟩
    · rw [if_neg hl] at h3; exact h3.elim
  | _ => exact h3.elim
end
end DL

namespace DL
open PySem PySem.Spec PyProof.Rows L2

/-! ### several values -/
def RV.isOwn : RV → Bool
  | .own _ => true
  | _ => false
section
variable {K : Fg} {P : Nat → Bool} {O O1 O2 : Ow} {σ σ1 : L2.St} {H H1 H2 : Hp} {ds ds1 ds2 : DS}
def RvAll (K : Fg) (H : Hp) (O' : Ow) (σ : L2.St) (H' : Hp) (ds' : DS) : List V → List RV → Prop
  | [], [] => True
  | v :: vs, r :: rs => RvOk K H O' σ H' ds' v r ∧ (r.isOwn = true → ∀ v' ∈ vs, v' = v → ∀ r' ∈ rs, r'.isOwn = true → (v', r') ∈ vs.zip rs → False) ∧ RvAll K H O' σ H' ds' vs rs
  | _, _ => False
theorem RvAll.length : ∀ {vs : List V} {rs : List RV}, RvAll K H O1 σ H1 ds1 vs rs → vs.length = rs.length
  | [], [], _ => rfl
  | _ :: _, _ :: _, h => by simp [h.2.2.length]
  | [], _ :: _, h => h.elim
  | _ :: _, [], h => h.elim
theorem RvAll.pre (o : ∀ a, H a ≠ none → H2 a ≠ none) : ∀ {vs : List V} {rs : List RV}, RvAll K H2 O1 σ H1 ds1 vs rs → RvAll K H O1 σ H1 ds1 vs rs
  | [], [], _ => trivial
  | _ :: _, _ :: _, h => ⟨h.1.pre o, h.2.1, h.2.2.pre o⟩
  | [], _ :: _, h => h.elim
  | _ :: _, [], h => h.elim
theorem RvAll.move (p : Post K P O1 O2 σ σ1 H1 H2 ds1 ds2) : ∀ {vs : List V} {rs : List RV}, RvAll K H O1 σ H1 ds1 vs rs → RvAll K H O2 σ1 H2 ds2 vs rs
  | [], [], _ => trivial
  | _ :: _, _ :: _, h => ⟨h.1.move p, h.2.1, h.2.2.move p⟩
  | [], _ :: _, h => h.elim
  | _ :: _, [], h => h.elim
/-- own ones are among the new -/
theorem RvAll.fresh : ∀ {vs : List V} {rs : List RV} {v : V} {r : RV}, RvAll K H O1 σ H1 ds1 vs rs → (v, r) ∈ vs.zip rs → RvOk K H O1 σ H1 ds1 v r
  | [], _, _, _, _, m => by cases m
  | _ :: _, [], _, _, _, m => by cases m
  | v' :: vs, r' :: rs, v, r, h, m => by
    rcases List.mem_cons.mp m with e | m
    · cases e; exact h.1
    · exact h.2.2.fresh m
/-- a result is stored, from any slots -/
theorem Post.storeS {r : RV} {v : V} {i : Nat} (s : Sat K O σ H ds) (p : Post K P O O1 σ σ1 H H1 ds ds1) (rv : RvOk K H O1 σ1 H1 ds1 v r) (hi : P i = false) : Post K P O O1 σ (σ1.set i (some v)) H H1 ds (ds1.set i (some r)) := by
  have hl := p.sat.len
  have own_at : ∀ j a, OwnAt (σ1.set i (some v)) (ds1.set i (some r)) j a → (j = i ∧ H a = none ∧ O1 a = true ∧ ¬ IsOwn σ1 ds1 a) ∨ (j ≠ i ∧ OwnAt σ1 ds1 j a) := by
    rintro j a ⟨⟨c, e1⟩, e2⟩
    by_cases hj : j = i
    · subst hj
      refine .inl ⟨rfl, ?_⟩
      have hlt : j < ds1.length := by
        have := (List.getElem?_eq_some_iff.mp e1).1
        simpa using this
      rw [List.getElem?_set_self hlt] at e1
      rw [List.getElem?_set_self (by omega)] at e2
      cases e1
      cases e2
      obtain ⟨b, e, h0, h1, n, _⟩ := rv
      cases e
      exact ⟨h0, h1, n⟩
    · rw [List.getElem?_set_ne (Ne.symm hj)] at e1 e2
      exact .inr ⟨hj, ⟨c, e1⟩, e2⟩
  refine ⟨⟨by simp [hl], fun j r' e => ?_, fun j k a h1 h2 => ?_, p.sat.trk⟩, p.ext, p.frn, fun a ⟨j, h⟩ => ?_, fun j hj => ?_, by simp [p.lenk], p.old⟩
  · by_cases hj : j = i
    · subst hj
      have hlt : j < ds1.length := by
        have := (List.getElem?_eq_some_iff.mp e).1
        simpa using this
      rw [List.getElem?_set_self hlt] at e
      cases e
      refine ⟨v, List.getElem?_set_self (by omega), ?_⟩
      cases r with
      | dat d => exact rv
      | own c => obtain ⟨a, e, _, h1, _, hc⟩ := rv; exact ⟨a, e, h1, hc⟩
      | scr ns => exact rv
      | lck kvs => exact rv.elim
    · rw [List.getElem?_set_ne (Ne.symm hj)] at e
      rw [List.getElem?_set_ne (Ne.symm hj)]
      exact p.sat.slot j r' e
  · rcases own_at j a h1 with ⟨rfl, _, _, n⟩ | ⟨n1, g1⟩
    · rcases own_at k a h2 with ⟨rfl, _⟩ | ⟨n2, g2⟩
      · rfl
      · exact absurd ⟨k, g2⟩ n
    · rcases own_at k a h2 with ⟨rfl, _, _, n⟩ | ⟨n2, g2⟩
      · exact absurd ⟨j, g1⟩ n
      · exact p.sat.inj j k a g1 g2
  · rcases own_at j a h with ⟨_, h0, _⟩ | ⟨_, g⟩
    · exact .inl (s.fresh h0)
    · exact p.own a ⟨j, g⟩
  · have : j ≠ i := fun e => by subst e; rw [hi] at hj; cases hj
    rw [List.getElem?_set_ne (Ne.symm this)]; exact p.keep j hj
/-- a value that is another than the stored one -/
theorem RvOk.stored {v v' : V} {r r' : RV} {i : Nat} (h : RvOk K H O1 σ H1 ds1 v' r') (hr : RvOk K H O1 σ H1 ds1 v r) (hl : σ.length = ds1.length) (ne : r.isOwn = true → r'.isOwn = true → v' ≠ v) : RvOk K H O1 (σ.set i (some v)) H1 (ds1.set i (some r)) v' r' := by
  cases r' with
  | dat d => exact h
  | own c =>
    obtain ⟨a, e, h0, h1, n, hc⟩ := h
    refine ⟨a, e, h0, h1, fun ⟨j, ⟨d, e1⟩, e2⟩ => ?_, hc⟩
    by_cases hj : j = i
    · subst hj
      have hlt : j < ds1.length := by
        have := (List.getElem?_eq_some_iff.mp e1).1
        simpa using this
      rw [List.getElem?_set_self hlt] at e1
      rw [List.getElem?_set_self (by omega)] at e2
      cases e1; cases e2
      exact ne rfl rfl e
    · rw [List.getElem?_set_ne (Ne.symm hj)] at e1 e2
      exact n ⟨j, ⟨d, e1⟩, e2⟩
  | scr ns => exact h
  | lck kvs => exact h
def setsV (σ : L2.St) : List Nat → List V → L2.St
  | i :: is, v :: vs => setsV (σ.set i (some v)) is vs
  | _, _ => σ
def setsD (ds : DS) : List Nat → List RV → DS
  | i :: is, r :: rs => setsD (ds.set i (some r)) is rs
  | _, _ => ds
theorem Post.storeAll (s : Sat K O σ H ds) : ∀ (is : List Nat) {vs : List V} {rs : List RV} {σ1 : L2.St} {ds1 : DS}, Post K P O O1 σ σ1 H H1 ds ds1 → RvAll K H O1 σ1 H1 ds1 vs rs → (is.all fun i => !P i) = true → Post K P O O1 σ (setsV σ1 is vs) H H1 ds (setsD ds1 is rs)
  | [], vs, rs, σ1, ds1, p, h, hi => by
    cases vs <;> cases rs <;> exact p
  | i :: is, [], [], σ1, ds1, p, h, hi => p
  | i :: is, v :: vs, r :: rs, σ1, ds1, p, h, hi => by
    rw [List.all_cons, Bool.and_eq_true] at hi
    have p1 := Post.storeS s p h.1 (by simpa using hi.1)
    refine Post.storeAll s is p1 ?_ hi.2
    have go : ∀ (vs' : List V) (rs' : List RV), (∀ x, x ∈ vs'.zip rs' → x ∈ vs.zip rs) → RvAll K H O1 σ1 H1 ds1 vs' rs' → RvAll K H O1 (σ1.set i (some v)) H1 (ds1.set i (some r)) vs' rs' := by
      intro vs'
      induction vs' with
      | nil => intro rs' _ h'; cases rs' with
        | nil => trivial
        | cons _ _ => exact h'.elim
      | cons v' vs' ih =>
        intro rs' hs h'
        cases rs' with
        | nil => exact h'.elim
        | cons r' rs' =>
          refine ⟨h'.1.stored h.1 p.sat.len fun o o' e => ?_, h'.2.1, ih rs' (fun x hx => hs x (List.mem_cons_of_mem _ hx)) h'.2.2⟩
          have m := hs (v', r') (List.mem_cons_self ..)
          exact h.2.1 o v' (List.of_mem_zip m).1 e r' (List.of_mem_zip m).2 o' m
    exact go vs rs (fun _ h => h) h.2.2
  | i :: is, [], _ :: _, _, _, _, h, _ => h.elim
  | i :: is, _ :: _, [], _, _, _, h, _ => h.elim
end
/-! argument lists of any values -/
def RdR (K : Fg) (w : Wi) (O : Ow) (σ : L2.St) (H : Hp) (ds : DS) (r : Rs (List RV)) (Q : List V → Hp → Prop) : Prop := match r with
  | .ok xs ds' => ∀ vs H' O', Post K nk O O' σ σ H H' ds ds' → RvAll K H O' σ H' ds' vs xs → Q vs H'
  | .ex x ds' => RdX K w O σ H ds x ds'
  | .err => False
def rdR (K : Fg) (w : Wi) (f : M (List RV)) : TA := fun σ H Q => ∃ O ds, Sat K O σ H ds ∧ RdR K w O σ H ds (f ds) Q
abbrev DR (X : Cx) (w : Wi) (es : List Expr) (f : M (List RV)) : Prop := PA X es (rdR X.K w f)
section
variable {X : Cx} {w : Wi} {a b e : Expr} {pos : Pos} {es : List Expr} {α : Type} {tr : α → RV} {P : Nat → Bool}
section
variable {K : Fg} {O O1 : Ow} {σ : L2.St} {H H1 : Hp} {ds ds1 : DS}
theorem RdR.pre {r : Rs (List RV)} {Q : List V → Hp → Prop} (p : Post K nk O O1 σ σ H H1 ds ds1) (h : RdR K w O σ H ds r Q) : RdR K w O1 σ H1 ds1 r Q := by
  cases r with
  | ok a ds' => exact fun vs H' O' q rv => h vs H' O' (p.trans q) (rv.pre p.old)
  | ex x ds' => exact RdX.pre p h
  | err => exact h
theorem RdK.bindR0 {f : M α} {g : α → M (List RV)} {Q : List V → Hp → Prop} (h : RdR K w O σ H ds (bnd f g ds) Q) {Q1 : VK}
    (k : ∀ a v H1 O1 ds1, Post K nk O O1 σ σ H H1 ds ds1 → RvOk K H O1 σ H1 ds1 v (tr a) → RdR K w O σ H ds (g a ds1) Q → Q1 v H1) : RdK K w tr O σ H ds (f ds) Q1 := by
  unfold bnd at h
  cases e : f ds with
  | ok a ds' => rw [e] at h; exact fun v H' O' q rv => k a v H' O' ds' q rv h
  | ex x ds' => rw [e] at h; exact h
  | err => rw [e] at h; exact h
/-- behind some steps -/
theorem RdR.bindRP {O0 : Ow} {H0 : Hp} {ds0 : DS} {f : M (List RV)} {g : List RV → M (List RV)} {Q : List V → Hp → Prop} (p0 : Post K nk O O0 σ σ H H0 ds ds0) (h : RdR K w O σ H ds (bnd f g ds0) Q) {Q1 : List V → Hp → Prop}
    (k : ∀ a vs H1 O1 ds1, Post K nk O0 O1 σ σ H0 H1 ds0 ds1 → RvAll K H0 O1 σ H1 ds1 vs a → RdR K w O σ H ds (g a ds1) Q → Q1 vs H1) : RdR K w O0 σ H0 ds0 (f ds0) Q1 := by
  unfold bnd at h
  cases e : f ds0 with
  | ok a ds' => rw [e] at h; exact fun vs H' O' q rv => k a vs H' O' ds' q rv h
  | ex x ds' => rw [e] at h; exact RdX.pre p0 h
  | err => rw [e] at h; exact h
theorem RdR.bindS0 {f : M (List RV)} {g : List RV → M Out} {D : Ends} (h : RdS K w P O σ H ds (bnd f g ds) D) {Q1 : List V → Hp → Prop}
    (k : ∀ a vs H1 O1 ds1, Post K nk O O1 σ σ H H1 ds ds1 → RvAll K H O1 σ H1 ds1 vs a → RdS K w P O σ H ds (g a ds1) D → Q1 vs H1) : RdR K w O σ H ds (f ds) Q1 := by
  unfold bnd at h
  cases e : f ds with
  | ok a ds' => rw [e] at h; exact fun vs H' O' q rv => k a vs H' O' ds' q rv h
  | ex x ds' => rw [e] at h; exact RdXS.x h
  | err => rw [e] at h; exact h
theorem RdR.bindK0 {β : Type} {tr' : β → RV} {f : M (List RV)} {g : List RV → M β} {Q : VK} (h : RdK K w tr' O σ H ds (bnd f g ds) Q) {Q1 : List V → Hp → Prop}
    (k : ∀ a vs H1 O1 ds1, Post K nk O O1 σ σ H H1 ds ds1 → RvAll K H O1 σ H1 ds1 vs a → RdK K w tr' O σ H ds (g a ds1) Q → Q1 vs H1) : RdR K w O σ H ds (f ds) Q1 := by
  unfold bnd at h
  cases e : f ds with
  | ok a ds' => rw [e] at h; exact fun vs H' O' q rv => k a vs H' O' ds' q rv h
  | ex x ds' => rw [e] at h; exact h
  | err => rw [e] at h; exact h
end
theorem dr_nil : DR X w [] (ret []) := pa_nil.weak fun σ H Q ⟨O, ds, s, q⟩ => q [] H O (Post.refl s) trivial
def consR (tr : α → RV) (f : M α) (g : M (List RV)) : M (List RV) := bnd f fun x => bnd g fun xs => ret (tr x :: xs)
theorem dr_cons {f : M α} {g : M (List RV)} (ha : PE X a (rd X.K w tr f)) (hr : DR X w es g) (hs : starEach (a :: es) X.env = (false, eval a X.env) :: starEach es X.env := by rfl) :
    DR X w (a :: es) (consR tr f g) := (pa_cons ha hr hs).weak fun σ H Q ⟨O, ds, s, q⟩ => by
  refine ⟨O, ds, s, RdK.bindR0 q fun x v H1 O1 ds1 p rv h1 => ⟨O1, ds1, p.sat, RdR.bindRP p h1 fun xs vs H2 O2 ds2 p2 hv h2 => ?_⟩⟩
  refine h2 (v :: vs) H2 O2 (p.trans p2) ⟨rv.move p2, fun o v' hv' e r' hr' o' m => ?_, hv.pre p.old⟩
  -- an own one of the later is new
  have f := hv.fresh m
  cases hx : tr x with
  | own c =>
    rw [hx] at rv
    obtain ⟨a1, e1, _, h1, _, _⟩ := rv
    cases r' with
    | own c' =>
      obtain ⟨a2, e2, h0, _⟩ := f
      have : a2 = a1 := by rw [e1, e2] at e; cases e; rfl
      subst this
      obtain ⟨ob, q⟩ := p.sat.trk _ h1
      rw [h0] at q; cases q
    | _ => cases o'
  | _ => rw [hx] at o; cases o
/-! ### a, b = x, y -/
def parM (is : List Nat) (f : M (List RV)) : M Out := bnd f fun rs => fun ds => if rs.length = is.length then .ok .nx (setsD ds is rs) else .err
theorem par_read {is : List Nat} {f : M (List RV)} {D : Ends} {σ : L2.St} {H : Hp} {O : Ow} {ds : DS} (s : Sat X.K O σ H ds) (q : RdS X.K w P O σ H ds (parM is f ds) D) (hP : (is.all fun i => !P i) = true) :
    RdR X.K w O σ H ds (f ds) fun vs H1 => vs.length = is.length ∧ D.nx (setsV σ is vs) H1 := by
  refine RdR.bindS0 q fun rs vs H1 O1 ds1 p rv q1 => ?_
  by_cases e : rs.length = is.length
  · simp only [if_pos e] at q1
    exact ⟨by rw [rv.length]; exact e, q1 _ H1 O1 (Post.storeAll s is p.anyP rv hP)⟩
  · simp only [if_neg e] at q1; exact q1.elim
theorem ds_par2 {i j : Nat} {st : Stmt} {f : M (List RV)} (h : ∀ {t : TA}, PA X [a, b] t → PS X st (tPar i j t)) (hf : DR X w [a, b] f) (hP : ([i, j].all fun i => !P i) = true := by rfl) : DS' X w P st (parM [i, j] f) := (h hf).weak fun D σ H ⟨O, ds, s, q⟩ => by
  refine ⟨O, ds, s, ?_⟩
  have := par_read s q hP
  revert this
  cases f ds with
  | ok rs ds1 =>
    intro this vs H' O' p rv
    obtain ⟨h1, h2⟩ := this vs H' O' p rv
    match vs, h1 with
    | [v, w], _ => exact ⟨v, w, rfl, h2⟩
  | ex x ds1 => exact fun h => h
  | err => exact fun h => h
theorem ds_par3 {i j l : Nat} {c : Expr} {st : Stmt} {f : M (List RV)} (h : ∀ {t : TA}, PA X [a, b, c] t → PS X st (tPar3 i j l t)) (hf : DR X w [a, b, c] f) (hP : ([i, j, l].all fun i => !P i) = true := by rfl) : DS' X w P st (parM [i, j, l] f) := (h hf).weak fun D σ H ⟨O, ds, s, q⟩ => by
  refine ⟨O, ds, s, ?_⟩
  have := par_read s q hP
  revert this
  cases f ds with
  | ok rs ds1 =>
    intro this vs H' O' p rv
    obtain ⟨h1, h2⟩ := this vs H' O' p rv
    match vs, h1 with
    | [v, w, u], _ => exact ⟨v, w, u, rfl, h2⟩
  | ex x ds1 => exact fun h => h
  | err => exact fun h => h
/-! four and more: the tuple is made -/
def gNames : List Nat → TGs
  | [] => gNil
  | i :: is => gCons (gName i) (gNames is)
theorem gNames_of {Q : L2.St → Hp → Prop} : ∀ {is : List Nat} {vs : List V} {σ : L2.St} {H : Hp}, vs.length = is.length → Q (setsV σ is vs) H → gNames is vs σ H Q
  | [], [], _, _, _, q => ⟨rfl, q⟩
  | i :: is, v :: vs, _, _, hl, q => ⟨v, vs, rfl, gNames_of (by simpa using hl) q⟩
theorem ds_parN {is : List Nat} {st : Stmt} {f : M (List RV)} {n : Nat} (h : ∀ {t : TA}, PA X es t → PS X st (tAsg (tTup t) (gTup X.K n (gNames is)))) (hf : DR X w es f) (hn : is.length = n) (hs : n ≤ 1000) (hP : (is.all fun i => !P i) = true := by rfl) : DS' X w P st (parM is f) := (h hf).weak fun D σ H ⟨O, ds, s, q⟩ => by
  refine ⟨O, ds, s, ?_⟩
  refine RdR.bindS0 q fun rs vs H1 O1 ds1 p rv q1 => ?_
  by_cases e : rs.length = is.length
  · simp only [if_pos e] at q1
    have hl : vs.length = is.length := by rw [rv.length]; exact e
    refine ⟨Nat.le_of_lt (small1000 (by omega)), fun T hT => ⟨T, vs, rfl, .inl (.inl upd_same), by omega, gNames_of hl ?_⟩⟩
    have pg := Post.grow (P := nk) p.sat (ext_upd (o := .tup vs) hT)
    exact q1 _ _ O1 (Post.storeAll s is (p.trans pg).anyP (rv.move pg) hP)
  · simp only [if_neg e] at q1; exact q1.elim
end
end DL

namespace DL
open PySem PySem.Spec PyProof.Rows L2

/-! ### defs: what is promised of a call -/
/-- a def's reading: its arguments, its answer and what then stands in its first parameter where that is an own one -/
abbrev Den := List RV → Option (RV × Cn)
def noCn : Cn := .lst []
def RV.plain : RV → Bool
  | .dat _ => true
  | .scr _ => true
  | _ => false
/-- the result of a body: io: its first parameter is an own object, which stays in its slot -/
def fstC (io : Bool) (ds : DS) : Option Cn := if io = true then (match ds[0]? with
  | some (some (RV.own c)) => some c
  | _ => none) else some noCn
def den (io : Bool) (n : Nat) (body : M Out) : Den := fun rs => match body (rs.map some ++ List.replicate (n - rs.length) none) with
  | .ok o ds' => (match fstC io ds' with
    | some c => some ((match o with | .nx => .dat .none | .rt r => r), c)
    | none => none)
  | _ => none
def argsOk (io : Bool) : List RV → Bool
  | [] => !io
  | r :: rs => (if io = true then r.isOwn else r.plain) && rs.all RV.plain
def keep0 (io : Bool) : Nat → Bool := fun i => io && i == 0
/-- a call's end -/
structure CallTo (K : Fg) (io : Bool) (O O' : Ow) (H H' : Hp) (vs : List V) (v : V) (r : RV) (c : Cn) : Prop where
  ext : Ext (hid O H) (hid O' H')
  frn : ∀ b, O b = true → (io = true → vs[0]? ≠ some (.ref b)) → O' b = true ∧ H' b = H b
  old : ∀ a, H a ≠ none → H' a ≠ none
  trk : ∀ a, O' a = true → ∃ o, H' a = some o
  fst : io = true → ∃ a, vs[0]? = some (.ref a) ∧ O' a = true ∧ CH K (hid O' H') H' a c
  res : match r with
    | .dat d => Dq K (hid O' H') v d
    | .own c => ∃ a, v = .ref a ∧ H a = none ∧ O' a = true ∧ CH K (hid O' H') H' a c ∧ (io = true → vs[0]? ≠ some (.ref a))
    | .scr ns => ∃ a, v = .ref a ∧ SqL K (hid O' H') a (ns.map V.int)
    | .lck _ => False
def spD (K : Fg) (io : Bool) (np : Nat) (f : Den) : Sp := fun vs H Q _ => ∃ O rs, vs.length = np ∧ rs.length = np ∧ argsOk io rs = true ∧ (∀ a, O a = true → ∃ o, H a = some o) ∧ (∀ (i : Nat) (r : RV), rs[i]? = some r → ∃ v, vs[i]? = some v ∧ RH K O H v r) ∧
  match f rs with
  | some (r, c) => ∀ v H' O', CallTo K io O O' H H' vs v r c → Q v H'
  | none => False
theorem argsOk_own {io : Bool} {rs : List RV} {i : Nat} {c : Cn} (h : argsOk io rs = true) (e : rs[i]? = some (.own c)) : io = true ∧ i = 0 := by
  cases rs with
  | nil => simp at e
  | cons r rs =>
    unfold argsOk at h
    rw [Bool.and_eq_true] at h
    cases i with
    | zero =>
      simp at e; subst e
      refine ⟨?_, rfl⟩
      cases io with
      | true => rfl
      | false => exact absurd h.1 (by simp [RV.plain])
    | succ i =>
      simp at e
      have := List.all_eq_true.mp h.2 _ (List.mem_of_getElem? e)
      cases this
section
variable {P : Program} {w : World} {K : Fg} {mg : Str → Option Value} {base : Heap}
theorem start_get {N : List Str} {vs : List V} {i : Nat} {v : V} : (L2.start N vs)[i]? = some (some v) ↔ vs[i]? = some v := by
  unfold L2.start
  by_cases h : i < vs.length
  · rw [List.getElem?_append_left (by simpa using h), List.getElem?_map]
    cases e : vs[i]? with
    | none => simp
    | some u => simp
  · rw [List.getElem?_append_right (by simpa using h)]
    constructor
    · intro e
      have := List.mem_of_getElem? e
      simp at this
    · intro e
      exact absurd (List.getElem?_eq_some_iff.mp e).1 h
theorem starts_get {n : Nat} {rs : List RV} {i : Nat} {r : RV} (e : (rs.map some ++ List.replicate (n - rs.length) none)[i]? = some (some r)) : rs[i]? = some r := by
  by_cases h : i < rs.length
  · rw [List.getElem?_append_left (by simpa using h), List.getElem?_map] at e
    cases e2 : rs[i]? with
    | none => rw [e2] at e; simp at e
    | some u => rw [e2] at e; simp at e; rw [e]
  · rw [List.getElem?_append_right (by simpa using h)] at e
    have := List.mem_of_getElem? e
    simp at this
/-- THE RULE for a def -/
theorem fn_d {x qual : Str} {st : Stmt} {f : Addr} {fd : FuncData} {N ps : List Str} {k : Nat} (io : Bool) (body : M Out) (F : Fun K x qual st f fd) (S : FnScope N ps (defScope st)) 
    (hb : ∀ (cdv : Value) (A : Around) (outer : List Env) (s : Shared) (H : Hp) (E : XK), Room k (A.deeper (envOfC qual (defScope st) s.heap.objs.size f cdv)) → DB (cxOf CX0 P w K mg base N qual (defScope st) f cdv A outer s H E).nox .no (keep0 io) (defBody st) body) :
    FnOk P w K mg base CX0 (k + 1) f fd ps (spD K io ps.length (den io N.length body)) := by
  refine F.ok S (fun vs H Q E ⟨O, rs, hl, _⟩ => hl) fun cdv A outer s H vs Q E hr ⟨O, rs, hl, hl2, ok, trk, hv, q⟩ => ?_
  refine ⟨_, hb cdv A outer s H E hr, ?_⟩
  have at0 : ∀ {i : Nat} {a : Addr}, OwnAt (L2.start N vs) (rs.map some ++ List.replicate (N.length - rs.length) none) i a → io = true ∧ i = 0 ∧ vs[0]? = some (.ref a) := by
    rintro i a ⟨⟨c, e1⟩, e2⟩
    obtain ⟨h1, rfl⟩ := argsOk_own ok (starts_get e1)
    exact ⟨h1, rfl, start_get.mp e2⟩
  have sat : Sat K O (L2.start N vs) H (rs.map some ++ List.replicate (N.length - rs.length) none) := by
    refine ⟨by unfold L2.start; simp [hl, hl2], fun i r e => ?_, fun i j a h1 h2 => ?_, trk⟩
    · obtain ⟨v, e1, h⟩ := hv i r (starts_get e)
      exact ⟨v, start_get.mpr e1, h⟩
    · rw [(at0 h1).2.1, (at0 h2).2.1]
  refine ⟨O, _, sat, ?_⟩
  unfold den at q
  cases eb : body (rs.map some ++ List.replicate (N.length - rs.length) none) with
  | err => rw [eb] at q; exact q.elim
  | ex x ds' => rw [eb] at q; exact q.elim
  | ok o ds' =>
    rw [eb] at q
    -- what the end gives
    have fin : ∀ {c : Cn}, fstC io ds' = some c → ∀ {v : V} {r : RV} {σ' : L2.St} {H' : Hp} {O' : Ow}, Post K (keep0 io) O O' (L2.start N vs) σ' H H' (rs.map some ++ List.replicate (N.length - rs.length) none) ds' → RvOk K H O' σ' H' ds' v r → CallTo K io O O' H H' vs v r c := by
      intro c hc v r σ' H' O' p rv
      have first : io = true → ∃ a, vs[0]? = some (.ref a) ∧ OwnAt σ' ds' 0 a ∧ O' a = true ∧ CH K (hid O' H') H' a c := fun hio => by
        unfold fstC at hc; rw [if_pos hio] at hc
        split at hc
        · rename_i c' e0
          cases hc
          obtain ⟨a, e1, ho, hh⟩ := p.sat.ownSlot e0
          have ek := p.keep 0 (by unfold keep0; rw [hio]; rfl)
          rw [e1] at ek
          exact ⟨a, start_get.mp ek.symm, ⟨⟨c, e0⟩, e1⟩, ho, hh⟩
        · cases hc
      refine ⟨p.ext, fun b hb n => p.frn b hb fun ⟨i, h⟩ => n (at0 h).1 (at0 h).2.2, p.old, p.sat.trk, fun hio => ?_, ?_⟩
      · obtain ⟨a, h1, _, h2, h3⟩ := first hio
        exact ⟨a, h1, h2, h3⟩
      · cases r with
        | dat d => exact rv
        | own c' =>
          obtain ⟨a, e, h0, h1, n, hh⟩ := rv
          refine ⟨a, e, h0, h1, hh, fun hio e2 => ?_⟩
          obtain ⟨a', g1, g2, _⟩ := first hio
          rw [g1] at e2
          cases e2
          exact n ⟨0, g2⟩
        | scr ns => exact rv
        | lck _ => exact rv
    dsimp only at q
    cases hc : fstC io ds' with
    | none => rw [hc] at q; exact q.elim
    | some c =>
      rw [hc] at q
      cases o with
      | nx => exact fun σ' H' O' p => q _ _ _ (fin hc p (show RvOk K H O' σ' H' ds' .non (.dat .none) from .non))
      | rt r => exact fun v σ' H' O' p rv => q _ _ _ (fin hc p rv)
end
/-! ### calls -/
section
variable {X : Cx} {w : Wi} {a b e : Expr} {p pos : Pos} {es : List Expr} {x : Str} {α : Type} {tr : α → RV}
def callM (f : Den) (fa : M (List RV)) : M RV := bnd fa fun rs => fun ds => if argsOk false rs = true then (match f rs with
  | some (r, _) => .ok r ds
  | none => .err) else .err
theorem RvAll.get {K : Fg} {H H1 : Hp} {O1 : Ow} {σ : L2.St} {ds1 : DS} : ∀ {vs : List V} {rs : List RV} {i : Nat} {r : RV}, RvAll K H O1 σ H1 ds1 vs rs → rs[i]? = some r → ∃ v, vs[i]? = some v ∧ RvOk K H O1 σ H1 ds1 v r
  | [], [], _, _, _, e => by simp at e
  | v :: vs, r' :: rs, 0, r, h, e => by simp at e; subst e; exact ⟨v, rfl, h.1⟩
  | v :: vs, r' :: rs, i + 1, r, h, e => by simpa using h.2.2.get (by simpa using e)
  | [], _ :: _, _, _, h, _ => h.elim
  | _ :: _, [], _, _, h, _ => h.elim
theorem RvOk.plain {K : Fg} {H H1 : Hp} {O1 : Ow} {σ : L2.St} {ds1 : DS} {v : V} {r : RV} (h : RvOk K H O1 σ H1 ds1 v r) (hp : r.plain = true) : RH K O1 H1 v r := by
  cases r with
  | dat d => exact h
  | scr ns => exact h
  | _ => cases hp
theorem plain_all {rs : List RV} (h : argsOk false rs = true) {i : Nat} {r : RV} (e : rs[i]? = some r) : r.plain = true := by
  cases rs with
  | nil => simp at e
  | cons r' rs =>
    unfold argsOk at h
    rw [Bool.and_eq_true] at h
    cases i with
    | zero => simp at e; subst e; simpa using h.1
    | succ i => simp at e; exact List.all_eq_true.mp h.2 _ (List.mem_of_getElem? e)
variable {f : Addr} {fd : FuncData} {ps : List Str} {k : Nat} {den : Den}
theorem ve_call {fa : M (List RV)} (F : FnOk X.prog X.w X.K X.mg X.base CX0 k f fd ps (spD X.K false ps.length den)) (hr : Room k X.A) (hm : X.mg x = some (.ref f)) (hk : PySem.W.keepIn X.K (.ref f) = true) (hb : Binds X.K fd ps [])
    (ha : DR X w (e :: es) fa) (hn : ps.length = (e :: es).length) (hg : Gl X x := by rfl) (hdb : (x == ("__debug__" : Str)) = false := by decide) (he : starEach (e :: es) X.env = (false, eval e X.env) :: starEach es X.env := by rfl) (hpl : (backTo pos (starEach es X.env)).any (·.1) = false := by rfl)
    : VE X w (.Call (.Name x p) (e :: es) [] pos) (bnd fa fun rs => if rs.length = ps.length then callM den (ret rs) else stuck) := (pe_call F hr hg hm hk hb .nil pass0 ha hdb he hpl).weak fun σ H Q ⟨O, ds, s, q⟩ => by
  refine ⟨O, ds, s, RdR.bindK0 q fun rs vs H1 O1 ds1 p1 rv q1 => ?_⟩
  by_cases hl : rs.length = ps.length
  · rw [if_pos hl] at q1
    have q1 : RdK X.K w id O σ H ds (if argsOk false rs = true then (match den rs with | some (r, _) => .ok r ds1 | none => .err) else .err) Q := q1
    by_cases ok : argsOk false rs = true
    · rw [if_pos ok] at q1
      refine ⟨O1, rs, by rw [List.append_nil, rv.length]; exact hl, hl, ok, p1.sat.trk, fun i r e => ?_, ?_⟩
      · obtain ⟨v, e1, h⟩ := rv.get e
        exact ⟨v, by rw [List.append_nil]; exact e1, h.plain (plain_all ok e)⟩
      · cases ed : den rs with
        | none => rw [ed] at q1; exact q1.elim
        | some z =>
          obtain ⟨r, c⟩ := z
          rw [ed] at q1
          intro v H' O' ct
          have fr : ∀ b, O1 b = true → O' b = true ∧ H' b = H1 b := fun b hb => ct.frn b hb (fun z => Bool.noConfusion z)
          have p2 : Post X.K nk O1 O' σ σ H1 H' ds1 ds1 := by
            refine ⟨⟨p1.sat.len, fun j r' e3 => ?_, p1.sat.inj, ct.trk⟩, ct.ext, fun b hb _ => fr b hb, fun _ h => .inr h, fun _ _ => rfl, rfl, ct.old⟩
            obtain ⟨v', e4, h⟩ := p1.sat.slot j r' e3
            refine ⟨v', e4, ?_⟩
            cases r' with
            | dat d => exact Dq.mono ct.ext _ _ h
            | own c' => obtain ⟨a, e5, ho, hc⟩ := h; exact ⟨a, e5, (fr a ho).1, hc.move ct.ext (fr a ho).2⟩
            | scr ns => obtain ⟨a, e5, h⟩ := h; exact ⟨a, e5, ct.ext.sqL h⟩
            | lck kvs => obtain ⟨a, e5, h⟩ := h; exact ⟨a, e5, h.mono ct.ext⟩
          refine q1 v H' O' (p1.trans p2) ?_
          have res := ct.res
          show RvOk X.K H O' σ H' ds1 v r
          cases r with
          | dat d => exact res
          | own c' =>
            obtain ⟨a, e5, h0, ho, hc, _⟩ := res
            refine ⟨a, e5, Classical.byContradiction fun z => p1.old a z h0, ho, fun ⟨j, h⟩ => ?_, hc⟩
            obtain ⟨v', e6, a', e7, ho', _⟩ := p1.sat.slot j _ h.1.choose_spec
            have := h.2
            rw [e6, e7] at this
            cases this
            obtain ⟨ob, z⟩ := p1.sat.trk _ ho'
            rw [h0] at z; cases z
          | scr ns => exact res
          | lck _ => exact res
    · rw [if_neg ok] at q1; exact q1.elim
  · rw [if_neg hl] at q1; exact q1.elim
/-- f(x, ..), x an own object that f may change -/
def callIO (i : Nat) (np : Nat) (f : Den) (fa : M (List RV)) : M RV := fun ds0 => match ds0[i]? with
  | some (some (.own _)) => bnd fa (fun rs => fun ds => match ds[i]? with
    | some (some (.own c)) => if argsOk true (.own c :: rs) = true ∧ rs.length + 1 = np then (match f (.own c :: rs) with
      | some (r, c') => .ok r (ds.set i (some (.own c')))
      | none => .err) else .err
    | _ => .err) ds0
  | _ => .err
theorem ve_callIO {i : Nat} {fa : M (List RV)} (F : FnOk X.prog X.w X.K X.mg X.base CX0 k f fd ps (spD X.K true ps.length den)) (hr : Room k X.A) (hm : X.mg x = some (.ref f)) (hk : PySem.W.keepIn X.K (.ref f) = true) (hb : Binds X.K fd ps [])
    (ha0 : PE X e (tVar i)) (ha : DR X w es fa) (hg : Gl X x := by rfl) (hdb : (x == ("__debug__" : Str)) = false := by decide) (he : starEach (e :: es) X.env = (false, eval e X.env) :: starEach es X.env := by rfl) (hpl : (backTo pos (starEach es X.env)).any (·.1) = false := by rfl)
    : VE X w (.Call (.Name x p) (e :: es) [] pos) (callIO i ps.length den fa) := (pe_call F hr hg hm hk hb .nil pass0 (pa_cons ha0 ha he) hdb he hpl).weak fun σ H Q ⟨O, ds, s, q⟩ => by
  unfold callIO at q
  cases e0 : ds[i]? with
  | none => rw [e0] at q; exact q.elim
  | some o =>
    cases o with
    | none => rw [e0] at q; exact q.elim
    | some r0 =>
      cases r0 with
      | own c0 =>
        rw [e0] at q
        obtain ⟨a0, ea0, _, _⟩ := s.ownSlot e0
        refine ⟨_, ea0, O, ds, s, RdR.bindK0 q fun rs vs H1 O1 ds1 p1 rv q1 => ?_⟩
        cases e1 : ds1[i]? with
        | none => rw [e1] at q1; exact q1.elim
        | some o1 =>
          cases o1 with
          | none => rw [e1] at q1; exact q1.elim
          | some r1 =>
            cases r1 with
            | own c =>
              rw [e1] at q1
              obtain ⟨a, ea, hO, hh⟩ := p1.sat.ownSlot e1
              rw [ea0] at ea; cases ea
              dsimp only at q1
              by_cases ok : argsOk true (.own c :: rs) = true ∧ rs.length + 1 = ps.length
              · rw [if_pos ok] at q1
                refine ⟨O1, .own c :: rs, by rw [List.append_nil, List.length_cons, rv.length]; exact ok.2, ok.2, ok.1, p1.sat.trk, fun j r e => ?_, ?_⟩
                · rw [List.append_nil]
                  cases j with
                  | zero => simp at e; subst e; exact ⟨_, rfl, a0, rfl, hO, hh⟩
                  | succ j =>
                    simp at e
                    obtain ⟨v, e1, h⟩ := rv.get e
                    have pl : r.plain = true := by
                      have h0 := ok.1
                      unfold argsOk at h0
                      rw [Bool.and_eq_true] at h0
                      exact List.all_eq_true.mp h0.2 _ (List.mem_of_getElem? e)
                    exact ⟨v, by simpa using e1, h.plain pl⟩
                · cases ed : den (.own c :: rs) with
                  | none => rw [ed] at q1; exact q1.elim
                  | some z =>
                    obtain ⟨r, c'⟩ := z
                    rw [ed] at q1
                    rw [List.append_nil]
                    intro v H' O' ct
                    have fr : ∀ b, O1 b = true → b ≠ a0 → O' b = true ∧ H' b = H1 b := fun b hb n => ct.frn b hb fun _ z => n (by simpa using z.symm)
                    obtain ⟨a', g1, g2, g3⟩ := ct.fst rfl
                    cases (show a0 = a' by simpa using g1)
                    have me : OwnAt σ ds1 i a0 := ⟨⟨c, e1⟩, ea0⟩
                    have hi : i < ds1.length := (List.getElem?_eq_some_iff.mp e1).1
                    have own_at : ∀ j b, OwnAt σ (ds1.set i (some (.own c'))) j b → OwnAt σ ds1 j b := by
                      rintro j b ⟨⟨d, e3⟩, e4⟩
                      by_cases hj : j = i
                      · subst hj; exact ⟨⟨c, e1⟩, e4⟩
                      · rw [List.getElem?_set_ne (Ne.symm hj)] at e3
                        exact ⟨⟨d, e3⟩, e4⟩
                    have p2 : Post X.K nk O1 O' σ σ H1 H' ds1 (ds1.set i (some (.own c'))) := by
                      refine ⟨⟨by simp [p1.sat.len], fun j r' e3 => ?_, fun j k b h1 h2 => p1.sat.inj j k b (own_at j b h1) (own_at k b h2), ct.trk⟩, ct.ext, fun b hb n => fr b hb (fun z => n ⟨i, by rw [z]; exact me⟩), fun b ⟨j, hj⟩ => .inr ⟨j, own_at j b hj⟩, fun _ _ => rfl, rfl, ct.old⟩
                      by_cases hj : j = i
                      · subst hj
                        rw [List.getElem?_set_self hi] at e3
                        cases e3
                        exact ⟨_, ea0, a0, rfl, g2, g3⟩
                      · rw [List.getElem?_set_ne (Ne.symm hj)] at e3
                        obtain ⟨v', e4, h⟩ := p1.sat.slot j r' e3
                        refine ⟨v', e4, ?_⟩
                        cases r' with
                        | dat d => exact Dq.mono ct.ext _ _ h
                        | own d =>
                          obtain ⟨b, e5, ho, hc⟩ := h
                          have ne : b ≠ a0 := fun z => hj (p1.sat.inj j i a0 ⟨⟨d, e3⟩, by rw [e4, e5, z]⟩ me)
                          exact ⟨b, e5, (fr b ho ne).1, hc.move ct.ext (fr b ho ne).2⟩
                        | scr ns => obtain ⟨b, e5, h⟩ := h; exact ⟨b, e5, ct.ext.sqL h⟩
                        | lck kvs => obtain ⟨b, e5, h⟩ := h; exact ⟨b, e5, h.mono ct.ext⟩
                    refine q1 v H' O' (p1.trans p2) ?_
                    have res := ct.res
                    show RvOk X.K H O' σ H' (ds1.set i (some (.own c'))) v r
                    cases r with
                    | dat d => exact res
                    | own c'' =>
                      obtain ⟨b, e5, h0, ho, hc, n⟩ := res
                      refine ⟨b, e5, Classical.byContradiction fun z => p1.old b z h0, ho, fun ⟨j, h⟩ => ?_, hc⟩
                      have h' := own_at j b h
                      obtain ⟨v', e6, a', e7, ho', _⟩ := p1.sat.slot j _ h'.1.choose_spec
                      have := h'.2
                      rw [e6, e7] at this
                      cases this
                      obtain ⟨ob, z⟩ := p1.sat.trk _ ho'
                      rw [h0] at z; cases z
                    | scr ns => exact res
                    | lck _ => exact res
              · rw [if_neg ok] at q1; exact q1.elim
            | _ => rw [e1] at q1; exact q1.elim
      | _ => rw [e0] at q; exact q.elim
/-! ### the script -/
def getS (i : Nat) : M (List Int) := fun ds => match ds[i]? with
  | some (some (.scr ns)) => .ok ns ds
  | _ => .err
theorem RdK.getS {K : Fg} {O : Ow} {σ : L2.St} {H : Hp} {ds : DS} {Q : VK} {i : Nat} {g : List Int → M α} (s : Sat K O σ H ds) (h : RdK K w tr O σ H ds (bnd (DL.getS i) g ds) Q) :
    ∃ ns p, ds[i]? = some (some (.scr ns)) ∧ σ[i]? = some (some (.ref p)) ∧ SqL K (hid O H) p (ns.map V.int) ∧ RdK K w tr O σ H ds (g ns ds) Q := by
  unfold bnd DL.getS at h
  cases e : ds[i]? with
  | none => rw [e] at h; exact h.elim
  | some o =>
    cases o with
    | none => rw [e] at h; exact h.elim
    | some r =>
      cases r with
      | scr ns =>
        rw [e] at h
        obtain ⟨v, e1, p, rfl, hq⟩ := s.slot i _ e
        exact ⟨ns, p, rfl, e1, hq, h⟩
      | _ => rw [e] at h; exact h.elim
/-- the script handed on -/
def gsV (i : Nat) : M RV := bnd (getS i) fun ns => ret (.scr ns)
theorem ve_scr {i : Nat} (h : PE X e (tVar i)) : VE X w e (gsV i) := h.weak fun σ H Q ⟨O, ds, s, q⟩ => by
  obtain ⟨ns, p, e0, e1, hq, q⟩ := RdK.getS s q
  exact ⟨_, e1, q _ H O (Post.refl s) ⟨p, rfl, hq⟩⟩
def slen (i : Nat) : M PD := bnd (getS i) fun ns => ret (.int ns.length)
theorem de_slen {i : Nat} (hg : Gl X "len") (hm : X.mg "len" = none) (h : PE X e (tVar i)) (ns : NS X e := by exact fun _ => rfl) : DE X w (.Call (.Name "len" p) [e] [] pos) (slen i) :=
  (pe_callB call_len hg hm PySem.boot_len (pa_one h ns) (by decide) (by decide) (ns []) rfl).weak fun σ H Q ⟨O, ds, s, q⟩ => by
  obtain ⟨xs, p, e0, e1, hq, q⟩ := RdK.getS s q
  exact ⟨_, e1, _, (xs.map V.int).length, rfl, .inl ⟨_, hid_ext.sqL hq, rfl⟩, by rw [List.length_map]; exact RdK.dat_here s q (.int _)⟩
def six (i : Nat) (fb : M PD) : M PD := bnd (getS i) fun _ => bnd fb fun y => bnd (getS i) fun ns => match y with
  | .int k => ofO ((atI ns k).map PyData.int)
  | _ => stuck
theorem de_six {i : Nat} {fb : M PD} (ha : PE X a (tVar i)) (hb : DE X w b fb) (hs : PlainIx b := by exact fun _ _ => rfl) : DE X w (.Subscript a b pos) (six i fb) := (pe_ix (ix_list.or ix_tup) ha hb hs).weak fun σ H Q ⟨O, ds, s, q⟩ => by
  obtain ⟨ns0, p0, e0, e1, hq0, q⟩ := RdK.getS s q
  refine ⟨_, e1, O, ds, s, RdK.bind q fun y u H2 O2 ds2 p2 rv2 h2 => ?_⟩
  obtain ⟨ns, p', e3, e4, hq, h3⟩ := RdK.getS p2.sat h2
  rw [e1] at e4; cases e4
  cases y with
  | int k =>
    cases rv2
    dsimp only at h3
    cases ek : atI ns k with
    | none => rw [ek] at h3; exact h3.elim
    | some z =>
      rw [ek] at h3
      refine .inl ⟨p0, _, k, .int z, rfl, rfl, hid_ext.sqL hq, ?_, RdK.dat_here p2.sat h3 (.int z)⟩
      unfold atI at ek ⊢
      rw [List.length_map]
      cases en : ixN ns.length k with
      | none => rw [en] at ek; cases ek
      | some j =>
        rw [en] at ek
        have ek : ns[j]? = some z := ek
        show (ns.map V.int)[j]? = some (.int z)
        rw [List.getElem?_map, ek]; rfl
  | _ => exact h3.elim
end
end DL

set_option maxHeartbeats 4000000
namespace DL
open PySem PySem.Spec PyProof.Rows L2

/-! ### set(xs) of a list of ints -/
section
variable {P : Program} {w : World} {A : Around} {E : Value → Shared → Prop} {s : Shared}
theorem call_set_listI {l : Addr} {items : Array Value} (ns : List Int) {Q : Value → Shared → Prop} (hh : A.handled = none) (hl : s.heap.IsList l items) (hit : IntsAre items.toList ns) (hb : ns.length + 1 < scanBound)
    (h : ∀ (h' : Heap) (tk c : Nat), SetR w h' s.heap.objs.size (fun j => decide (j ∈ ns)) c → c ≤ ns.length → (∀ b o, s.heap.get? b = some o → h'.get? b = some o) → Q (.ref s.heap.objs.size) { s with heap := h', toks := tk }) :
    wpAny (model P w) A (call (.type "set") [.ref l]) Q E s := by
  have hisz : items.size = ns.length := by
    have q := IntsAre.length hit
    rw [Array.length_toList] at q
    exact q
  obtain ⟨c, tl, hmro⟩ := F.called_set.mro
  have hmade := F.called_set.made
  have hsub := F.called_set.sub
  refine wpAny_call (codeAny_of_tree ?_)
  show wpAny _ _ (callAny (.type "set") _) _ _ _
  refine wpAny_pure ⟨Code.quiet_builtin _ (by decide +kernel), codeAny_builtin F.entry_type_call ?_⟩
  rw [Around.under_plain (weight_type_call_type "set" [.ref l] []) rfl]
  have h1 := F.called_set.notType
  have h2 := F.called_set.canCreate
  have hct := F.typeCall_set_1 (.ref l)
  repeat (any_goals (first | assumption | wp_step))
  generalize hO : ({ cls := .type "set", dict := none, data := .set #[] 0 (.fresh 0 0 (!w.params.followText "set-order")) } : Obj) = o0
  refine codeAny_mono (code_set_led1 (.ref l) (E := E) (Q₁ := fun obj s₁ => obj = .ref s.heap.objs.size ∧ s₁ = { s with heap := s.heap.push o0 }) (by subst hO; exact ⟨rfl, rfl⟩)) fun r s₁ hr => ?_
  cases r with
  | error e => exact hr
  | ok fl =>
    cases fl with
    | ret obj =>
      obtain ⟨rfl, rfl⟩ := hr
      have nf : o0.isFreed = false := by subst hO; rfl
      have hS : (s.heap.push o0).get? s.heap.objs.size = some o0 := Heap.get?_push_size _ nf
      have hT : Shared.TypeIs { s with heap := s.heap.push o0 } (.ref s.heap.objs.size) "set" := ⟨_, hS, by subst hO; rfl⟩
      have hli := F.called_set.init.lookup
      have hbi := F.called_set.init.bind (.ref s.heap.objs.size)
      repeat (any_goals (first | assumption | wp_step))
      refine codeAny_mono (codeAny_call_builtin (R := wants (fun r s₂ => r = .none ∧ ∃ h' tk c, s₂ = { s with heap := h', toks := tk } ∧ SetR w h' s.heap.objs.size (fun j => decide (j ∈ ns)) c ∧ c ≤ ns.length ∧
          (∀ b o, s.heap.get? b = some o → h'.get? b = some o)) E) F.called_set.init.plain F.entry_set_init (check_set_init_1 hT ?_)) fun r₂ s₂ hr₂ => ?_
      · obtain ⟨ol, hol, hcl, nl, hdl⟩ := hl
        obtain ⟨ocls, odict, odata, oslots⟩ := ol
        simp only at hcl hdl
        subst hcl; subst hdl
        have hol' : (s.heap.push o0).get? l = some { cls := .type "list", dict := odict, data := .seq items nl, slots := oslots } := Heap.get?_push_of_some _ hol
        have hsls := F.sub_list_set
        have hslf := F.sub_list_frozenset
        have hne : (Value.type "list" == Value.type "dict") = false := by decide
        have hl1 : (s.heap.push o0).IsList l items := ⟨_, hol', rfl, nl, rfl⟩
        subst hO
        unfold Builtin.«set.__init__» noKeywords Builtin.Frozenset.updateFrom
        generalize hPI : pyIter = PI
        wp_walk
        subst hPI
        refine wpAny_pyIter_list hl1 ?_
        refine wpAny_bind (wpAny_runValue ?_)
        have hlS : l < s.heap.objs.size := Heap.lt_size hol
        have hh3 : A.in1.in1.in1.handled = none := by simp [hh]
        have hneI : l ≠ (s.heap.push { cls := .type "set", dict := none, data := .set #[] 0 (.fresh 0 0 (!w.params.followText "set-order")) }).objs.size := by
          rw [Heap.size_push]; exact Nat.ne_of_lt (Nat.lt_succ_of_lt hlS)
        have hSf : s.heap.objs.size ∉ [(s.heap.push { cls := .type "set", dict := none, data := .set #[] 0 (.fresh 0 0 (!w.params.followText "set-order")) }).objs.size, l] := by
          rw [Heap.size_push]; simp only [List.mem_cons, List.mem_singleton, List.not_mem_nil, or_false, not_or]
          exact ⟨Nat.ne_of_lt (Nat.lt_succ_self _), Nat.ne_of_gt hlS⟩
        have hval : ∀ (i : Nat) (v : Value), items[i]? = some v → ∃ k t, ns[i]? = some k ∧ v = .int k t := fun i v hv => by
          have hi : i < ns.length := by rw [← hisz]; exact (Array.getElem?_eq_some_iff.mp hv).1
          obtain ⟨t, e⟩ := PyProof.Rows.IntsAre.int_at hit i v (by rw [Array.getElem?_toList]; exact hv)
          refine ⟨ns[i], t, List.getElem?_eq_getElem hi, ?_⟩
          rw [e, List.getD_eq_getElem?_getD, List.getElem?_eq_getElem hi] <;> rfl
        refine set_update_ints ((Walks.list hh3 _ l hneI items).toS) s.heap.objs.size hSf ns hisz hb hval (items.size - 0) 0 _ (by omega) (Nat.zero_le _)
          ⟨⟨_, Heap.get?_push_size _ rfl, rfl, rfl⟩, (hl1.push _)⟩ ⟨0, Nat.le_refl 0, setR_new_at (Heap.get?_push_of_some _ hS)⟩ ?_
        intro s' c' hm hc' hS'
        obtain ⟨h', g2, d', tk', os'⟩ := s'
        have eg : g2 = s.gens := hm.gens
        have ed : d' = s.drawn := hm.drawn
        have eo : os' = s.os := hm.os
        subst eg; subst ed; subst eo
        show wpAny _ _ _ _ _ _
        refine wpAny_pure ?_
        show wpAny _ _ (PySem.ret Value.none) _ _ _
        rw [hisz] at hc'
        refine wpAny_pure ⟨rfl, h', tk', c', rfl, hS', hc', fun b o e => ?_⟩
        have hb0 : b < s.heap.objs.size := Heap.lt_size e
        have hb2 : b ≠ (s.heap.push { cls := .type "set", dict := none, data := .set #[] 0 (.fresh 0 0 (!w.params.followText "set-order")) }).objs.size := by
          rw [Heap.size_push]; exact Nat.ne_of_lt (Nat.lt_succ_of_lt hb0)
        exact hm.heap b o (by simp only [List.mem_cons, List.mem_singleton, List.not_mem_nil, or_false, not_or]; exact ⟨Nat.ne_of_lt hb0, hb2⟩) (Heap.get?_push_of_some _ (Heap.get?_push_of_some _ e))
      · cases r₂ with
        | error e => exact hr₂
        | ok fl₂ =>
          cases fl₂ with
          | ret r =>
            obtain ⟨rfl, h', tk, c', rfl, hS', hc', hk'⟩ := hr₂
            repeat (any_goals (first | assumption | wp_step))
            exact h _ _ _ hS' hc' hk'
          | _ => exact hr₂.elim
    | _ => exact hr.elim
end
end DL

set_option maxHeartbeats 1000000
namespace DL
open PySem PySem.Spec PyProof.Rows L2
open PySem.W (alike dataLt)

/-! ### sorted(set(ints)) -/
def insU (x : Int) : List Int → List Int
  | [] => [x]
  | y :: r => if x < y then x :: y :: r else if x = y then y :: r else y :: insU x r
def sortSet (ns : List Int) : List Int := ns.foldr insU []
theorem mem_insU {x z : Int} : ∀ {l : List Int}, z ∈ insU x l ↔ z = x ∨ z ∈ l
  | [] => by simp [insU]
  | y :: r => by
    unfold insU
    by_cases h : x < y
    · rw [if_pos h]; simp
    · rw [if_neg h]
      by_cases h2 : x = y
      · rw [if_pos h2]; subst h2; simp
      · rw [if_neg h2, List.mem_cons, mem_insU (l := r), List.mem_cons]
        constructor
        · rintro (a | a | a)
          · exact .inr (.inl a)
          · exact .inl a
          · exact .inr (.inr a)
        · rintro (a | a | a)
          · exact .inr (.inl a)
          · exact .inl a
          · exact .inr (.inr a)
theorem insU_sorted {x : Int} : ∀ {l : List Int}, l.Pairwise (· < ·) → (insU x l).Pairwise (· < ·)
  | [], _ => by simp [insU]
  | y :: r, h => by
    obtain ⟨h1, h2⟩ := List.pairwise_cons.mp h
    unfold insU
    by_cases c : x < y
    · rw [if_pos c]
      exact List.pairwise_cons.mpr ⟨fun z hz => by
        rcases List.mem_cons.mp hz with e | e
        · subst e; exact c
        · exact Int.lt_trans c (h1 z e), h⟩
    · rw [if_neg c]
      by_cases c2 : x = y
      · rw [if_pos c2]; exact h
      · rw [if_neg c2]
        refine List.pairwise_cons.mpr ⟨fun z hz => ?_, insU_sorted h2⟩
        rcases mem_insU.mp hz with e | e
        · subst e; omega
        · exact h1 z e
theorem mem_sortSet {z : Int} : ∀ {l : List Int}, z ∈ sortSet l ↔ z ∈ l
  | [] => by simp [sortSet]
  | y :: r => by
    show z ∈ insU y (sortSet r) ↔ _
    rw [mem_insU, mem_sortSet (l := r), List.mem_cons]
theorem sortSet_sorted : ∀ {l : List Int}, (sortSet l).Pairwise (· < ·)
  | [] => List.Pairwise.nil
  | y :: r => insU_sorted (sortSet_sorted (l := r))
theorem sorted_ext : ∀ {a b : List Int}, a.Pairwise (· < ·) → b.Pairwise (· < ·) → (∀ z, z ∈ a ↔ z ∈ b) → a = b
  | [], [], _, _, _ => rfl
  | [], y :: b, _, _, h => by have := (h y).mpr (List.mem_cons_self ..); cases this
  | x :: a, [], _, _, h => by have := (h x).mp (List.mem_cons_self ..); cases this
  | x :: a, y :: b, ha, hb, h => by
    obtain ⟨a1, a2⟩ := List.pairwise_cons.mp ha
    obtain ⟨b1, b2⟩ := List.pairwise_cons.mp hb
    have e : x = y := by
      have h1 := (h x).mp (List.mem_cons_self ..)
      have h2 := (h y).mpr (List.mem_cons_self ..)
      rcases List.mem_cons.mp h1 with e | e
      · exact e
      · rcases List.mem_cons.mp h2 with e2 | e2
        · exact e2.symm
        · have := b1 x e; have := a1 y e2; omega
    subst e
    rw [sorted_ext a2 b2 fun z => ?_]
    constructor
    · intro hz
      rcases List.mem_cons.mp ((h z).mp (List.mem_cons_of_mem _ hz)) with e | e
      · have := a1 z hz; omega
      · exact e
    · intro hz
      rcases List.mem_cons.mp ((h z).mpr (List.mem_cons_of_mem _ hz)) with e | e
      · have := b1 z hz; omega
      · exact e
def rSetI (K : Fg) (w : World) : List V → Hp → VK → Prop := fun xs H Q => ∃ (a : Addr) (ns : List Int), xs = [.ref a] ∧ (SqL K H a (ns.map V.int) ∨ SqT K H a (ns.map V.int)) ∧ ns.length + 1 < scanBound ∧
  ∀ (p : Addr) (c : Nat), H p = none → c ≤ ns.length → Q (.ref p) (upd H p (SetO w p (fun j => decide (j ∈ ns)) c))
section
variable {X : Cx}
theorem cr_setI (hc : X.calm = true) : CallR X (.type "set") (rSetI X.K X.w) := by
  intro pins s σ H xs us Q I r h
  obtain ⟨a, ns, rfl, hs, hb, q⟩ := h
  rw [Vals.ref1 r]
  have hf : H s.heap.objs.size = none := I.hok.fresh (Nat.le_refl _)
  rcases hs with hs | hs
  · obtain ⟨its, rv, hl, _⟩ := I.list hs
    exact call_set_listI ns (I.ok.hd hc) hl.isList rv.ints hb fun h' tk c R hle hk => ⟨.ref _, _, I.laid (t' := tk) hk (Nat.le_refl _) (setO_new R), rfl, q _ c hf hle⟩
  · obtain ⟨its, rv, hl, _⟩ := I.tuple hs
    exact call_set_tupI ns (I.ok.hd hc) hl rv.ints hb fun h' tk c R hle hk => ⟨.ref _, _, I.laid (t' := tk) hk (Nat.le_refl _) (setO_new R), rfl, q _ c hf hle⟩
variable {w : Wi} {e a b c : Expr} {p p2 pos pos2 : Pos} {fa fb fc : M PD}
theorem dq_intsOf {K : Fg} {H : Hp} {vs : List V} {xs : List PD} {bs : List Int} (h : DqAll K H vs xs) (e : intsOf xs = some bs) : vs = bs.map V.int := dq_ints h e
theorem dqAll_ints {K : Fg} {H : Hp} : ∀ (bs : List Int), DqAll K H (bs.map V.int) (bs.map PyData.int)
  | [] => .nil
  | b :: bs => .cons (.int b) (dqAll_ints bs)
def sortSetO (d : PD) : Option Cn := match seqOf d with
  | some xs => (match intsOf xs with
    | some ns => if ns.length < 64 then some (.lst ((sortSet ns).map .int)) else none
    | none => none)
  | none => none
def sortSetM (fa : M PD) : M Cn := bnd fa fun x => ofO (sortSetO x)
theorem oe_sortset (hc : X.calm = true) (hg : Gl X "sorted") (hm : X.mg "sorted" = none) (hg2 : Gl X "set") (hm2 : X.mg "set" = none) (h : DE X w e fa) (ns : NS X e := by exact fun _ => rfl)
    (ns2 : NS X (.Call (.Name "set" p2) [e] [] pos2) := by exact fun _ => rfl) : OE X w (.Call (.Name "sorted" p) [.Call (.Name "set" p2) [e] [] pos2] [] pos) (sortSetM fa) :=
  (pe_callB (cr_sortedSet hc) hg hm PyProof.Rows.boot_sorted (pa_one (pe_callTy (cr_setI hc) hg2 hm2 PyProof.Rows.boot_set (pa_one h ns) (by decide) (by decide) (ns []) rfl) ns2) (by decide) (by decide) (ns2 []) rfl).weak fun σ H Q ⟨O, ds, s, q⟩ => by
  refine ⟨O, ds, s, RdK.bind q fun x v H1 O1 ds1 p1 rv h1 => ?_⟩
  cases ex : sortSetO x with
  | none => rw [ex] at h1; exact h1.elim
  | some z =>
    rw [ex] at h1
    unfold sortSetO at ex
    cases e1 : seqOf x with
    | none => rw [e1] at ex; cases ex
    | some xs =>
      rw [e1] at ex
      dsimp only at ex
      cases e2 : intsOf xs with
      | none => rw [e2] at ex; cases ex
      | some ns =>
        rw [e2] at ex
        dsimp only at ex
        by_cases hl : ns.length < 64
        · rw [if_pos hl] at ex; cases ex
          obtain ⟨a, vs, rfl, hq, hv⟩ := Dq.seq rv e1
          have ev := dq_intsOf hv e2
          subst ev
          refine ⟨a, ns, rfl, hq.elim (fun h => .inl (hid_ext.sqL h)) (fun h => .inr (hid_ext.sqT h)), by unfold scanBound; omega, fun q c hq0 hc => ⟨q, _, c, rfl, upd_same, by omega, fun ns' p hs hm hn hp => ?_⟩⟩
          have e3 : ns' = sortSet ns := sorted_ext hs sortSet_sorted fun z => by rw [hm z, mem_sortSet]; simp
          subst e3
          have x1 : Ext H1 (upd (upd H1 q (SetO X.w q (fun j => decide (j ∈ ns)) c)) p (.lst ((sortSet ns).map V.int))) := (ext_upd hq0).trans (ext_upd hp)
          have hp1 : H1 p = none := by
            cases z : H1 p with
            | none => rfl
            | some o => rw [ext_upd hq0 _ _ z] at hp; cases hp
          have h1 : RdK X.K w RV.own O1 σ H1 ds1 (.ok (.lst ((sortSet ns).map .int)) ds1) Q := h1
          exact h1.own_fresh p1.sat hp1 x1 upd_nn ⟨_, upd_same, dqAll_ints _⟩
        · rw [if_neg hl] at ex; cases ex
/-! ### sorted, min, max of data -/
def alikeB (xs : List PD) : Bool := xs.all fun a => xs.all fun b => alike a b
def tup1 : PD → Bool
  | .tuple (_ :: _) => true
  | _ => false
def noTup : PD → Bool
  | .none => false
  | .tuple _ => false
  | _ => true
theorem alikeB_all {xs : List PD} (h : alikeB xs = true) : PySem.W.AllAlike xs := fun d hd d' hd' => List.all_eq_true.mp (List.all_eq_true.mp h d hd) d' hd'
def sortD (xs : List PD) : List PD := xs.mergeSort (PySem.W.dataLe false id)
def sortableB (xs : List PD) : Bool := xs.all tup1 || xs.all noTup
theorem sortableB_of {xs : List PD} (h : sortableB xs = true) : PySem.W.Sortable xs := by
  unfold sortableB at h
  rw [Bool.or_eq_true] at h
  rcases h with h | h
  · refine .inl fun d hd => ?_
    have := List.all_eq_true.mp h d hd
    unfold tup1 at this
    split at this
    · exact ⟨_, _, rfl⟩
    · cases this
  · refine .inr fun d hd => ?_
    have := List.all_eq_true.mp h d hd
    cases d <;> first | (constructor <;> simp; done) | (simp [noTup] at this)
def sortOk (xs : List PD) : Bool := alikeB xs && sortableB xs && xs.all okD && decide (xs.length ≤ lim)
def rSortD (K : Fg) : List V → Hp → VK → Prop := fun vs H Q => ∃ (a : Addr) (xs : List V) (ds : List PD) (G : Hp), vs = [V.ref a] ∧ SqL K H a xs ∧ Ext G H ∧ DqAll K G xs ds ∧ sortOk ds = true ∧
  ∀ (ys : List V) (p : Addr), DqAll K G ys (sortD ds) → H p = none → Q (.ref p) (upd H p (.lst ys))
theorem dq_reads {pins : List (Addr × Obj)} {σ : L2.St} {H : Hp} {s : Shared} (I : Inv X pins σ H s) {G : Hp} (xG : Ext G H) : ∀ {ds : List PD} {vs : List V} {us : List Value}, DqAll X.K G vs ds → Vals vs us → ds.all okD = true →
    PySem.W.EachIs (fun u d => ∃ x, RelV x u ∧ Dq X.K G x d) us ds ∧ PySem.W.EachIs (fun u d => ∃ as, Reads s.heap u d as) us ds
  | [], _, _, .nil, .nil, _ => ⟨.nil, .nil⟩
  | d :: ds, _, _, .cons h1 h2, .cons r1 r2, ok => by
    rw [List.all_cons, Bool.and_eq_true] at ok
    obtain ⟨e1, e2⟩ := dq_reads I xG h2 r2 ok.2
    exact ⟨.cons ⟨_, r1, h1⟩ e1, .cons ((Dq.mono xG _ _ h1).reads I r1 (okD_lay ok.1)) e2⟩
theorem dq_back {K : Fg} {H : Hp} : ∀ {us : List Value} {ds : List PD}, PySem.W.EachIs (fun u d => ∃ x, RelV x u ∧ Dq K H x d) us ds → ∃ vs, Vals vs us ∧ DqAll K H vs ds
  | _, _, .nil => ⟨[], .nil, .nil⟩
  | _, _, .cons ⟨x, r, h⟩ t => by
    obtain ⟨vs, r2, h2⟩ := dq_back t
    exact ⟨x :: vs, .cons r r2, .cons h h2⟩
theorem cr_sortD (hu : X.A.units + 66 < cLine) : CallR X (.builtin "sorted") (rSortD X.K) := by
  intro pins s σ H vs us Q I r h
  obtain ⟨a, xs, ds, G, rfl, hs, xG, hd, ok, q⟩ := h
  obtain ⟨its, rv, hl, _⟩ := I.list hs
  rw [Vals.ref1 r]
  unfold sortOk at ok
  simp only [Bool.and_eq_true] at ok
  obtain ⟨⟨⟨k1, k2⟩, k3⟩, k4⟩ := ok
  have k4 := of_decide_eq_true k4
  obtain ⟨e1, e2⟩ := dq_reads I xG hd rv k3
  have hmap : ds.map id = ds := List.map_id ds
  refine PySem.W.sorted_data (enc := id) hl.isList e1 e2 (by rw [hmap]; exact alikeB_all k1) (by rw [hmap]; exact sortableB_of k2) (le_line k4) (fun b hb => ?_) fun out hlen hout => ?_
  · have := SeqAt.depth_of_shaped (List.all_eq_true.mp k3 b hb)
    show X.A.units + 2 + b.depth < cLine
    omega
  · obtain ⟨ys, r2, hy⟩ := dq_back hout
    obtain ⟨ep, he'⟩ := PyProof.Rows.sortedAll_at s.heap its out.toArray
    have hlen2 : ys.length ≤ sizeLine := by rw [hy.length, List.length_mergeSort]; exact le_line k4
    refine ⟨.ref _, upd H (s.heap.objs.size + 1) (.lst ys), I.laid (t' := s.toks) (fun _ _ => PyProof.Rows.sortedAll_old) (Nat.le_succ _) ⟨hlen2, out, ep, r2, ?_⟩, rfl, q ys _ hy (I.hok.fresh (Nat.le_succ _))⟩
    exact he'
def sortM (fa : M PD) : M Cn := bnd fa fun x => match x with
  | .list xs => if sortOk xs = true then ret (.lst (sortD xs)) else stuck
  | _ => stuck
theorem oe_sorted (hu : X.A.units + 66 < cLine) (hg : Gl X "sorted") (hm : X.mg "sorted" = none) (h : DE X w e fa) (ns : NS X e := by exact fun _ => rfl) : OE X w (.Call (.Name "sorted" p) [e] [] pos) (sortM fa) :=
  (pe_callB (cr_sortD hu) hg hm PyProof.Rows.boot_sorted (pa_one h ns) (by decide) (by decide) (ns []) rfl).weak fun σ H Q ⟨O, ds, s, q⟩ => by
  refine ⟨O, ds, s, RdK.bind q fun x v H1 O1 ds1 p1 rv h1 => ?_⟩
  cases x with
  | list xs =>
    cases rv with
    | @lst a vs _ g1 g2 =>
      dsimp only at h1
      by_cases ok : sortOk xs = true
      · rw [if_pos ok] at h1
        exact ⟨a, vs, xs, _, rfl, .inl (.inl (hid_some g1).2), hid_ext, g2, ok, fun ys p hy hp => (RdK.kok p1.sat h1).newL hp hy⟩
      · rw [if_neg ok] at h1; exact h1.elim
  | _ => exact h1.elim
/-! min, max -/
def minOk (xs : List PD) : Bool := alikeB xs && xs.all notNone && xs.all okD && decide (PyData.depthAll xs ≤ 64) && !xs.isEmpty
def minL : List PD → PD
  | [] => .none
  | x :: xs => PySem.W.minD x xs
def maxL : List PD → PD
  | [] => .none
  | x :: xs => PySem.W.maxD x xs
def rMinMax (K : Fg) (f : List PD → PD) : List V → Hp → VK → Prop := fun vs H Q => ∃ (a : Addr) (xs : List V) (ds : List PD) (G : Hp), vs = [V.ref a] ∧ (SqL K H a xs ∨ SqT K H a xs) ∧ Ext G H ∧ DqAll K G xs ds ∧ minOk ds = true ∧
  ∀ (y : V), Dq K G y (f ds) → Q y H
theorem each_all {h : Heap} : ∀ {us : List Value} {ds : List PD}, PySem.W.EachIs (fun u d => ∃ as, Reads h u d as) us ds → ∃ as, ReadsAll h us ds as
  | _, _, .nil => ⟨[], .nil⟩
  | _, _, .cons ⟨a1, r⟩ t => by
    obtain ⟨as, r2⟩ := each_all t
    exact ⟨a1 ++ as, .cons r r2⟩
theorem each_at {R : Value → PD → Prop} : ∀ {us : List Value} {ds : List PD} {i : Nat} {u : Value}, PySem.W.EachIs R us ds → us[i]? = some u → ∃ d, ds[i]? = some d ∧ R u d
  | _, _, _, _, .nil, e => by simp at e
  | _, _, 0, _, .cons r _, e => by simp at e; subst e; exact ⟨_, rfl, r⟩
  | _, _, i + 1, _, .cons _ t, e => by simpa using each_at t (by simpa using e)
theorem minOk_all {x : PD} {xs : List PD} (h : minOk (x :: xs) = true) : PySem.W.AlikeAll (x :: xs) ∧ (x :: xs).all okD = true ∧ PyData.depthAll (x :: xs) ≤ 64 := by
  unfold minOk at h
  simp only [Bool.and_eq_true] at h
  obtain ⟨⟨⟨⟨h1, h2⟩, h3⟩, h4⟩, _⟩ := h
  exact ⟨⟨fun y hy z hz => alikeB_all h1 y hy z hz, fun y hy => notNone_ne (List.all_eq_true.mp h2 y hy)⟩, h3, of_decide_eq_true h4⟩
/-- the item found is the datum's -/
theorem found_is {pins : List (Addr × Obj)} {σ : L2.St} {H G : Hp} {s : Shared} {h' : Heap} {ds : List PD} {us : List Value} {i : Nat} {u : Value} {m : PD} {bs : List Addr} (ok : ds.all okD = true)
    (e1 : PySem.W.EachIs (fun u d => ∃ x, RelV x u ∧ Dq X.K G x d) us ds) (e2 : PySem.W.EachIs (fun u d => ∃ as, Reads s.heap u d as) us ds) (hi : us[i]? = some u) (hr : Reads h' u m bs) (hk : ∀ b o, s.heap.get? b = some o → h'.get? b = some o) :
    ∃ y, RelV y u ∧ Dq X.K G y m := by
  obtain ⟨d, hd, x, rx, hx⟩ := each_at e1 hi
  obtain ⟨d', hd', as, hr'⟩ := each_at e2 hi
  rw [hd] at hd'; cases hd'
  have e : d = m := ((Reads.unique (Reads.keeps hk hr')) _ _ hr).1
  subst e
  exact ⟨x, rx, hx⟩
theorem cr_minD (hc : X.calm = true) (hu : X.A.units + 66 < cLine) : CallR X (.builtin "min") (rMinMax X.K minL) := by
  intro pins s σ H vs us Q I r h
  obtain ⟨a, xs, ds, G, rfl, hs, xG, hd, ok, q⟩ := h
  rw [Vals.ref1 r]
  cases ds with
  | nil => cases ok
  | cons d ds =>
    obtain ⟨k1, k2, k3⟩ := minOk_all ok
    have hdp : X.A.units + 1 + PyData.depthAll (d :: ds) < cLine := by omega
    rcases hs with hs | hs
    · obtain ⟨its, rv, hl, _⟩ := I.list hs
      obtain ⟨e1, e2⟩ := dq_reads I xG hd rv k2
      obtain ⟨as, hr⟩ := each_all e2
      refine PySem.W.min_list_data (I.ok.hd hc) hl.isList hr k1 hdp fun i v h' tk bs hv hrm hk => ?_
      obtain ⟨y, ry, hy⟩ := found_is (X := X) (pins := pins) (σ := σ) (H := H) (s := s) k2 e1 e2 (by simpa using hv) hrm hk
      exact ⟨y, H, I.kept (t' := tk) hk, ry, q y hy⟩
    · obtain ⟨its, rv, hl, _⟩ := I.tuple hs
      obtain ⟨e1, e2⟩ := dq_reads I xG hd rv k2
      obtain ⟨as, hr⟩ := each_all e2
      refine PySem.W.min_tuple_data (I.ok.hd hc) hl hr k1 hdp fun i v h' tk bs hv hrm hk => ?_
      obtain ⟨y, ry, hy⟩ := found_is (X := X) (pins := pins) (σ := σ) (H := H) (s := s) k2 e1 e2 (by simpa using hv) hrm hk
      exact ⟨y, H, I.kept (t' := tk) hk, ry, q y hy⟩
theorem cr_maxD (hc : X.calm = true) (hu : X.A.units + 66 < cLine) : CallR X (.builtin "max") (rMinMax X.K maxL) := by
  intro pins s σ H vs us Q I r h
  obtain ⟨a, xs, ds, G, rfl, hs, xG, hd, ok, q⟩ := h
  rw [Vals.ref1 r]
  cases ds with
  | nil => cases ok
  | cons d ds =>
    obtain ⟨k1, k2, k3⟩ := minOk_all ok
    have hdp : X.A.units + 1 + PyData.depthAll (d :: ds) < cLine := by omega
    rcases hs with hs | hs
    · obtain ⟨its, rv, hl, _⟩ := I.list hs
      obtain ⟨e1, e2⟩ := dq_reads I xG hd rv k2
      obtain ⟨as, hr⟩ := each_all e2
      refine PySem.W.max_list_data (I.ok.hd hc) hl.isList hr k1 hdp fun i v h' tk bs hv hrm hk => ?_
      obtain ⟨y, ry, hy⟩ := found_is (X := X) (pins := pins) (σ := σ) (H := H) (s := s) k2 e1 e2 (by simpa using hv) hrm hk
      exact ⟨y, H, I.kept (t' := tk) hk, ry, q y hy⟩
    · obtain ⟨its, rv, hl, _⟩ := I.tuple hs
      obtain ⟨e1, e2⟩ := dq_reads I xG hd rv k2
      obtain ⟨as, hr⟩ := each_all e2
      refine PySem.W.max_tuple_data (I.ok.hd hc) hl hr k1 hdp fun i v h' tk bs hv hrm hk => ?_
      obtain ⟨y, ry, hy⟩ := found_is (X := X) (pins := pins) (σ := σ) (H := H) (s := s) k2 e1 e2 (by simpa using hv) hrm hk
      exact ⟨y, H, I.kept (t' := tk) hk, ry, q y hy⟩
def mmO (f : List PD → PD) (d : PD) : Option PD := match seqOf d with
  | some xs => if minOk xs = true then some (f xs) else none
  | none => none
theorem vo_mm {K : Fg} (f : List PD → PD) : VoN K .dat (rMinMax K f) (one (mmO f)) := fun O H xs as z Q l h e k => by
  obtain ⟨d, v, rfl, rfl, hd, e⟩ := one_inv h e
  unfold mmO at e
  cases e1 : seqOf d with
  | none => rw [e1] at e; cases e
  | some ys =>
    rw [e1] at e
    dsimp only at e
    by_cases ok : minOk ys = true
    · rw [if_pos ok] at e; cases e
      obtain ⟨a, vs, rfl, hq, hv⟩ := Dq.seq hd e1
      exact ⟨a, vs, ys, _, rfl, hq.elim (fun h => .inl (hid_ext.sqL h)) (fun h => .inr (hid_ext.sqT h)), hid_ext, hv, ok, fun y hy => k.here hy⟩
    · rw [if_neg ok] at e; cases e
theorem de_minL (hc : X.calm = true) (hu : X.A.units + 66 < cLine) (hg : Gl X "min") (hm : X.mg "min" = none) (h : DE X w e fa) (ns : NS X e := by exact fun _ => rfl) : DE X w (.Call (.Name "min" p) [e] [] pos) (ap1 (mmO minL) fa) := xe_callB (cr_minD hc hu) (vo_mm minL) hg hm PyProof.Rows.boot_min (da1 h ns) (by decide) (by decide) (ns []) rfl
theorem de_maxL (hc : X.calm = true) (hu : X.A.units + 66 < cLine) (hg : Gl X "max") (hm : X.mg "max" = none) (h : DE X w e fa) (ns : NS X e := by exact fun _ => rfl) : DE X w (.Call (.Name "max" p) [e] [] pos) (ap1 (mmO maxL) fa) := xe_callB (cr_maxD hc hu) (vo_mm maxL) hg hm PyProof.Rows.boot_max (da1 h ns) (by decide) (by decide) (ns []) rfl
end
end DL

namespace DL
open PySem PySem.Spec PyProof.Rows L2

/-! ### t[::k] -/
def stepL {α : Type} (xs : List α) (k : Int) : List α :=
  (List.range (Builtin.Slice.slicePlaces (Builtin.Slice.sliceAdjust none none k (xs.length : Int)).1 (Builtin.Slice.sliceAdjust none none k (xs.length : Int)).2 k)).filterMap fun (m : Nat) => xs[((Builtin.Slice.sliceAdjust none none k (xs.length : Int)).1 + (m : Int) * k).toNat]?
/-- is it the whole tuple? -/
def stepW (n : Nat) (k : Int) : Bool := (Builtin.Slice.sliceAdjust none none k (n : Int)).1 == 0 && k == 1 && Builtin.Slice.slicePlaces (Builtin.Slice.sliceAdjust none none k (n : Int)).1 (Builtin.Slice.sliceAdjust none none k (n : Int)).2 k == n
theorem stepL_one {α : Type} (xs : List α) : stepL xs 1 = xs := by
  unfold stepL
  have e : Builtin.Slice.sliceAdjust none none 1 (xs.length : Int) = (0, (xs.length : Int)) := rfl
  rw [e]
  have e2 : Builtin.Slice.slicePlaces 0 (xs.length : Int) 1 = xs.length := by
    have := HT.places_gen 0 xs.length
    simpa using this
  show (List.range (Builtin.Slice.slicePlaces 0 (xs.length : Int) 1)).filterMap _ = xs
  rw [e2]
  have e3 : (fun (m : Nat) => xs[((0 : Int) + (m : Int) * 1).toNat]?) = fun m => xs[m]? := by
    funext m
    have : ((0 : Int) + (m : Int) * 1).toNat = m := by omega
    rw [this]
  show (List.range xs.length).filterMap (fun (m : Nat) => xs[((0 : Int) + (m : Int) * 1).toNat]?) = xs
  rw [e3]
  have := pick_run xs.toArray 0 xs.length
  simp at this
  exact this
section
variable {prog : Program} {w : World} {A : Around} {E : Value → Shared → Prop} {s : Shared}
theorem sliceApplied_step {sl : Addr} {vl vu vk : Value} {k : Int} {n : Nat} {Q : Int × Int × Nat → Shared → Prop} (hs : s.heap.IsSliceOf sl vl vu vk) (pl : IsPart vl none) (pu : IsPart vu none) (pk : IsPart vk (some k)) (h0 : k ≠ 0)
    (h : Q ((Builtin.Slice.sliceAdjust none none k (n : Int)).1, k, Builtin.Slice.slicePlaces (Builtin.Slice.sliceAdjust none none k (n : Int)).1 (Builtin.Slice.sliceAdjust none none k (n : Int)).2 k) s) : wpAny (model prog w) A (Builtin.Slice.sliceApplied (.ref sl) (pure (n : Int))) Q E s := by
  obtain ⟨os, hos, hcs, hds⟩ := id hs
  unfold Builtin.Slice.sliceApplied Builtin.Slice.sliceFields
  refine wpAny_bind (wpAny_bind (wpAny_field hos hds (x := vl) rfl (wpAny_bind (wpAny_field hos hds (x := vu) rfl (wpAny_bind (wpAny_field hos hds (x := vk) rfl (wpAny_pure ?_)))))))
  refine wpAny_bind (HT.slicePart_ pk ?_)
  show wpAny _ _ (if (k == 0) = true then _ else _) _ _ s
  rw [if_neg (by simpa using h0)]
  refine wpAny_bind (HT.slicePart_ pl (wpAny_bind (HT.slicePart_ pu (wpAny_bind (wpAny_pure ?_)))))
  exact wpAny_pure h
theorem getItem_tuple_step {t sl : Addr} {items : List Value} {vl vu vk : Value} {k : Int} {Q : Value → Shared → Prop} (ht : IsTup s.heap t items.toArray) (hs : s.heap.IsSliceOf sl vl vu vk) (pl : IsPart vl none) (pu : IsPart vu none) (pk : IsPart vk (some k)) (h0 : k ≠ 0)
    (hw : stepW items.length k = true → Q (.ref t) s) (h : stepW items.length k = false → Q (.ref s.heap.objs.size) { s with heap := s.heap.push { cls := .type "tuple", data := .seq (stepL items k).toArray } })
    (hsz : (stepL items k).length ≤ sizeLine) : wpAny (model prog w) A (getItem (.ref t) (.ref sl)) Q E s := by
  have htake : sizeOk (.seq (stepL items k).toArray) := by
    show (stepL items k).toArray.size ≤ sizeLine
    rw [List.size_toArray]; exact hsz
  obtain ⟨os, hos, hcs, hds⟩ := id hs
  have hTs : s.TypeIs (.ref sl) "slice" := ⟨os, hos, hcs⟩
  unfold getItem
  try with_reducible refine wpAny_holding ?_
  first | refine wpAny_bind (wpAny_pure ?_) | skip
  refine wpAny_bind (wpAny_sequenceKey ht.typeIs (by decide) ?_)
  refine wpAny_bind (wpAny_callSpecial?_slot (name := Str.ofString "__getitem__") ht.typeIs PyProof.Rows.slot_tuple_getitem
    (wpAny_call_entry PyProof.Rows.slot_tuple_getitem ht.typeIs entry_tuple_getitem ?_ (args_tuple_getitem _ _)))
  show wpAny _ _ (Builtin.Tuple.tupleItemsOf (.ref t) >>= _) _ _ s
  refine wpAny_bind (tupleItemsOf_ ht ?_)
  refine wpAny_bind (wpAny_typeOf hTs ?_)
  rw [if_pos (by decide)]
  refine wpAny_bind (sliceApplied_step hs pl pu pk h0 ?_)
  show wpAny _ _ (if ((Builtin.Slice.sliceAdjust none none k (items.length : Int)).1 == 0 && k == 1 && Builtin.Slice.slicePlaces (Builtin.Slice.sliceAdjust none none k (items.length : Int)).1 (Builtin.Slice.sliceAdjust none none k (items.length : Int)).2 k == items.length) = true then _ else _) _ _ s
  cases e : stepW items.length k with
  | true =>
    have hw := hw e
    unfold stepW at e
    rw [if_pos e]
    refine wpAny_bind ?_
    show wpAny _ _ (typeOf (.ref t) >>= fun T => pure (T == .type "tuple")) _ _ s
    refine wpAny_bind (wpAny_typeOf ht.typeIs (wpAny_pure ?_))
    first
      | rw [if_pos (by decide)]
      | simp only [beq_self_eq_true, if_true]
    first
      | exact wpAny_bind (wpAny_rule (wpAny_pure ⟨_, rfl, wpAny_pure hw⟩))
      | exact wpAny_bind (wpAny_rule (wpAny_bind (wpAny_pure (wpAny_pure ⟨_, rfl, wpAny_pure hw⟩))))
  | false =>
    have h := h e
    unfold stepW at e
    rw [if_neg (by rw [e]; exact Bool.false_ne_true)]
    have htake : sizeOk (.seq ((List.range (Builtin.Slice.slicePlaces (Builtin.Slice.sliceAdjust none none k (items.length : Int)).1 (Builtin.Slice.sliceAdjust none none k (items.length : Int)).2 k)).filterMap fun (m : Nat) => items.toArray[((Builtin.Slice.sliceAdjust none none k (items.length : Int)).1 + (m : Int) * k).toNat]?).toArray) := by
      have e2 : (fun (m : Nat) => items.toArray[((Builtin.Slice.sliceAdjust none none k (items.length : Int)).1 + (m : Int) * k).toNat]?) = fun (m : Nat) => items[((Builtin.Slice.sliceAdjust none none k (items.length : Int)).1 + (m : Int) * k).toNat]? := by
        funext m; rw [← Array.getElem?_toList]
      rw [e2]; exact htake
    have h : Q (.ref s.heap.objs.size) { s with heap := s.heap.push { cls := .type "tuple", data := .seq ((List.range (Builtin.Slice.slicePlaces (Builtin.Slice.sliceAdjust none none k (items.length : Int)).1 (Builtin.Slice.sliceAdjust none none k (items.length : Int)).2 k)).filterMap fun (m : Nat) => items.toArray[((Builtin.Slice.sliceAdjust none none k (items.length : Int)).1 + (m : Int) * k).toNat]?).toArray } } := by
      have e2 : (fun (m : Nat) => items.toArray[((Builtin.Slice.sliceAdjust none none k (items.length : Int)).1 + (m : Int) * k).toNat]?) = fun (m : Nat) => items[((Builtin.Slice.sliceAdjust none none k (items.length : Int)).1 + (m : Int) * k).toNat]? := by
        funext m; rw [← Array.getElem?_toList]
      rw [e2]; exact h
    first
      | exact wpAny_bind (m := Builtin.Tuple.tupleExact _) (wpAny_newObj_type (wpAny_pure ⟨_, rfl, wpAny_pure h⟩) htake)
      | exact wpAny_bind (m := Builtin.Tuple.tupleExact _) (wpAny_newObj_type (wpAny_bind (wpAny_pure (wpAny_pure ⟨_, rfl, wpAny_pure h⟩))) htake)
      | exact wpAny_bind (wpAny_bind (m := Builtin.Tuple.tupleExact _) (wpAny_newObj_type (wpAny_pure (wpAny_pure ⟨_, rfl, wpAny_pure h⟩)) htake))
      | exact wpAny_bind (wpAny_bind (m := Builtin.Tuple.tupleExact _) (wpAny_newObj_type (wpAny_pure ⟨_, rfl, wpAny_pure h⟩) htake))
end
theorem stepL_map {α β : Type} (f : α → β) (xs : List α) (k : Int) : stepL (xs.map f) k = (stepL xs k).map f := by
  unfold stepL
  rw [List.length_map, List.map_filterMap]
  congr 1
  funext m
  rw [List.getElem?_map]
theorem Vals.step {xs : List V} {us : List Value} (r : Vals xs us) (k : Int) : Vals (stepL xs k) (stepL us k) := by
  unfold stepL
  rw [r.length]
  generalize List.range _ = ms
  induction ms with
  | nil => exact .nil
  | cons m ms ih =>
    rw [List.filterMap_cons, List.filterMap_cons]
    generalize ((Builtin.Slice.sliceAdjust none none k (us.length : Int)).1 + (m : Int) * k).toNat = j
    cases e : xs[j]? with
    | none =>
      have : us[j]? = none := by
        rw [List.getElem?_eq_none_iff, ← r.length]; exact List.getElem?_eq_none_iff.mp e
      rw [this]; exact ih
    | some x =>
      obtain ⟨u, hu, ru⟩ := r.get e
      rw [hu]
      exact .cons ru ih
theorem DqAll.step {K : Fg} {H : Hp} {vs : List V} {xs : List PD} (h : DqAll K H vs xs) (k : Int) : DqAll K H (stepL vs k) (stepL xs k) := by
  unfold stepL
  rw [h.length]
  generalize List.range _ = ms
  induction ms with
  | nil => exact .nil
  | cons m ms ih =>
    rw [List.filterMap_cons, List.filterMap_cons]
    generalize ((Builtin.Slice.sliceAdjust none none k (xs.length : Int)).1 + (m : Int) * k).toNat = j
    cases e : vs[j]? with
    | none =>
      have : xs[j]? = none := by
        rw [List.getElem?_eq_none_iff, ← h.length]; exact List.getElem?_eq_none_iff.mp e
      rw [this]; exact ih
    | some x =>
      obtain ⟨u, hu, ru⟩ := h.get' e
      rw [hu]
      exact .cons ru ih
section
variable {X : Cx} {w : Wi} {e a b c : Expr} {p p2 p3 pos pos2 : Pos} {fa fb fc : M PD}
def tStepT (K : Fg) (te tk : TE) : TE := fun σ H Q => te σ H fun x H1 => tk σ H1 fun y H2 => ∃ a xs k, x = .ref a ∧ y = .int k ∧ k ≠ 0 ∧ SqT K H2 a xs ∧ (stepL xs k).length ≤ sizeLine ∧ (stepW xs.length k = true → Q (.ref a) H2) ∧ (stepW xs.length k = false → ∀ p, H2 p = none → Q (.ref p) (upd H2 p (.tup (stepL xs k))))
theorem pe_stepT {te tk : TE} (he : PE X e te) (hk : PE X c tk) (hs : ∀ ov iv, subscripted (.Slice none none (some c) p3) false ov iv = operate [ov, iv] (getItem ov iv) := by exact fun _ _ => rfl) : PE X (.Subscript e (.Slice none none (some c) p3) pos) (tStepT X.K te tk) := by
  refine ⟨fun pins s σ H Q I h => ?_⟩
  refine Subscript_ (thn (he.run pins s σ H _ I h) fun v s1 ⟨x, H1, I1, r1, q1⟩ => ?_)
  refine wpAny_Slice (thn (po_none.run pins s1 σ H1 (fun o H2 => o = none ∧ H2 = H1) I1 ⟨rfl, rfl⟩) fun vl s2 ⟨l, H2, I2, pl, el, e2⟩ => ?_)
  subst el e2
  refine thn (po_none.run pins s2 σ H2 (fun o H3 => o = none ∧ H3 = H2) I2 ⟨rfl, rfl⟩) fun vu s3 ⟨u, H3, I3, pu, eu, e3⟩ => ?_
  subst eu e3
  rw [evalPart_some]
  refine thn (hk.run pins s3 σ H3 _ I3 q1) fun vk s4 ⟨y, H4, I4, ry, a, xs, k, ex, ey, h0, hx, hsz, qw, qn⟩ => ?_
  subst ex ey
  cases r1
  obtain ⟨tk', rfl⟩ := ry
  have I5 : Inv X pins σ H4 { s4 with heap := s4.heap.push { cls := .type "slice", data := .fields #[vl, vu, .int k tk'] } } := I4.kept (t' := s4.toks) fun b ob q => Heap.get?_push_of_some _ q
  obtain ⟨its, r, ht, hz⟩ := I5.tuple hx
  show wpAny (model X.prog X.w) X.A (subscriptTail e (.Slice none none (some c) p3) (.ref a) (.ref s4.heap.objs.size)) (EP X pins σ Q) X.xe { s4 with heap := s4.heap.push { cls := .type "slice", data := .fields #[vl, vu, .int k tk'] } }
  refine tail_any (ops := [.ref a, .ref s4.heap.objs.size]) ht.typeIs (PyProof.Rows.slot_tuple_getitem.lookup) ?_ (hs _ _)
  have hl : its.length = xs.length := r.length.symm
  refine getItem_tuple_step ht (Heap.IsSliceOf.new _ vl vu _) pl pu (.int k tk') h0 (fun z => ⟨.ref a, _, I5, rfl, qw (by rw [← hl]; exact z)⟩) (fun z => ?_) (by rw [← (Vals.step r k).length]; exact hsz)
  exact ⟨.ref _, _, I5.laid (t' := s4.toks) (o := .tup (stepL xs k)) (fun b ob q => Heap.get?_push_of_some _ q) (Nat.le_refl _) ⟨hsz, _, Vals.step r k, IsTup.new _ _⟩, rfl, qn (by rw [← hl]; exact z) _ (I5.hok.fresh (Nat.le_refl _))⟩
def stepD : PD → PD → Option PD
  | .tuple xs, .int k => if k ≠ 0 ∧ (stepL xs k).length ≤ lim then some (.tuple (stepL xs k)) else none
  | _, _ => none
theorem de_step (ha : DE X w a fa) (hc : DE X w c fc) (hs : ∀ ov iv, subscripted (.Slice none none (some c) p3) false ov iv = operate [ov, iv] (getItem ov iv) := by exact fun _ _ => rfl) : DE X w (.Subscript a (.Slice none none (some c) p3) pos) (bin stepD fa fc) := (pe_stepT ha hc hs).weak fun σ H Q ⟨O, ds, s, q⟩ => by
  refine ⟨O, ds, s, RdK.bind q fun x v H1 O1 ds1 p rv h1 => ⟨O1, ds1, p.sat, RdK.bind h1 fun y u H2 O2 ds2 p2 rv2 h2 => ?_⟩⟩
  cases e : stepD x y with
  | none => rw [e] at h2; exact h2.elim
  | some z =>
    rw [e] at h2
    have rv := Dq.mono p2.ext _ _ rv
    cases rv with
    | @tup a vs xs g1 g2 =>
      cases rv2 with
      | int k =>
        unfold stepD at e; dsimp only at e
        by_cases hk : k ≠ 0 ∧ (stepL xs k).length ≤ lim
        · rw [if_pos hk] at e; cases e
          refine ⟨a, vs, k, rfl, rfl, hk.1, hid_ext.sqT g1, by rw [(g2.step k).length]; exact le_line hk.2, fun z => ?_, fun z p hp => (RdK.kok p2.sat h2).newT p2.sat.live hp (g2.step k)⟩
          have e1 : k = 1 := by
            unfold stepW at z
            rw [Bool.and_eq_true, Bool.and_eq_true] at z
            exact eq_of_beq z.1.2
          subst e1
          rw [stepL_one] at h2
          exact RdK.dat_here p2.sat h2 (.tup g1 g2)
        · rw [if_neg hk] at e; cases e
      | _ => cases e
    | _ => cases e
/-! ### repr of truth values -/
theorem call_repr_bl : CallR X (.builtin "repr") (fun xs H Q => ∃ b, xs = [.bl b] ∧ Q (.str (if b then "True" else "False")) H) := by
  intro pins s σ H xs us Q I r h
  obtain ⟨i, rfl, q⟩ := h
  obtain ⟨u, rfl, ru⟩ := vals1 r
  cases ru
  exact PySem.P.repr_of_bool ⟨.str _, H, I.tok _, ⟨_, rfl⟩, q⟩
def reprB : PD → Option PD
  | .bool b => some (.str (if b then "True" else "False"))
  | _ => none
theorem vo_repr {K : Fg} : VoN K .dat (fun xs H Q => ∃ b, xs = [.bl b] ∧ Q (.str (if b then "True" else "False")) H) (one reprB) := fun O H xs as z Q l h e k => by
  obtain ⟨d, v, rfl, rfl, hd, e⟩ := one_inv h e
  cases hd with
  | bl b => cases e; exact ⟨b, rfl, k.here (.str _)⟩
  | _ => cases e
theorem de_reprB (hg : Gl X "repr") (hm : X.mg "repr" = none) (h : DE X w e fa) (ns : NS X e := by exact fun _ => rfl) : DE X w (.Call (.Name "repr" p) [e] [] pos) (ap1 reprB fa) := xe_callB call_repr_bl vo_repr hg hm (by decide +kernel) (da1 h ns) (by decide) (by decide) (ns []) rfl
/-! ### list(range(..)) -/
def lrngM (fa : M PD) : M Cn := bnd fa fun x => match x with
  | .int j => if 0 ≤ j ∧ j ≤ 16777216 then ret (.lst (rngL 0 j.toNat)) else stuck
  | _ => stuck
theorem oe_listRange (hc : X.calm = true) (hg : Gl X "list") (hm : X.mg "list" = none) (hg2 : Gl X "range") (hm2 : X.mg "range" = none) (h : DE X w e fa) (ns : NS X e := by exact fun _ => rfl)
    (ns2 : NS X (.Call (.Name "range" p2) [e] [] pos2) := by exact fun _ => rfl) : OE X w (.Call (.Name "list" p) [.Call (.Name "range" p2) [e] [] pos2] [] pos) (lrngM fa) := (pe_listRg hc hg hm (prg_1 hg2 hm2 h (ns [])) (ns2 [])).weak fun σ H Q ⟨O, ds, s, q⟩ => by
  refine ⟨O, ds, s, RdK.bind q fun x v H1 O1 ds1 p rv h1 => ?_⟩
  cases rv with
  | int j =>
    dsimp only at h1
    by_cases hj : 0 ≤ j ∧ j ≤ 16777216
    · rw [if_pos hj] at h1
      refine ⟨j, rfl, RgOk.of_le (Int.le_refl 0) hj.2 (by omega) hj.1, fun q hq => (RdK.kok p.sat h1).newL hq ?_⟩
      unfold rgV rngL
      rw [Int.sub_zero]
      generalize List.range j.toNat = is
      induction is with
      | nil => exact .nil
      | cons i is ih => exact .cons (.int _) ih
    · rw [if_neg hj] at h1; exact h1.elim
  | _ => exact h1.elim
/-! ### range(i, j, -1) -/
def rngDn (i : Int) (n : Nat) : List PD := (List.range n).map fun (m : Nat) => PyData.int (i - (m : Int))
theorem walks_dn {K : Fg} {O1 : Ow} {H1 : Hp} {i : Int} {n : Nat} : WalksD K (Itc i (-1) n) O1 H1 (rngDn i n) := fun O H x l => by
  refine ⟨fun m d e => ?_, by simp [rngDn, Itc]⟩
  unfold rngDn at e
  rw [List.getElem?_map] at e
  by_cases h : m < n
  · rw [List.getElem?_range h] at e; cases e
    exact ⟨h, fun u H' ⟨eH, g⟩ => by subst eH g; exact ⟨Ext.refl _, by rw [show i + (m : Int) * -1 = i - (m : Int) by omega]; exact .int _⟩⟩
  · rw [List.getElem?_eq_none (by simp; omega)] at e; cases e
def rng3 : PD → PD → PD → Option (List PD)
  | .int i, .int j, .int k => if (big62 i && big62 j) = true ∧ k = -1 then some (rngDn i (i - j).toNat) else none
  | _, _, _ => none
def rngM3 (fa fb fc : M PD) : M (List PD) := bnd fa fun x => bnd fb fun y => bnd fc fun z => ofO (rng3 x y z)
variable {tg : Expr}
theorem RdA.cons3 {K : Fg} {O : Ow} {σ : L2.St} {H : Hp} {ds : DS} : True := trivial
theorem di_range3 (hg : Gl X "range") (hm : X.mg "range" = none) (ha : DE X w a fa) (hb : DE X w b fb) (hc : DE X w c fc) (ns : NS X a := by exact fun _ => rfl) (ns2 : NS X b := by exact fun _ => rfl) (ns3 : NS X c := by exact fun _ => rfl) : DI X w tg (.Call (.Name "range" p) [a, b, c] [] pos) (rngM3 fa fb fc) :=
  (pi_range3 hg hm (pa_cons ha (pa_cons hb (pa_cons hc pa_nil (ns3 [])) (ns2 [c])) (ns [b, c])) (ns [b, c]) (by rw [ns2 [c], ns3 []]; rfl)).weak fun σ H R ⟨O, ds, s, q⟩ => by
  refine ⟨O, ds, s, RdK.bindI q fun x v H1 O1 ds1 p1 rv h1 => ⟨O1, ds1, p1.sat, RdK.bindI h1 fun y u H2 O2 ds2 p2 rv2 h2 => ⟨O2, ds2, p2.sat, RdK.bindI h2 fun z t H3 O3 ds3 p3 rv3 h3 => ?_⟩⟩⟩
  cases e : rng3 x y z with
  | none => rw [e] at h3; exact h3.elim
  | some ys =>
    rw [e] at h3
    unfold rng3 at e
    split at e
    · rename_i i j k
      by_cases hk : (big62 i && big62 j) = true ∧ k = -1
      · rw [if_pos hk] at e; cases e
        cases rv; cases rv2; cases rv3
        obtain ⟨hk, rfl⟩ := hk
        rw [Bool.and_eq_true] at hk
        exact ⟨i, j, -1, (i - j).toNat, rfl, RgC.neg (big62_of hk.1).1 (big62_of hk.1).2 (big62_of hk.2).1 (big62_of hk.2).2, h3 _ H3 O3 (Post.refl p3.sat) walks_dn⟩
      · rw [if_neg hk] at e; cases e
    · cases e
end
end DL

/-! {k: v for .. for ..}: the road of the list comprehension with two fors, turned to a dict's. -/
namespace DL
open PySem PySem.Spec PyProof.Rows L2
theorem compTurnD2_out (kx vx t0 i0 t1 i1 : Expr) (ifs0 ifs1 : List Expr) (scope : Scope) (pos : Pos) (it : Value) (D : Addr) (env : Env) :
    compTurn (.DictComp kx vx [⟨t0, i0, ifs0, 0⟩, ⟨t1, i1, ifs1, 0⟩] scope pos) 0 it (.ref D) env = (do
      standAt i0.pos
      match ← pyNext it with
      | none => pure (.done .next)
      | some v =>
        letOwnedTupleGo t0 it v
        assign t0 env v
        let mut ok := true
        for c in ifs0 do
          if ok then ok ← isTrue c env (eval c env)
        if ok then
          let x ← eval i1 env
          standAt i1.pos
          let x ← foldedSetIterable i1 env x
          let _ ← runOwn (.compStart (.DictComp kx vx [⟨t0, i0, ifs0, 0⟩, ⟨t1, i1, ifs1, 0⟩] scope pos) 1 (← holding [x] (pyIter x)) (.ref D) env) env
        again (.compLoop (.DictComp kx vx [⟨t0, i0, ifs0, 0⟩, ⟨t1, i1, ifs1, 0⟩] scope pos) 0 it (.ref D) env)) := by rfl
theorem compTurnD2_in (kx vx t0 i0 t1 i1 : Expr) (ifs0 ifs1 : List Expr) (scope : Scope) (pos : Pos) (it : Value) (D : Addr) (env : Env) :
    compTurn (.DictComp kx vx [⟨t0, i0, ifs0, 0⟩, ⟨t1, i1, ifs1, 0⟩] scope pos) 1 it (.ref D) env = (do
      standAt i1.pos
      match ← pyNext it with
      | none => pure (.done .next)
      | some v =>
        letOwnedTupleGo t1 it v
        assign t1 env v
        let mut ok := true
        for c in ifs1 do
          if ok then ok ← isTrue c env (eval c env)
        if ok then
          (do
            let kv ← eval kx env
            let vv ← holding [kv] (eval vx env)
            standAt { kx.pos with endLine := vx.pos.endLine, endCol := vx.pos.endCol }
            holding [kv, vv] (dictSet D kv vv))
        again (.compLoop (.DictComp kx vx [⟨t0, i0, ifs0, 0⟩, ⟨t1, i1, ifs1, 0⟩] scope pos) 1 it (.ref D) env)) := by rfl

section
variable {prog : Program} {w : World} {A : Around} {R : Result → Shared → Prop} {s : Shared} {kx vx t0 i0 t1 i1 : Expr} {ifs0 ifs1 : List Expr} {scope : Scope} {pos : Pos} {it : Value} {D : Addr} {env : Env}
/-- the loop of the first clause -/
theorem compLoopD2_out (hs : ∀ x, foldedSetIterable i1 env x = pure x) (I : Nat → Shared → Prop)
    (turn : ∀ n s, I n s → wpAny (model prog w) A (pyNext it) (fun r s₁ => match r with
      | none => R (.ok .next) s₁
      | some v => wpAny (model prog w) A (letOwnedTupleGo t0 it v) (fun _ s₁' => wpAny (model prog w) A (assign t0 env v) (fun _ s₂ =>
          wpAny (model prog w) A (forIn ifs0 true fun c r => if r = true then do let ok ← isTrue c env (eval c env); pure (ForInStep.yield ok) else pure (ForInStep.yield r)) (fun ok s₃ =>
            if ok = true then wpAny (model prog w) A (eval i1 env) (fun x s₄ => wpAny (model prog w) A (pyIter x) (fun it1 s₅ =>
              codeAny (model prog w) A (.compStart (.DictComp kx vx [⟨t0, i0, ifs0, 0⟩, ⟨t1, i1, ifs1, 0⟩] scope pos) 1 it1 (.ref D) env) (fun r s' => match r with
                | .ok _ => ∃ m, m < n ∧ I m s'
                | .error _ => False) s₅) (notedBy (model prog w) A env fun e s' => R (.error e) s') s₄) (notedBy (model prog w) A env fun e s' => R (.error e) s') s₃
            else ∃ m, m < n ∧ I m s₃) (notedBy (model prog w) A env fun e s' => R (.error e) s') s₂) (notedBy (model prog w) A env fun e s' => R (.error e) s') s₁') (notedBy (model prog w) A env fun e s' => R (.error e) s') s₁) (notedBy (model prog w) A env fun e s' => R (.error e) s') s)
    (n : Nat) (h : I n s) :
    codeAny (model prog w) A (.compLoop (.DictComp kx vx [⟨t0, i0, ifs0, 0⟩, ⟨t1, i1, ifs1, 0⟩] scope pos) 0 it (.ref D) env) R s := by
  refine codeAny_loop rfl I (fun n s hI => ?_) n h
  show wpAny _ A ((compTurn (.DictComp kx vx [⟨t0, i0, ifs0, 0⟩, ⟨t1, i1, ifs1, 0⟩] scope pos) 0 it (.ref D) env).onRaise (fun x => do noteFrame x env; theTreesLotGoes x)) _ _ s
  refine wpAny_noted ?_
  rw [compTurnD2_out]
  refine wpAny_bind (wpAny_standAt (wpAny_bind (wpAny_mono (turn n s hI) (fun r s₁ h₁ => ?_) fun _ _ h' => h')))
  cases r with
  | none => exact wpAny_pure h₁
  | some v =>
    refine wpAny_bind (wpAny_mono h₁ (fun _ s₁' h₁' => ?_) fun _ _ h' => h')
    refine wpAny_bind (wpAny_mono h₁' (fun _ s₂ h₂ => wpAny_bind (wpAny_mono h₂ (fun ok s₃ h₃ => ?_) fun _ _ h' => h')) fun _ _ h' => h')
    cases ok with
    | false => exact wpAny_pure ⟨rfl, h₃⟩
    | true =>
      refine wpAny_bind (wpAny_mono h₃ (fun x s₄ h₄ => ?_) fun _ _ h' => h')
      refine wpAny_bind (wpAny_standAt (wpAny_bind (wpAny_of_eq (hs x) (wpAny_bind (wpAny_holding (wpAny_mono h₄ (fun it1 s₅ h₅ => ?_) fun _ _ h' => h'))))))
      refine wpAny_bind (wpAny_runOwn ?_)
      rw [Around.mark_none]
      refine codeAny_mono h₅ fun r s' hr => ?_
      cases r with
      | ok f =>
        first
          | exact wpAny_pure ⟨rfl, hr⟩
          | exact wpAny_bind (wpAny_pure (wpAny_pure ⟨rfl, hr⟩))
      | error e => exact hr.elim
/-- the loop of the second -/
theorem compLoopD2_in (I : Nat → Shared → Prop)
    (turn : ∀ n s, I n s → wpAny (model prog w) A (pyNext it) (fun r s₁ => match r with
      | none => R (.ok .next) s₁
      | some v => wpAny (model prog w) A (letOwnedTupleGo t1 it v) (fun _ s₁' => wpAny (model prog w) A (assign t1 env v) (fun _ s₂ =>
          wpAny (model prog w) A (forIn ifs1 true fun c r => if r = true then do let ok ← isTrue c env (eval c env); pure (ForInStep.yield ok) else pure (ForInStep.yield r)) (fun ok s₃ =>
            if ok = true then wpAny (model prog w) A (eval kx env) (fun kv s₄ => wpAny (model prog w) A (eval vx env) (fun vv s₅ =>
              wpAny (model prog w) A (dictSet D kv vv) (fun _ s₆ => ∃ m, m < n ∧ I m s₆) (notedBy (model prog w) A env fun e s' => R (.error e) s') s₅) (notedBy (model prog w) A env fun e s' => R (.error e) s') s₄) (notedBy (model prog w) A env fun e s' => R (.error e) s') s₃
            else ∃ m, m < n ∧ I m s₃) (notedBy (model prog w) A env fun e s' => R (.error e) s') s₂) (notedBy (model prog w) A env fun e s' => R (.error e) s') s₁') (notedBy (model prog w) A env fun e s' => R (.error e) s') s₁) (notedBy (model prog w) A env fun e s' => R (.error e) s') s)
    (n : Nat) (h : I n s) :
    codeAny (model prog w) A (.compLoop (.DictComp kx vx [⟨t0, i0, ifs0, 0⟩, ⟨t1, i1, ifs1, 0⟩] scope pos) 1 it (.ref D) env) R s := by
  refine codeAny_loop rfl I (fun n s hI => ?_) n h
  show wpAny _ A ((compTurn (.DictComp kx vx [⟨t0, i0, ifs0, 0⟩, ⟨t1, i1, ifs1, 0⟩] scope pos) 1 it (.ref D) env).onRaise (fun x => do noteFrame x env; theTreesLotGoes x)) _ _ s
  refine wpAny_noted ?_
  rw [compTurnD2_in]
  refine wpAny_bind (wpAny_standAt (wpAny_bind (wpAny_mono (turn n s hI) (fun r s₁ h₁ => ?_) fun _ _ h' => h')))
  cases r with
  | none => exact wpAny_pure h₁
  | some v =>
    refine wpAny_bind (wpAny_mono h₁ (fun _ s₁' h₁' => ?_) fun _ _ h' => h')
    refine wpAny_bind (wpAny_mono h₁' (fun _ s₂ h₂ => wpAny_bind (wpAny_mono h₂ (fun ok s₃ h₃ => ?_) fun _ _ h' => h')) fun _ _ h' => h')
    cases ok with
    | false => exact wpAny_pure ⟨rfl, h₃⟩
    | true =>
      exact wpAny_bind (wpAny_bind (wpAny_mono h₃ (fun kv s₄ h₄ => wpAny_bind (wpAny_holding (wpAny_mono h₄ (fun vv s₅ h₅ => wpAny_bind (wpAny_standAt (wpAny_holding (wpAny_mono h₅ (fun _ s₆ h₆ => wpAny_pure ⟨rfl, h₆⟩) fun _ _ h' => h')))) fun _ _ h' => h'))) fun _ _ h' => h'))
/-- the second clause's start -/
theorem compStartD1_ok (h0 : codeAny (model prog w) A (.compLoop (.DictComp kx vx [⟨t0, i0, ifs0, 0⟩, ⟨t1, i1, ifs1, 0⟩] scope pos) 1 it (.ref D) env) R s)
    (h : wpAny (model prog w) A (pyIter it) (fun it' s' => codeAny (model prog w) A (.compLoop (.DictComp kx vx [⟨t0, i0, ifs0, 0⟩, ⟨t1, i1, ifs1, 0⟩] scope pos) 1 it' (.ref D) env) R s')
      (notedBy (model prog w) A env fun x s' => R (.error x) s') s) :
    codeAny (model prog w) A (.compStart (.DictComp kx vx [⟨t0, i0, ifs0, 0⟩, ⟨t1, i1, ifs1, 0⟩] scope pos) 1 it (.ref D) env) R s := by
  refine codeAny_of_tree ?_
  show wpAny _ _ ((compStart (.DictComp kx vx [⟨t0, i0, ifs0, 0⟩, ⟨t1, i1, ifs1, 0⟩] scope pos) 1 it (.ref D) env).onRaise (fun x => do noteFrame x env; standAt theWindowsPlace)) _ _ s
  refine wpAny_notedAt ?_
  unfold compStart
  show wpAny _ _ (ask >>= _) _ _ s
  refine wpAny_bind (wpAny_askSetting (wpAny_ite ?_))
  split
  · first
      | exact wpAny_bind (wpAny_pure (wpAny_pure (And.intro rfl h0)))
      | exact wpAny_pure (And.intro rfl h0)
  · first
      | exact wpAny_bind (wpAny_rule (wpAny_bind (wpAny_standAt (wpAny_bind (wpAny_mono h (fun it' s' h' => wpAny_pure (And.intro rfl h')) fun _ _ x => x)))))
      | (refine wpAny_bind (wpAny_rule ?_); show wpAny _ _ (standAt i1.pos >>= _) _ _ s; exact wpAny_bind (wpAny_standAt (wpAny_bind (wpAny_mono h (fun it' s' h' => wpAny_pure (And.intro rfl h')) fun _ _ x => x))))
end

section
variable {X : Cx}
/-- [elt for tg in iter if .. for tg1 in iter1 if ..]: behind the first clause's store and tests the second source's own loop, from which Nx is reached. vs: the block's names; vs1: those of the second target -/
def tDc2 (wi : TI) (g : TG) (tt : TT) (wi1 : TI) (g1 : TG) (tt1 : TT) (tk tv : TE) (vs vs1 : List Nat) : TE := fun σ H Q => wi σ H fun J H1 => ∀ D, H1 D = none → ∃ W : Nat → Nat → Hp → Prop, (∃ m, W 0 m (upd H1 D (.dK []))) ∧ ∀ i m H, W i m H →
  (J.stop i H ∧ Q (.ref D) H) ∨ (J.go i H ∧ ∃ Nx : Hp → Prop, (∀ H', Nx H' → ∃ m', m' < m ∧ W (i + 1) m' H') ∧ ∀ x H', J.yld i H x H' → g x (wipe σ vs) H' fun σ2 H2 => wipe σ2 vs = wipe σ vs ∧ tt σ2 H2 fun b H3 =>
    if b = true then wi1 σ2 H3 fun J1 H4 => ∃ W1 : Nat → Nat → Hp → Prop, (∃ m, W1 0 m H4) ∧ ∀ j k H, W1 j k H →
      (J1.stop j H ∧ Nx H) ∨ (J1.go j H ∧ ∃ Nx1 : Hp → Prop, (∀ H', Nx1 H' → ∃ k', k' < k ∧ W1 (j + 1) k' H') ∧ ∀ x H', J1.yld j H x H' → g1 x (wipe σ2 vs1) H' fun σ3 H5 => wipe σ3 vs1 = wipe σ2 vs1 ∧ tt1 σ3 H5 fun b H6 =>
        if b = true then tk σ3 H6 fun y H7 => tv σ3 H7 fun z H8 => ∃ kvs k, y = kV k ∧ H8 D = some (.dK kvs) ∧ kvs.length < sizeLine ∧ Nx1 (upd H8 D (.dK (putK kvs k z))) else Nx1 H6)
    else Nx H3)
theorem dc2_core {pins : List (Addr × Obj)} {s : Shared} {σ : L2.St} {H : Hp} {Q : VK} {kx vx tg iter tg1 iter1 : Expr} {ifs ifs1 : List Expr} {scope : Scope} {own : List (Str × Nat)} {vs1 : List Nat} {pos pos' : Pos} {wi wi1 : TI} {g g1 : TG} {tt tt1 : TT} {tk tv : TE} {use : Option (Value → Sem Unit)} {Qf : Value → Shared → Prop}
    (hc : X.calm = true) (hN : X.N.Nodup) (I : Inv X pins σ H s) (hi : PI X tg iter wi) (ok : BlkOk X.N X.env.scope scope own) (hv : ∀ i ∈ vs1, i ∈ own.map (·.2))
    (hg : ∀ (s : Shared) (H : Hp) (C : Addr) (cl : List (Str × Addr)) (fp : List Addr), PG (X.blk s H scope (compEnvC scope cl C X.env) fp) tg g) (ht : ∀ (s : Shared) (H : Hp) (C : Addr) (cl : List (Str × Addr)) (fp : List Addr), PTs (X.blk s H scope (compEnvC scope cl C X.env) fp) ifs tt)
    (hk : ∀ (s : Shared) (H : Hp) (C : Addr) (cl : List (Str × Addr)) (fp : List Addr), PE (X.blk s H scope (compEnvC scope cl C X.env) fp) kx tk)
    (he : ∀ (s : Shared) (H : Hp) (C : Addr) (cl : List (Str × Addr)) (fp : List Addr), PE (X.blk s H scope (compEnvC scope cl C X.env) fp) vx tv) (hs : ∀ x, foldedSetIterable iter X.env x = pure x)
    (hi1 : ∀ (s : Shared) (H : Hp) (C : Addr) (cl : List (Str × Addr)) (fp : List Addr), PI (X.blk s H scope (compEnvC scope cl C X.env) fp) tg1 iter1 wi1)
    (hg1 : ∀ (s : Shared) (H : Hp) (C : Addr) (cl : List (Str × Addr)) (fp : List Addr), PG (X.blk s H scope (compEnvC scope cl C X.env) fp) tg1 g1)
    (ht1 : ∀ (s : Shared) (H : Hp) (C : Addr) (cl : List (Str × Addr)) (fp : List Addr), PTs (X.blk s H scope (compEnvC scope cl C X.env) fp) ifs1 tt1)
    (hs1 : ∀ env x, foldedSetIterable iter1 env x = pure x)
    (h : tDc2 wi g tt wi1 g1 tt1 tk tv (own.map (·.2)) vs1 σ H Q)
    (hRR : ∀ D C s' m H', Inv X pins σ H' s' → Q (.ref D) H' → s'.heap.Ns C m → FpOk X pins H' C → compPost (model X.prog X.w) X.A X.xe use Qf (.ref D) C (.ok .next) s') :
    wpAny (model X.prog X.w) X.A (comprehension (.DictComp kx vx [⟨tg, iter, ifs, 0⟩, ⟨tg1, iter1, ifs1, 0⟩] scope pos) scope X.env pos' newDict false (eval iter X.env) use) Qf X.xe s := by
  have hfree : ∀ y ∈ scope.names, y.2 = .free → ∃ c, X.env.cells.lookup y.1 = some c := fun y hy e => by
    rcases ok.free y hy e with k | k
    · exact I.ok.has _ (.inl k)
    · exact I.ok.has _ (.inr k)
  refine wpAny_comprehension_free (use := use) rfl hs (closure_ok hfree) ok.kind (fun y hy e => by rw [ok.uniq y hy, e])
    (thn (hi.run pins s σ H _ I h) fun xv s1 hx => thn hx fun itv s2 h2 => ?_)
  obtain ⟨it, fp, tn, J, H2, e, I2, T, st2, f2, q⟩ := h2
  subst e
  refine wpAny_newObj_type (newEnv_comp ?_)
  generalize hD : s2.heap.objs.size = D
  have hDn : H2 D = none := I2.hok.fresh (Nat.le_of_eq hD)
  obtain ⟨W, ⟨m0, w0⟩, turn⟩ := q D hDn
  -- the new list
  generalize hs3 : ({ s2 with heap := s2.heap.push { cls := .type "dict", data := .dict #[] } } : Shared) = s3
  have I3 : Inv X pins σ (upd H2 D (.dK [])) s3 := by
    rw [← hs3]
    refine I2.laid (t' := s2.toks) (fun b o e => Heap.get?_push_of_some _ e) (Nat.le_of_eq hD) ?_
    rw [← hD]
    exact dk_empty s2.heap I2.big
  have h3 : s3.heap = s2.heap.push { cls := .type "dict", data := .dict #[] } := by rw [← hs3]
  have sz : ∀ b ∈ fp, b < s2.heap.objs.size := fun b hb => by
    obtain ⟨o, e, _⟩ := T.obj _ _ st2 b hb
    exact Heap.lt_size e
  have f3 : ∀ b ∈ fp, FpOk X pins (upd H2 D (.dK [])) b ∧ b < s3.heap.objs.size := fun b hb => by
    have hlt := sz b hb
    refine ⟨⟨?_, (f2 b hb).2⟩, by rw [h3, Heap.size_push]; exact Nat.lt_succ_of_lt hlt⟩
    rw [upd_ne (by rw [← hD]; exact Nat.ne_of_lt hlt)]
    exact (f2 b hb).1
  have st3 : tn 0 s3.heap := T.keep _ _ _ st2 fun b _ o e => by rw [h3]; exact Heap.get?_push_of_some _ e
  have I4 := block_start I3 ok hN f3
  have pg := hg s3 (upd H2 D (.dK [])) s3.heap.objs.size (cellsFrom (s3.heap.objs.size + 1) scope.names (cloFrom X.env.cells scope.names [])) fp
  have pt := ht s3 (upd H2 D (.dK [])) s3.heap.objs.size (cellsFrom (s3.heap.objs.size + 1) scope.names (cloFrom X.env.cells scope.names [])) fp
  have pk := hk s3 (upd H2 D (.dK [])) s3.heap.objs.size (cellsFrom (s3.heap.objs.size + 1) scope.names (cloFrom X.env.cells scope.names [])) fp
  have pe := he s3 (upd H2 D (.dK [])) s3.heap.objs.size (cellsFrom (s3.heap.objs.size + 1) scope.names (cloFrom X.env.cells scope.names [])) fp
  have pi1 := hi1 s3 (upd H2 D (.dK [])) s3.heap.objs.size (cellsFrom (s3.heap.objs.size + 1) scope.names (cloFrom X.env.cells scope.names [])) fp
  have pg1 := hg1 s3 (upd H2 D (.dK [])) s3.heap.objs.size (cellsFrom (s3.heap.objs.size + 1) scope.names (cloFrom X.env.cells scope.names [])) fp
  have pt1 := ht1 s3 (upd H2 D (.dK [])) s3.heap.objs.size (cellsFrom (s3.heap.objs.size + 1) scope.names (cloFrom X.env.cells scope.names [])) fp
  show codeAny _ _ (.compStart (.DictComp kx vx [⟨tg, iter, ifs, 0⟩, ⟨tg1, iter1, ifs1, 0⟩] scope pos) 0 (.ref it) (.ref D) (compEnvC scope (cellsFrom (s3.heap.objs.size + 1) scope.names (cloFrom X.env.cells scope.names [])) s3.heap.objs.size X.env)) (compPost (model X.prog X.w) X.A X.xe use Qf (.ref D) s3.heap.objs.size) { s3 with heap := pushCells (s3.heap.push { cls := .type "dict", data := .dict #[] }) scope.names }
  have nfp : ∀ b ∈ fp, (upd H2 D (.dK [])) b = none := fun b hb => (f3 b hb).1.1
  generalize hce : compEnvC scope (cellsFrom (s3.heap.objs.size + 1) scope.names (cloFrom X.env.cells scope.names [])) s3.heap.objs.size X.env = ce at I4 pg pt pk pe pi1 pg1 pt1 ⊢
  have cL : ce.locals = s3.heap.objs.size := by subst hce; rfl
  generalize hH3 : upd H2 D (.dK []) = H3 at I3 I4 pg pt pk pe pi1 pg1 pt1 w0 nfp f3
  generalize hs4 : ({ s3 with heap := pushCells (s3.heap.push { cls := .type "dict", data := .dict #[] }) scope.names } : Shared) = s4 at I4 ⊢
  have st4 : tn 0 s4.heap := T.keep _ _ _ st3 fun b _ o e => by rw [← hs4]; exact pushCells_keeps _ _ _ _ (Heap.get?_push_of_some _ e)
  have stat : ∀ {σ' : L2.St} {H' : Hp} {s' : Shared}, Inv (X.blk s3 H3 scope ce fp) [] σ' H' s' → (∀ b ∈ fp, H' b = none) → ∀ b ∈ fp, FpOk (X.blk s3 H3 scope ce fp) [] H' b := fun {σ' H' s'} I' hn b hb =>
    ⟨hn b hb, (I'.ok.exf b hb).1, I'.ok.exfs b hb, .inl hb, fun x c e => (I'.ok.exf b hb).2 x c e, fun p hp => absurd (show p ∈ ([] : List (Addr × Obj)) ++ [] from hp) (by simp)⟩
  have loop : codeAny (model X.prog X.w) X.A (.compLoop (.DictComp kx vx [⟨tg, iter, ifs, 0⟩, ⟨tg1, iter1, ifs1, 0⟩] scope pos) 0 (.ref it) (.ref D) ce) (compPost (model X.prog X.w) X.A X.xe use Qf (.ref D) s3.heap.objs.size) s4 := by
    refine compLoopD2_out (hs1 ce) (fun n s' => ∃ i H', Inv (X.blk s3 H3 scope ce fp) [] (wipe σ (own.map (·.2))) H' s' ∧ tn i s'.heap ∧ (∀ b ∈ fp, H' b = none) ∧ W i n H') ?_ m0 ⟨0, H3, I4, st4, nfp, w0⟩
    rintro n s5 ⟨i, H5, I5, st5, n5, w5⟩
    rcases turn i n H5 w5 with ⟨stop, qq⟩ | ⟨go, Nx, hNx, step⟩
    · have td := T.done (X.blk s3 H3 scope ce fp) rfl rfl rfl hc i [] s5 _ H5 (fun _ _ => False) I5 (stat I5 n5) st5 stop
      refine thnF td fun r s6 ⟨hr, I6⟩ => ?_
      subst hr
      -- back in the def's context
      have I7 : Inv X pins σ H5 s6 := I3.call' (ch := fp) I6.os I6.base I6.hok I6.bare fun b hb => ⟨(f3 b hb).1.2.2.2.1, (f3 b hb).1.2.1, (f3 b hb).1.2.2.2.2.1, (f3 b hb).1.2.2.2.2.2⟩
      have nC : H5 s3.heap.objs.size = none := by
        have z : H5 ce.locals = none := I6.free
        rw [cL] at z
        exact z
      obtain ⟨m, hn, _⟩ := I6.loc
      have hn : s6.heap.Ns ce.locals m := hn
      rw [cL] at hn
      exact hRR D s3.heap.objs.size s6 m H5 I7 qq hn (I3.fpOk (Nat.le_refl _) nC)
    · have ti := T.item (X.blk s3 H3 scope ce fp) rfl rfl rfl hc i [] s5 _ H5 (fun _ _ => False) I5 (stat I5 n5) st5 go
      refine thnF ti fun r s6 ⟨u, hr, h6⟩ => ?_
      subst hr
      refine thnF h6 fun _ s7 ⟨x, H7, I7, r7, y7, st7, n7⟩ => ?_
      have I7' := I7.pinned (stat I7 n7) (T.obj _ _ st7)
      refine thnF (pg.run _ s7 _ H7 x u _ I7' r7 (step x H7 y7)) fun _ s8 ⟨σ8, H8, I8, hw8, q8⟩ => ?_
      refine thnF (pt.run _ s8 σ8 H8 _ I8 q8) fun b s9 ⟨H9, I9, q9⟩ => ?_
      -- the turn's end, from any slots that know what the block knew at its start
      have fin : ∀ {σ9 : L2.St} {s' : Shared} {H' : Hp}, Inv (X.blk s3 H3 scope ce fp) ([] ++ pinsAt fp s7.heap) σ9 H' s' → (wipe σ (own.map (·.2))).length = σ9.length → (∀ (j : Nat) v, (wipe σ (own.map (·.2)))[j]? = some (some v) → σ9[j]? = some (some v)) → Nx H' →
          ∃ m, m < n ∧ ∃ i H', Inv (X.blk s3 H3 scope ce fp) [] (wipe σ (own.map (·.2))) H' s' ∧ tn i s'.heap ∧ (∀ b ∈ fp, H' b = none) ∧ W i m H' := fun {σ9 s' H'} I' hl hk nx => by
        obtain ⟨m', hm, w'⟩ := hNx H' nx
        have pin' : ∀ b ∈ fp, ∀ o, s7.heap.get? b = some o → s'.heap.get? b = some o ∧ H' b = none := fun b hb o e =>
          let z := I'.pin (b, o) (List.mem_append_right _ (List.mem_append_right _ (mem_pinsAt hb e)))
          ⟨z.1, z.2.1⟩
        refine ⟨m', hm, i + 1, H', (I'.unpinned (pins := [])).weak hl hk, T.keep _ _ _ st7 fun b hb o e => (pin' b hb o e).1, fun b hb => ?_, w'⟩
        obtain ⟨o, e, _⟩ := T.obj _ _ st7 b hb
        exact (pin' b hb o e).2
      have hl8 : (wipe σ (own.map (·.2))).length = σ8.length := by rw [← hw8, wipe_length]
      have hk8 : ∀ (j : Nat) v, (wipe σ (own.map (·.2)))[j]? = some (some v) → σ8[j]? = some (some v) := fun j v e => by
        rw [← hw8] at e
        exact (wipe_some e).1
      have hk9 : ∀ (j : Nat) v, (wipe σ (own.map (·.2)))[j]? = some (some v) → (wipe σ8 vs1)[j]? = some (some v) := fun j v e => by
        rw [← hw8] at e
        obtain ⟨e1, e2⟩ := wipe_some e
        rw [wipe_out fun z => e2 (hv j z)]
        exact e1
      cases b with
      | false =>
        simp only [Bool.false_eq_true, if_false] at q9 ⊢
        exact fin I9 hl8 hk8 q9
      | true =>
        simp only [if_true] at q9 ⊢
        refine thnF (pi1.run _ s9 σ8 H9 _ I9 q9) fun xv s10 hx => thnF hx fun itv s11 h11 => ?_
        obtain ⟨it1, fp1, tn1, J1, H11, e1, I11, T1, st11, f11, W1, ⟨m1, w1⟩, turn1⟩ := h11
        subst e1
        -- the inner loop
        have stat1 : ∀ {H' : Hp}, (∀ b ∈ fp1, H' b = none) → ∀ b ∈ fp1, FpOk (X.blk s3 H3 scope ce fp) ([] ++ pinsAt fp s7.heap) H' b := fun hn b hb => ⟨hn b hb, (f11 b hb).2⟩
        have loop1 : codeAny (model X.prog X.w) X.A (.compLoop (.DictComp kx vx [⟨tg, iter, ifs, 0⟩, ⟨tg1, iter1, ifs1, 0⟩] scope pos) 1 (.ref it1) (.ref D) ce)
            (fun r s' => match r with
              | .ok _ => ∃ m, m < n ∧ ∃ i H', Inv (X.blk s3 H3 scope ce fp) [] (wipe σ (own.map (·.2))) H' s' ∧ tn i s'.heap ∧ (∀ b ∈ fp, H' b = none) ∧ W i m H'
              | .error _ => False) s11 := by
          refine compLoopD2_in (fun k s' => ∃ j H', Inv (X.blk s3 H3 scope ce fp) ([] ++ pinsAt fp s7.heap) (wipe σ8 vs1) H' s' ∧ tn1 j s'.heap ∧ (∀ b ∈ fp1, H' b = none) ∧ W1 j k H') ?_ m1 ⟨0, H11, I11.weak (wipe_length _ _) (fun j v e => (wipe_some e).1), st11, fun b hb => (f11 b hb).1, w1⟩
          rintro k s12 ⟨j, H12, I12, st12, n12, w12⟩
          rcases turn1 j k H12 w12 with ⟨stop1, nx1⟩ | ⟨go1, Nx1, hNx1, step1⟩
          · refine thnF (T1.done (X.blk s3 H3 scope ce fp) rfl rfl rfl hc j _ s12 (wipe σ8 vs1) H12 (fun _ _ => False) I12 (stat1 n12) st12 stop1) fun r s13 ⟨hr, I13⟩ => ?_
            subst hr
            exact fin I13 (hl8.trans (wipe_length σ8 vs1).symm) hk9 nx1
          · refine thnF (T1.item (X.blk s3 H3 scope ce fp) rfl rfl rfl hc j _ s12 (wipe σ8 vs1) H12 (fun _ _ => False) I12 (stat1 n12) st12 go1) fun r s13 ⟨u1, hr, h13⟩ => ?_
            subst hr
            refine thnF h13 fun _ s14 ⟨x1, H14, I14, r14, y14, st14, n14⟩ => ?_
            have I14' := I14.pinned (stat1 n14) (T1.obj _ _ st14)
            refine thnF (pg1.run _ s14 (wipe σ8 vs1) H14 x1 u1 _ I14' r14 (step1 x1 H14 y14)) fun _ s15 ⟨σ15, H15, I15, hw15, q15⟩ => ?_
            refine thnF (pt1.run _ s15 σ15 H15 _ I15 q15) fun b1 s16 ⟨H16, I16, q16⟩ => ?_
            have fin1 : ∀ {s' : Shared} {H' : Hp}, Inv (X.blk s3 H3 scope ce fp) (([] ++ pinsAt fp s7.heap) ++ pinsAt fp1 s14.heap) σ15 H' s' → Nx1 H' → ∃ m, m < k ∧ ∃ j H', Inv (X.blk s3 H3 scope ce fp) ([] ++ pinsAt fp s7.heap) (wipe σ8 vs1) H' s' ∧ tn1 j s'.heap ∧ (∀ b ∈ fp1, H' b = none) ∧ W1 j m H' := fun {s' H'} I' nx => by
              obtain ⟨m', hm, w'⟩ := hNx1 H' nx
              have pin' : ∀ b ∈ fp1, ∀ o, s14.heap.get? b = some o → s'.heap.get? b = some o ∧ H' b = none := fun b hb o e =>
                let z := I'.pin (b, o) (List.mem_append_right _ (List.mem_append_right _ (mem_pinsAt hb e)))
                ⟨z.1, z.2.1⟩
              refine ⟨m', hm, j + 1, H', I'.unpinned.weak (by rw [← hw15, wipe_length]) (fun j v e => by rw [← hw15] at e; exact (wipe_some e).1), T1.keep _ _ _ st14 fun b hb o e => (pin' b hb o e).1, fun b hb => ?_, w'⟩
              obtain ⟨o, e, _⟩ := T1.obj _ _ st14 b hb
              exact (pin' b hb o e).2
            cases b1 with
            | false =>
              simp only [Bool.false_eq_true, if_false] at q16 ⊢
              exact fin1 I16 q16
            | true =>
              simp only [if_true] at q16 ⊢
              refine thnF (pk.run _ s16 σ15 H16 _ I16 q16) fun z s17 ⟨yk, H17, I17, r17, q17⟩ => ?_
              refine thnF (pe.run _ s17 σ15 H17 _ I17 q17) fun z2 s18 ⟨yv, H18, I18, r18, kvs, k, ek, hD18, hz18, nx⟩ => ?_
              subst ek
              exact d_dictSet (X := X.blk s3 H3 scope ce fp) I18 hD18 hz18 r17 r18 fun s19 I19 => fin1 I19 nx
        exact compStartD1_ok loop1 (T1.self X.A 0 _ _ _ st11 loop1)
  exact codeAny_compStart_dict loop (T.self X.A 0 _ _ _ st4 loop)
/-- as a value -/
theorem pe_dc2 {kx vx tg iter tg1 iter1 : Expr} {ifs ifs1 : List Expr} {scope : Scope} {own : List (Str × Nat)} {vs1 : List Nat} {pos : Pos} {wi wi1 : TI} {g g1 : TG} {tt tt1 : TT} {tk tv : TE} (hc : X.calm = true) (hN : X.N.Nodup) (hi : PI X tg iter wi) (ok : BlkOk X.N X.env.scope scope own) (hv : ∀ i ∈ vs1, i ∈ own.map (·.2))
    (hg : ∀ (s : Shared) (H : Hp) (C : Addr) (cl : List (Str × Addr)) (fp : List Addr), PG (X.blk s H scope (compEnvC scope cl C X.env) fp) tg g) (ht : ∀ (s : Shared) (H : Hp) (C : Addr) (cl : List (Str × Addr)) (fp : List Addr), PTs (X.blk s H scope (compEnvC scope cl C X.env) fp) ifs tt)
    (hi1 : ∀ (s : Shared) (H : Hp) (C : Addr) (cl : List (Str × Addr)) (fp : List Addr), PI (X.blk s H scope (compEnvC scope cl C X.env) fp) tg1 iter1 wi1)
    (hg1 : ∀ (s : Shared) (H : Hp) (C : Addr) (cl : List (Str × Addr)) (fp : List Addr), PG (X.blk s H scope (compEnvC scope cl C X.env) fp) tg1 g1) (ht1 : ∀ (s : Shared) (H : Hp) (C : Addr) (cl : List (Str × Addr)) (fp : List Addr), PTs (X.blk s H scope (compEnvC scope cl C X.env) fp) ifs1 tt1)
    (hk : ∀ (s : Shared) (H : Hp) (C : Addr) (cl : List (Str × Addr)) (fp : List Addr), PE (X.blk s H scope (compEnvC scope cl C X.env) fp) kx tk)
    (he : ∀ (s : Shared) (H : Hp) (C : Addr) (cl : List (Str × Addr)) (fp : List Addr), PE (X.blk s H scope (compEnvC scope cl C X.env) fp) vx tv) (hs : ∀ x, foldedSetIterable iter X.env x = pure x := by intro _; rfl) (hs1 : ∀ env x, foldedSetIterable iter1 env x = pure x := by intro _ _; rfl) :
    PE X (.DictComp kx vx [⟨tg, iter, ifs, 0⟩, ⟨tg1, iter1, ifs1, 0⟩] scope pos) (tDc2 wi g tt wi1 g1 tt1 tk tv (own.map (·.2)) vs1) := by
  refine ⟨fun pins s σ H Q I h => ?_⟩
  rw [arm_eval_DictComp]
  refine dc2_core hc hN I hi ok hv hg ht hk he hs hi1 hg1 ht1 hs1 h fun D C s' m H' I' q hn f => ⟨m, hn, fun h'' sb => ?_⟩
  obtain ⟨f0, f1, f2, f3, f4, f5⟩ := f
  exact ⟨.ref D, H', I'.turned (t' := s'.toks) (fun b o hb e => (sb.2 b hb).trans e) f0 f1 f3 f4 f5, rfl, q⟩
end
end DL

namespace DL
open PySem PySem.Spec PyProof.Rows L2

/-! ### {k: v for x in xs if .. for y in ys if ..} -/
def turn1M (g : PD → M Unit) (tt : M Bool) (x : PD) : M Bool := bnd (g x) fun _ => tt
def turnKM (g : PD → M Unit) (tt : M Bool) (fk fv : M PD) (x : PD) : M (Option (Key × PD)) := bnd (g x) fun _ => bnd tt fun k => if k = true then bnd fk fun y => bnd fv fun z => ofO ((keyOf y).map fun k => some (k, z)) else ret none
def dcIn (g : PD → M Unit) (tt : M Bool) (fk fv : M PD) (vs : List Nat) : KvL → List PD → M KvL
  | acc, [] => ret acc
  | acc, x :: xs => fun ds => match turnKM g tt fk fv x (wipeD ds vs) with
    | .ok none ds' => dcIn g tt fk fv vs acc xs ds'
    | .ok (some (k, d)) ds' => if acc.length < lim then dcIn g tt fk fv vs (putD acc k d) xs ds' else .err
    | _ => .err
def dcOut (g : PD → M Unit) (tt : M Bool) (fi1 : M (List PD)) (g1 : PD → M Unit) (tt1 : M Bool) (fk fv : M PD) (vs vs1 : List Nat) : KvL → List PD → M KvL
  | acc, [] => ret acc
  | acc, x :: xs => fun ds => match turn1M g tt x (wipeD ds vs) with
    | .ok false ds' => dcOut g tt fi1 g1 tt1 fk fv vs vs1 acc xs ds'
    | .ok true ds' => (match fi1 ds' with
      | .ok ys ds2 => (match dcIn g1 tt1 fk fv vs1 acc ys ds2 with
        | .ok acc' ds3 => dcOut g tt fi1 g1 tt1 fk fv vs vs1 acc' xs ds3
        | _ => .err)
      | _ => .err)
    | _ => .err
def dc2R (g : PD → M Unit) (tt : M Bool) (fi1 : M (List PD)) (g1 : PD → M Unit) (tt1 : M Bool) (fk fv : M PD) (vs vs1 : List Nat) (xs : List PD) : M Cn := fun ds =>
  if noOwn ds vs = true then (match dcOut g tt fi1 g1 tt1 fk fv vs vs1 [] xs ds with
    | .ok acc ds' => .ok (.dic acc) (restD ds ds' vs)
    | _ => .err) else .err
def dc2M (fi : M (List PD)) (g : PD → M Unit) (tt : M Bool) (fi1 : M (List PD)) (g1 : PD → M Unit) (tt1 : M Bool) (fk fv : M PD) (vs vs1 : List Nat) : M Cn := bnd fi (dc2R g tt fi1 g1 tt1 fk fv vs vs1)
section
variable {K : Fg} {O : Ow} {σ : L2.St} {H : Hp} {ds : DS} {vs vs1 : List Nat}
theorem wipe_wipe : ∀ (vs : List Nat), (∀ i ∈ vs1, i ∈ vs) → wipe (wipe σ vs1) vs = wipe σ vs := fun vs hv => by
  refine List.ext_getElem? fun j => ?_
  by_cases hj : j ∈ vs
  · by_cases hlt : j < σ.length
    · rw [wipe_in hj hlt, wipe_in hj (by rw [wipe_length]; exact hlt)]
    · rw [List.getElem?_eq_none (by rw [wipe_length, wipe_length]; omega), List.getElem?_eq_none (by rw [wipe_length]; omega)]
  · rw [wipe_out hj, wipe_out hj, wipe_out (fun z => hj (hv j z))]
theorem wipeD_in {ds : DS} {j : Nat} : ∀ {vs : List Nat}, j ∈ vs → j < ds.length → (wipeD ds vs)[j]? = some none
  | v :: vs, hj, hl => by
    show ((wipeD ds vs).set v none)[j]? = _
    by_cases e : j = v
    · subst e
      rw [List.getElem?_set_self (by rw [wipeD_length]; exact hl)]
    · rw [List.getElem?_set_ne (Ne.symm e)]
      exact wipeD_in ((List.mem_cons.mp hj).elim (fun z => absurd z e) id) hl
theorem wipeD_wipeD : ∀ (vs : List Nat), (∀ i ∈ vs1, i ∈ vs) → wipeD (wipeD ds vs1) vs = wipeD ds vs := fun vs hv => by
  refine List.ext_getElem? fun j => ?_
  by_cases hj : j ∈ vs
  · by_cases hlt : j < ds.length
    · rw [wipeD_in hj hlt, wipeD_in hj (by rw [wipeD_length]; exact hlt)]
    · rw [List.getElem?_eq_none (by rw [wipeD_length, wipeD_length]; omega), List.getElem?_eq_none (by rw [wipeD_length]; omega)]
  · rw [wipeD_out hj, wipeD_out hj, wipeD_out (fun z => hj (hv j z))]
/-- names forgotten -/
theorem Post.forget (s : Sat K O σ H ds) (hv : ∀ i ∈ vs1, i ∈ vs) : Post K (blkP vs) O O σ (wipe σ vs1) H H ds (wipeD ds vs1) := by
  refine ⟨s.wiped, Ext.refl _, fun a h _ => ⟨h, rfl⟩, fun a h => .inr h.wiped, fun i hi => wipe_out fun z => ?_, wipe_length _ _, fun _ h => h⟩
  have : i ∉ vs := by unfold blkP at hi; simpa using hi
  exact this (hv i z)
end
/-- what stays of an object that no slot holds -/
theorem Post.stays {K : Fg} {P : Nat → Bool} {O2 O3 : Ow} {σ2 σ3 : L2.St} {H2 H3 : Hp} {d2 d3 : DS} {D : Addr} (pp : Post K P O2 O3 σ2 σ3 H2 H3 d2 d3) (h1 : O2 D = true) (n : ¬ IsOwn σ2 d2 D) : O3 D = true ∧ H3 D = H2 D ∧ ¬ IsOwn σ3 d3 D := by
  obtain ⟨a1, a2⟩ := pp.frn D h1 n
  exact ⟨a1, a2, fun z => (pp.own D z).elim (fun y => by rw [h1] at y; cases y) n⟩
/-- the object D, which no slot holds, is written -/
theorem Post.wr1 {K : Fg} {P : Nat → Bool} {O : Ow} {σ : L2.St} {H : Hp} {ds : DS} {D : Addr} {o : HO} (s : Sat K O σ H ds) (h1 : O D = true) (n : ¬ IsOwn σ ds D) : Sat K O σ (upd H D o) ds := by
  have hx := hid_upd (H := H) (o := o) h1
  refine ⟨s.len, fun j r e => ?_, s.inj, fun a h => ?_⟩
  · obtain ⟨v, e1, h⟩ := s.slot j r e
    refine ⟨v, e1, ?_⟩
    cases r with
    | dat d => rw [RH, hx]; exact h
    | own c =>
      obtain ⟨a, e2, ho, hc⟩ := h
      have ne : a ≠ D := fun z => n ⟨j, ⟨c, e⟩, by rw [e1, e2, z]⟩
      exact ⟨a, e2, ho, by rw [hx]; exact hc.move (Ext.refl _) (upd_ne ne)⟩
    | scr ns => obtain ⟨a, e2, h⟩ := h; exact ⟨a, e2, by rw [hx]; exact h⟩
    | lck kvs => obtain ⟨a, e2, h⟩ := h; exact ⟨a, e2, by rw [hx]; exact h⟩
  · by_cases z : a = D
    · exact ⟨o, by rw [z, upd_same]⟩
    · rw [upd_ne z]; exact s.trk a h
section
variable {X : Cx} {w : Wi}
theorem dc2_core' {fi fi1 : M (List PD)} {g g1 : PD → M Unit} {tt tt1 : M Bool} {fk fv : M PD} {vs vs1 : List Nat} (hvs : ∀ i ∈ vs1, i ∈ vs) {σ : L2.St} {H : Hp} {Q : VK} (h : rdO X.K w (dc2M fi g tt fi1 g1 tt1 fk fv vs vs1) σ H Q) :
    tDc2 (rdI X.K w fi) (rdG X.K .no (blkP vs) g) (rdT X.K .no tt) (rdI X.K .no fi1) (rdG X.K .no (blkP vs1) g1) (rdT X.K .no tt1) (rdD X.K .no fk) (rdD X.K .no fv) vs vs1 σ H Q := by
  obtain ⟨O, ds, s, q⟩ := h
  unfold dc2M bnd at q
  refine ⟨O, ds, s, ?_⟩
  cases ei : fi ds with
  | err => rw [ei] at q; exact q
  | ex x ds' => rw [ei] at q; exact q
  | ok xs ds1 =>
    rw [ei] at q
    intro J H1 O1 p wk D hD
    have q : RdK X.K w RV.own O1 σ H1 ds1 (dc2R g tt fi1 g1 tt1 fk fv vs vs1 xs ds1) Q := RdK.pre p q
    unfold dc2R at q
    by_cases no : noOwn ds1 vs = true
    · rw [if_pos no] at q
      cases er : dcOut g tt fi1 g1 tt1 fk fv vs vs1 [] xs ds1 with
      | err => rw [er] at q; exact q.elim
      | ex x ds' => rw [er] at q; exact q.elim
      | ok accF dsF =>
        rw [er] at q
        have sw := p.sat.wiped (vs := vs)
        obtain ⟨pf, nD⟩ := Post.fresh (P := nk) (H' := upd H1 D (.dK [])) sw hD (ext_upd hD) upd_nn
        refine ⟨fun i m H' => m = xs.length - i ∧ i ≤ xs.length ∧ ∃ O' ds' acc ak, Post X.K nk O1 O' (wipe σ vs) (wipe σ vs) H1 H' (wipeD ds1 vs) (wipeD ds' vs) ∧ H' D = some (.dK ak) ∧ DqKv X.K (hid O' H') ak acc ∧ O' D = true ∧ ¬ IsOwn (wipe σ vs) (wipeD ds' vs) D ∧
            dcOut g tt fi1 g1 tt1 fk fv vs vs1 acc (xs.drop i) ds' = .ok accF dsF,
          ⟨xs.length, by simp, Nat.zero_le _, own1 O1 D, ds1, [], [], pf, upd_same, .nil, by unfold own1; rw [if_pos rfl], nD, er⟩, ?_⟩
        rintro i m H' ⟨rfl, hi, O', ds', acc, ak, p', hDl, hav, hO', nD', er'⟩
        obtain ⟨go, stop⟩ := wk O' H' p'.ext p'.sat.live
        by_cases hlt : i < xs.length
        · obtain ⟨g1', g2'⟩ := go i _ (List.getElem?_eq_getElem hlt)
          rw [List.drop_eq_getElem_cons hlt] at er'
          refine .inr ⟨g1', fun H5 => ∃ O5 ds5 acc5 ak5, Post X.K nk O1 O5 (wipe σ vs) (wipe σ vs) H1 H5 (wipeD ds1 vs) (wipeD ds5 vs) ∧ H5 D = some (.dK ak5) ∧ DqKv X.K (hid O5 H5) ak5 acc5 ∧ O5 D = true ∧ ¬ IsOwn (wipe σ vs) (wipeD ds5 vs) D ∧
              dcOut g tt fi1 g1 tt1 fk fv vs vs1 acc5 (xs.drop (i + 1)) ds5 = .ok accF dsF, fun H5 ⟨O5, ds5, acc5, av5, r⟩ => ⟨xs.length - (i + 1), by omega, rfl, hlt, O5, ds5, acc5, av5, r⟩, fun v H2 hy => ?_⟩
          obtain ⟨e2, hd⟩ := g2' v H2 hy
          have pg := Post.grow (P := blkP vs) p'.sat e2
          obtain ⟨b1, b2, b3⟩ := pg.stays hO' nD'
          unfold dcOut at er'
          unfold turn1M bnd at er'
          refine ⟨O', wipeD ds' vs, xs[i], pg.sat, hd, ?_⟩
          cases eg : g xs[i] (wipeD ds' vs) with
          | err => rw [eg] at er'; cases er'
          | ex _ _ => rw [eg] at er'; cases er'
          | ok u ds2 =>
            rw [eg] at er'
            intro σ2 H3 O2 p2
            have ek : wipe σ2 vs = wipe σ vs := wipe_keep p2.lenk p2.keep
            obtain ⟨c1, c2, c3⟩ := p2.stays b1 b3
            refine ⟨ek, O2, ds2, p2.sat, ?_⟩
            dsimp only at er'
            cases et : tt ds2 with
            | err => rw [et] at er'; cases er'
            | ex _ _ => rw [et] at er'; cases er'
            | ok k ds3 =>
              rw [et] at er'
              intro H4 O3 p3
              obtain ⟨d1, d2, d3⟩ := p3.stays c1 c3
              have p03 := (p2.trans (p3.anyP (P' := blkP vs)))
              cases k with
              | false =>
                rw [if_neg Bool.false_ne_true]
                have er' : dcOut g tt fi1 g1 tt1 fk fv vs vs1 acc (xs.drop (i + 1)) ds3 = .ok accF dsF := er'
                have pt := p'.trans ((pg.trans p03).wiped ek)
                refine ⟨O3, ds3, acc, ak, pt, by rw [d2, c2, b2]; exact hDl, DqKv.mono (pg.ext.trans p03.ext) _ _ hav, d1, fun z => d3 ?_, er'⟩
                rw [← ek] at z; exact z.wiped
              | true =>
                rw [if_pos rfl]
                refine ⟨O3, ds3, p3.sat, ?_⟩
                dsimp only at er'
                cases ef : fi1 ds3 with
                | err => rw [ef] at er'; cases er'
                | ex _ _ => rw [ef] at er'; cases er'
                | ok ys ds4 =>
                  rw [ef] at er'
                  dsimp only at er'
                  cases eo : dcIn g1 tt1 fk fv vs1 acc ys ds4 with
                  | err => rw [eo] at er'; cases er'
                  | ex _ _ => rw [eo] at er'; cases er'
                  | ok accI dsI =>
                    rw [eo] at er'
                    intro J1 H6 O4 p4 wk1
                    obtain ⟨f1, f2, f3⟩ := p4.stays d1 d3
                    have p04 := p03.trans (p4.anyP (P' := blkP vs))
                    have hD6 : H6 D = some (.dK ak) := by rw [f2, d2, c2, b2]; exact hDl
                    have hav6 := DqKv.mono (pg.ext.trans p04.ext) _ _ hav
                    have pfo := Post.forget (vs := vs) (vs1 := vs1) p4.sat hvs
                    have nD6 : ¬ IsOwn (wipe σ2 vs1) (wipeD ds4 vs1) D := fun z => f3 z.wiped
                    have e21 : wipe (wipe σ2 vs1) vs = wipe σ vs := (wipe_wipe vs hvs).trans ek
                    -- the inner loop
                    refine ⟨fun j k H' => k = ys.length - j ∧ j ≤ ys.length ∧ ∃ O' ds' acc' ak', Post X.K (blkP vs) O1 O' (wipe σ vs) (wipe σ2 vs1) H1 H' (wipeD ds1 vs) (wipeD ds' vs1) ∧ Ext (hid O4 H6) (hid O' H') ∧ H' D = some (.dK ak') ∧ DqKv X.K (hid O' H') ak' acc' ∧ O' D = true ∧ ¬ IsOwn (wipe σ2 vs1) (wipeD ds' vs1) D ∧
                        dcIn g1 tt1 fk fv vs1 acc' (ys.drop j) ds' = .ok accI dsI,
                      ⟨ys.length, by simp, Nat.zero_le _, O4, ds4, acc, ak, (((p'.anyP (P' := blkP vs)).trans (pg.trans p04)).trans pfo), Ext.refl _, hD6, hav6, f1, nD6, eo⟩, ?_⟩
                    rintro j m1 H7 ⟨rfl, hj, O7, ds7, acc7, ak7, p7, x7, hD7, hav7, hO7, nD7, er7⟩
                    obtain ⟨go1, stop1⟩ := wk1 O7 H7 x7 p7.sat.live
                    by_cases hlj : j < ys.length
                    · obtain ⟨g1j, g2j⟩ := go1 j _ (List.getElem?_eq_getElem hlj)
                      rw [List.drop_eq_getElem_cons hlj] at er7
                      refine .inr ⟨g1j, fun H' => ∃ O' ds' acc' ak', Post X.K (blkP vs) O1 O' (wipe σ vs) (wipe σ2 vs1) H1 H' (wipeD ds1 vs) (wipeD ds' vs1) ∧ Ext (hid O4 H6) (hid O' H') ∧ H' D = some (.dK ak') ∧ DqKv X.K (hid O' H') ak' acc' ∧ O' D = true ∧ ¬ IsOwn (wipe σ2 vs1) (wipeD ds' vs1) D ∧
                          dcIn g1 tt1 fk fv vs1 acc' (ys.drop (j + 1)) ds' = .ok accI dsI, fun H' ⟨O', ds', acc', ak', r⟩ => ⟨ys.length - (j + 1), by omega, rfl, hlj, O', ds', acc', ak', r⟩, fun v H8 hy => ?_⟩
                      obtain ⟨e8, hd8⟩ := g2j v H8 hy
                      have pg8 := Post.grow (P := blkP vs1) p7.sat e8
                      obtain ⟨b1', b2', b3'⟩ := pg8.stays hO7 nD7
                      unfold dcIn at er7
                      unfold turnKM bnd at er7
                      refine ⟨O7, wipeD ds7 vs1, ys[j], pg8.sat, hd8, ?_⟩
                      cases eg1 : g1 ys[j] (wipeD ds7 vs1) with
                      | err => rw [eg1] at er7; cases er7
                      | ex _ _ => rw [eg1] at er7; cases er7
                      | ok u ds9 =>
                        rw [eg1] at er7
                        intro σ3 H9 O9 p9
                        have ek9 : wipe σ3 vs1 = wipe σ2 vs1 := wipe_keep p9.lenk p9.keep
                        obtain ⟨c1', c2', c3'⟩ := p9.stays b1' b3'
                        refine ⟨ek9, O9, ds9, p9.sat, ?_⟩
                        dsimp only at er7
                        cases et1 : tt1 ds9 with
                        | err => rw [et1] at er7; cases er7
                        | ex _ _ => rw [et1] at er7; cases er7
                        | ok kk ds10 =>
                          rw [et1] at er7
                          intro H10 O10 p10
                          obtain ⟨d1', d2', d3'⟩ := p10.stays c1' c3'
                          have p010 := (p9.trans (p10.anyP (P' := blkP vs1)))
                          cases kk with
                          | false =>
                            rw [if_neg Bool.false_ne_true]
                            have er7 : dcIn g1 tt1 fk fv vs1 acc7 (ys.drop (j + 1)) ds10 = .ok accI dsI := er7
                            have pt := p7.trans (((pg8.trans p010).wiped ek9).anyP (P' := blkP vs))
                            refine ⟨O10, ds10, acc7, ak7, pt, x7.trans (pg8.ext.trans p010.ext), by rw [d2', c2', b2']; exact hD7, DqKv.mono (pg8.ext.trans p010.ext) _ _ hav7, d1', fun z => d3' ?_, er7⟩
                            rw [← ek9] at z; exact z.wiped
                          | true =>
                            rw [if_pos rfl]
                            refine ⟨O10, ds10, p10.sat, ?_⟩
                            simp only [if_true] at er7
                            cases ek1 : fk ds10 with
                            | err => rw [ek1] at er7; cases er7
                            | ex _ _ => rw [ek1] at er7; cases er7
                            | ok yk ds11 =>
                              rw [ek1] at er7
                              intro vk H11 O11 p11 hk11
                              obtain ⟨h1', h2', h3'⟩ := p11.stays d1' d3'
                              refine ⟨O11, ds11, p11.sat, ?_⟩
                              dsimp only at er7
                              cases ev1 : fv ds11 with
                              | err => rw [ev1] at er7; cases er7
                              | ex _ _ => rw [ev1] at er7; cases er7
                              | ok yv ds12 =>
                                rw [ev1] at er7
                                intro vv H12 O12 p12 hv12
                                obtain ⟨i1', i2', i3'⟩ := p12.stays h1' h3'
                                dsimp only at er7
                                cases ekey : keyOf yk with
                                | none => rw [ekey] at er7; cases er7
                                | some key =>
                                  rw [ekey] at er7
                                  have er7 : (if acc7.length < lim then dcIn g1 tt1 fk fv vs1 (putD acc7 key yv) (ys.drop (j + 1)) ds12 else .err) = .ok accI dsI := er7
                                  by_cases hlen : acc7.length < lim
                                  · rw [if_pos hlen] at er7
                                    have p012 := (p010.trans (p11.anyP (P' := blkP vs1))).trans (p12.anyP (P' := blkP vs1))
                                    have hav12 := DqKv.mono (pg8.ext.trans p012.ext) _ _ hav7
                                    have ekv := keyOf_dq hk11 ekey
                                    subst ekv
                                    have hD12 : H12 D = some (.dK ak7) := by rw [i2', h2', d2', c2', b2']; exact hD7
                                    refine ⟨ak7, key, rfl, hD12, by rw [hav7.length]; exact lt_line hlen, ?_⟩
                                    have pt := p7.trans (((pg8.trans p012).wiped ek9).anyP (P' := blkP vs))
                                    have nDw : ¬ IsOwn (wipe σ2 vs1) (wipeD ds12 vs1) D := fun z => i3' (by rw [← ek9] at z; exact z.wiped)
                                    have hx := hid_upd (H := H12) (o := .dK (putK ak7 key vv)) i1'
                                    exact ⟨O12, ds12, putD acc7 key yv, putK ak7 key vv, pt.wr sw hD i1' nDw, by rw [hx]; exact x7.trans (pg8.ext.trans p012.ext), upd_same, by rw [hx]; exact hav12.put hv12, i1', nDw, er7⟩
                                  · rw [if_neg hlen] at er7; cases er7
                    · have ej : j = ys.length := by omega
                      subst ej
                      rw [List.drop_length] at er7
                      have er7 : Rs.ok acc7 ds7 = .ok accI dsI := er7
                      cases er7
                      refine .inl ⟨stop1, ?_⟩
                      have pt := p7.wiped e21
                      rw [wipeD_wipeD vs hvs] at pt
                      refine ⟨O7, dsI, accI, ak7, pt, hD7, hav7, hO7, fun z => nD7 ?_, er'⟩
                      obtain ⟨jj, ⟨c, z1⟩, z2⟩ := z
                      obtain ⟨z3, z4⟩ := wipeD_some z1
                      have z5 : jj ∉ vs1 := fun t => z4 (hvs jj t)
                      rw [← e21, wipe_out z4] at z2
                      exact ⟨jj, ⟨c, by rw [wipeD_out z5]; exact z3⟩, z2⟩
        · have e : i = xs.length := by omega
          subst e
          rw [List.drop_length] at er'
          have er' : Rs.ok acc ds' = .ok accF dsF := er'
          cases er'
          have pr := Post.rest p.sat no p'
          refine .inl ⟨stop, q _ H' O' pr ⟨D, rfl, hD, hO', fun ⟨j, hj⟩ => ?_, ak, hDl, hav⟩⟩
          rcases pr.own D ⟨j, hj⟩ with z | z
          · obtain ⟨⟨c, e1⟩, e2⟩ := hj
            by_cases hv : j ∈ vs
            · exact noOwn_at no (restD_in hv e1) hv
            · rw [restD_out hv] at e1
              exact nD' ⟨j, ⟨c, by rw [wipeD_out hv]; exact e1⟩, by rw [wipe_out hv]; exact e2⟩
          · obtain ⟨j', ⟨c, e1⟩, e2⟩ := z
            obtain ⟨v', e3, a, e4, ho, _⟩ := p.sat.slot j' _ e1
            subst e4
            rw [e2] at e3; cases e3
            obtain ⟨o, ho'⟩ := p.sat.trk _ ho
            rw [hD] at ho'; cases ho'
    · rw [if_neg no] at q; exact q.elim
/-- {k: v for tg in iter if .. for tg1 in iter1 if ..} -/
theorem oe_dc2 {kx vx tg iter tg1 iter1 : Expr} {ifs ifs1 : List Expr} {scope : Scope} {own : List (Str × Nat)} {vs1 : List Nat} {pos : Pos} {fi fi1 : M (List PD)} {g g1 : PD → M Unit} {tt tt1 : M Bool} {fk fv : M PD} (hc : X.calm = true) (hN : X.N.Nodup) (hi : DI X w tg iter fi) (ok : BlkOk X.N X.env.scope scope own) (hv : ∀ i ∈ vs1, i ∈ own.map (·.2))
    (hg : ∀ (s : Shared) (H : Hp) (C : Addr) (cl : List (Str × Addr)) (fp : List Addr), DG (X.blk s H scope (compEnvC scope cl C X.env) fp) .no (blkP (own.map (·.2))) tg g) (ht : ∀ (s : Shared) (H : Hp) (C : Addr) (cl : List (Str × Addr)) (fp : List Addr), DTs (X.blk s H scope (compEnvC scope cl C X.env) fp) .no ifs tt)
    (hi1 : ∀ (s : Shared) (H : Hp) (C : Addr) (cl : List (Str × Addr)) (fp : List Addr), DI (X.blk s H scope (compEnvC scope cl C X.env) fp) .no tg1 iter1 fi1)
    (hg1 : ∀ (s : Shared) (H : Hp) (C : Addr) (cl : List (Str × Addr)) (fp : List Addr), DG (X.blk s H scope (compEnvC scope cl C X.env) fp) .no (blkP vs1) tg1 g1) (ht1 : ∀ (s : Shared) (H : Hp) (C : Addr) (cl : List (Str × Addr)) (fp : List Addr), DTs (X.blk s H scope (compEnvC scope cl C X.env) fp) .no ifs1 tt1)
    (hk : ∀ (s : Shared) (H : Hp) (C : Addr) (cl : List (Str × Addr)) (fp : List Addr), DE (X.blk s H scope (compEnvC scope cl C X.env) fp) .no kx fk) (he : ∀ (s : Shared) (H : Hp) (C : Addr) (cl : List (Str × Addr)) (fp : List Addr), DE (X.blk s H scope (compEnvC scope cl C X.env) fp) .no vx fv)
    (hs : ∀ x, foldedSetIterable iter X.env x = pure x := by intro _; rfl) (hs1 : ∀ env x, foldedSetIterable iter1 env x = pure x := by intro _ _; rfl) :
    OE X w (.DictComp kx vx [⟨tg, iter, ifs, 0⟩, ⟨tg1, iter1, ifs1, 0⟩] scope pos) (dc2M fi g tt fi1 g1 tt1 fk fv (own.map (·.2)) vs1) := (pe_dc2 hc hN hi ok hv hg ht hi1 hg1 ht1 hk he hs hs1).weak fun σ H Q q => dc2_core' hv q
end
end DL

namespace DL
open PySem PySem.Spec PyProof.Rows L2

/-! ### y = [..] on one line -/
section
variable {X : Cx} {w : Wi}
theorem RdK.sto {K : Fg} {P : Nat → Bool} {O : Ow} {σ : L2.St} {H : Hp} {ds : DS} {α : Type} {tr : α → RV} {fa : M α} {i : Nat} {D : Ends} (s : Sat K O σ H ds) (q : RdS K w P O σ H ds (stM i tr fa ds) D) (hi : P i = false) : RdK K w tr O σ H ds (fa ds) (fun v H1 => D.nx (σ.set i (some v)) H1) :=
  RdK.bindS0 q fun a v H1 O1 ds1 p rv q1 => q1 _ H1 O1 (Post.store s p rv hi)
theorem ds_setLc {P : Nat → Bool} {i : Nat} {y : Str} {py : Pos} {elt tg iter : Expr} {ifs : List Expr} {scope : Scope} {own : List (Str × Nat)} {pos spos : Pos} {fi : M (List PD)} {g : PD → M Unit} {tt : M Bool} {fe : M PD} (hc : X.calm = true) (hN : X.N.Nodup) (hy : X.N[i]? = some y) (hyl : X.env.scope.names.lookup y = some .local)
    (hsw : swapsWith (.ListComp elt [⟨tg, iter, ifs, 0⟩] scope pos) (some (.Name y py)) spos.line X.env = pure true) (hi : DI X w tg iter fi) (ok : BlkOk X.N X.env.scope scope own)
    (hg : ∀ (s : Shared) (H : Hp) (C : Addr) (cl : List (Str × Addr)) (fp : List Addr), DG (X.blk s H scope (compEnvC scope cl C X.env) fp) .no (blkP (own.map (·.2))) tg g) (ht : ∀ (s : Shared) (H : Hp) (C : Addr) (cl : List (Str × Addr)) (fp : List Addr), DTs (X.blk s H scope (compEnvC scope cl C X.env) fp) .no ifs tt)
    (he : ∀ (s : Shared) (H : Hp) (C : Addr) (cl : List (Str × Addr)) (fp : List Addr), DE (X.blk s H scope (compEnvC scope cl C X.env) fp) .no elt fe) (hP : P i = false := by rfl) (hs : ∀ x, foldedSetIterable iter X.env x = pure x := by intro _; rfl) :
    DS' X w P (.Assign [.Name y py] (.ListComp elt [⟨tg, iter, ifs, 0⟩] scope pos) spos) (stM i .own (lcM fi g tt fe (own.map (·.2)))) := (ps_setLc hc hN hy hyl hsw hi ok hg ht he hs).weak fun D σ H ⟨O, ds, s, q⟩ =>
  lc_core' ⟨O, ds, s, RdK.sto s q hP⟩
end
/-! ### any value -/
section
variable {X : Cx} {w : Wi} {e a b : Expr} {pos : Pos} {α : Type} {tr : α → RV} {f : M α}
/-- a reading's values as values of any kind -/
def anyV (tr : α → RV) (f : M α) : M RV := bnd f fun a => ret (tr a)
theorem ve_of (h : PE X e (rd X.K w tr f)) : VE X w e (anyV tr f) := h.weak fun σ H Q ⟨O, ds, s, q⟩ =>
  ⟨O, ds, s, RdK.bind0 q fun a v H1 O1 ds1 p rv h1 => h1 v H1 O1 p rv⟩
/-- script[lo:hi] -/
def ssl (i : Nat) (fl fh : M (Option Int)) : M Cn := bnd (getS i) fun _ => bnd fl fun l => bnd fh fun h => bnd (getS i) fun ns => ret (.lst ((cutD (ns.map .int) l h)))
theorem oe_ssl {i : Nat} {lo hi : Option Expr} {fl fh : M (Option Int)} {p2 : Pos} (ha : PE X a (tVar i)) (hl : DO X w lo fl) (hh : DO X w hi fh) : OE X w (.Subscript a (.Slice lo hi none p2) pos) (ssl i fl fh) :=
  (pe_slice sl_list ha hl hh).weak fun σ H Q ⟨O, ds, s, q⟩ => by
  obtain ⟨ns0, p0, e0, e1, hq0, q⟩ := RdK.getS s q
  refine ⟨_, e1, O, ds, s, ?_⟩
  unfold bnd at q
  cases e : fl ds with
  | ex x ds' => rw [e] at q; exact q
  | err => rw [e] at q; exact q
  | ok lo' ds2 =>
    rw [e] at q
    intro H2 O2 p2
    have q := RdK.pre p2 q
    refine ⟨O2, ds2, p2.sat, ?_⟩
    dsimp only at q
    cases e2 : fh ds2 with
    | ex x ds' => rw [e2] at q; exact q
    | err => rw [e2] at q; exact q
    | ok hi' ds3 =>
      rw [e2] at q
      intro H3 O3 p3
      have q : RdK X.K w RV.own O2 σ H2 ds2 (bnd (getS i) (fun ns => ret (Cn.lst (cutD (ns.map .int) lo' hi'))) ds3) Q := q
      have q := RdK.pre p3 q
      obtain ⟨ns, p', e3, e4, hq, h3⟩ := RdK.getS p3.sat q
      rw [e1] at e4; cases e4
      exact ⟨p0, _, rfl, hid_ext.sqL hq, fun r hr => (RdK.kok p3.sat h3).newL hr ((dqAll_ints ns).cut _ _)⟩
end
/-! ### dicts that are walked -/
def noLck (ds : DS) : Bool := ds.all fun o => match o with
  | some (.lck _) => false
  | _ => true
theorem noLck_at {ds : DS} {j : Nat} {kvs : KvL} (h : noLck ds = true) (e : ds[j]? = some (some (.lck kvs))) : False := by
  have := List.all_eq_true.mp h _ (List.mem_of_getElem? e)
  cases this
def lockM {α : Type} (i : Nat) (f : M α) : M α := fun ds => match ds[i]? with
  | some (some (.dat (.dict kvs))) => (match f (ds.set i (some (.lck kvs))) with
    | .ok a ds' => if noLck (ds'.set i (some (.dat (.dict kvs)))) = true then .ok a (ds'.set i (some (.dat (.dict kvs)))) else .err
    | _ => .err)
  | _ => .err
section
variable {K : Fg} {P : Nat → Bool} {O O' : Ow} {σ : L2.St} {H H' : Hp} {ds ds' : DS}
theorem CH.moveR {G G' : Hp} {a : Addr} {c : Cn} (x : ExR G G') (e : H' a = H a) (h : CH K G H a c) : CH K G' H' a c := by
  cases c with
  | lst xs => obtain ⟨vs, h1, h2⟩ := h; exact ⟨vs, e.trans h1, DqAll.monoR x _ _ h2⟩
  | dic kvs => obtain ⟨ks, h1, h2⟩ := h; exact ⟨ks, e.trans h1, DqKv.monoR x _ _ h2⟩
  | dit kvs => obtain ⟨ks, h1, h2⟩ := h; exact ⟨ks, e.trans h1, DqTv.monoR x _ _ h2⟩
/-- a thing at d, no own one, is locked or unlocked -/
theorem exR_upd {d : Addr} {o : HO} (hd : ∀ u, NF u → Rd H d u → Rd (upd H d o) d u) (hnl : ∀ xs, H d ≠ some (.lst xs)) : ExR (hid O H) (hid O (upd H d o)) := ⟨fun a xs h => by
  obtain ⟨h1, h2⟩ := hid_some h
  rw [hid_of h1, upd_ne (fun z => hnl xs (by rw [← z]; exact h2))]
  exact h2, fun a u nf h => by
  have ho : O a = false := by
    rcases h with h | ⟨x, h⟩
    · exact (hid_some h).1
    · exact (hid_some h).1
  have e1 : hid O H a = H a := hid_of ho
  have e2 : hid O (upd H d o) a = upd H d o a := hid_of ho
  unfold Rd at h ⊢
  rw [e1] at h
  rw [e2]
  by_cases z : a = d
  · subst z; exact hd u nf h
  · rw [upd_ne z]; exact h⟩
theorem Sat.turned {d : Addr} {o : HO} {i : Nat} {r : RV} (s : Sat K O σ H ds) (hO : O d = false) (hd : ∀ u, NF u → Rd H d u → Rd (upd H d o) d u) (hnl : ∀ xs, H d ≠ some (.lst xs)) (hr : ∃ v, σ[i]? = some (some v) ∧ RH K O (upd H d o) v r) (hn : r.isOwn = false)
    (nl : ∀ (j : Nat) (kvs : KvL) (a : Addr), j ≠ i → ds[j]? = some (some (.lck kvs)) → σ[j]? = some (some (.ref a)) → a ≠ d) : Sat K O σ (upd H d o) (ds.set i (some r)) := by
  have x := exR_upd (O := O) hd hnl
  have own_at : ∀ j b, OwnAt σ (ds.set i (some r)) j b → OwnAt σ ds j b := by
    rintro j b ⟨⟨c, e3⟩, e4⟩
    by_cases hj : j = i
    · subst hj
      have hlt : j < ds.length := by
        have := (List.getElem?_eq_some_iff.mp e3).1
        simpa using this
      rw [List.getElem?_set_self hlt] at e3
      cases e3; cases hn
    · rw [List.getElem?_set_ne (Ne.symm hj)] at e3
      exact ⟨⟨c, e3⟩, e4⟩
  refine ⟨by simp [s.len], fun j r' e3 => ?_, fun j k b h1 h2 => s.inj j k b (own_at j b h1) (own_at k b h2), fun b hb => ?_⟩
  · by_cases hj : j = i
    · subst hj
      have hlt : j < ds.length := by
        have := (List.getElem?_eq_some_iff.mp e3).1
        simpa using this
      rw [List.getElem?_set_self hlt] at e3
      cases e3; exact hr
    · rw [List.getElem?_set_ne (Ne.symm hj)] at e3
      obtain ⟨v, e5, h⟩ := s.slot j r' e3
      refine ⟨v, e5, ?_⟩
      cases r' with
      | dat d => exact Dq.monoR x _ _ h
      | own c =>
        obtain ⟨b, e6, hb, hc⟩ := h
        exact ⟨b, e6, hb, hc.moveR x (upd_ne fun z => by rw [z, hO] at hb; cases hb)⟩
      | scr ns => obtain ⟨b, e6, h⟩ := h; exact ⟨b, e6, x.sqL h⟩
      | lck kvs =>
        obtain ⟨b, e6, od, h⟩ := h
        subst e6
        have ne := nl j kvs b hj e3 e5
        have hb : ∀ u, hid O H b = some u → hid O (upd H d o) b = some u := fun u hu => by
          obtain ⟨h1, h2⟩ := hid_some hu
          rw [hid_of h1, upd_ne ne]; exact h2
        rcases h with ⟨ks, h1, h2⟩ | ⟨ks, h1, h2⟩
        · exact ⟨b, rfl, od, .inl ⟨ks, hb _ h1, DqKv.monoR x _ _ h2⟩⟩
        · exact ⟨b, rfl, od, .inr ⟨ks, hb _ h1, DqTv.monoR x _ _ h2⟩⟩
  · by_cases z : b = d
    · exact ⟨o, by rw [z, upd_same]⟩
    · rw [upd_ne z]; exact s.trk b hb
theorem IsOwn.reslot {i : Nat} {r : RV} (hn : r.isOwn = false) {b : Addr} (h : IsOwn σ (ds.set i (some r)) b) : IsOwn σ ds b := by
  obtain ⟨j, ⟨c, e3⟩, e4⟩ := h
  by_cases hj : j = i
  · subst hj
    have hlt : j < ds.length := by
      have := (List.getElem?_eq_some_iff.mp e3).1
      simpa using this
    rw [List.getElem?_set_self hlt] at e3
    cases e3; cases hn
  · rw [List.getElem?_set_ne (Ne.symm hj)] at e3
    exact ⟨j, ⟨c, e3⟩, e4⟩
theorem Sat.reslot {i : Nat} {r : RV} {v : V} (s : Sat K O σ H ds) (e1 : σ[i]? = some (some v)) (hr : RH K O H v r) (hn : r.isOwn = false) : Sat K O σ H (ds.set i (some r)) := by
  have own_at : ∀ j b, OwnAt σ (ds.set i (some r)) j b → OwnAt σ ds j b := by
    rintro j b ⟨⟨c, e3⟩, e4⟩
    by_cases hj : j = i
    · subst hj
      have hlt : j < ds.length := by
        have := (List.getElem?_eq_some_iff.mp e3).1
        simpa using this
      rw [List.getElem?_set_self hlt] at e3
      cases e3; cases hn
    · rw [List.getElem?_set_ne (Ne.symm hj)] at e3
      exact ⟨⟨c, e3⟩, e4⟩
  refine ⟨by simp [s.len], fun j r' e3 => ?_, fun j k b h1 h2 => s.inj j k b (own_at j b h1) (own_at k b h2), s.trk⟩
  by_cases hj : j = i
  · subst hj
    have hlt : j < ds.length := by
      have := (List.getElem?_eq_some_iff.mp e3).1
      simpa using this
    rw [List.getElem?_set_self hlt] at e3
    cases e3; exact ⟨v, e1, hr⟩
  · rw [List.getElem?_set_ne (Ne.symm hj)] at e3
    exact s.slot j r' e3
theorem rd_lock {d : Addr} {od : Obj} {u : HO} (h : H d = some u) (nf : NF u) : ∀ u', NF u' → Rd H d u' → Rd (upd H d (.frz od u)) d u' := fun u' _ h' => by
  rcases h' with h' | ⟨o', h'⟩
  · rw [h] at h'; cases h'; exact .inr ⟨od, upd_same⟩
  · rw [h] at h'; cases h'; exact absurd rfl (nf _ _)
theorem rd_unlock {d : Addr} {od : Obj} {u : HO} (h : H d = some (.frz od u)) (nf : NF u) : ∀ u', NF u' → Rd H d u' → Rd (upd H d u) d u' := fun u' nf' h' => by
  rcases h' with h' | ⟨o', h'⟩
  · rw [h] at h'; cases h'; exact absurd rfl (nf' _ _)
  · rw [h] at h'; cases h'; exact .inl upd_same
end
section
variable {X : Cx} {w : Wi} {e a : Expr} {α : Type} {tr : α → RV} {f : M α} {i : Nat}
theorem pe_lockM (h : PE X e (rd X.K w tr f)) : PE X e (rd X.K w tr (lockM i f)) := by
  have hl := pe_lock h
  refine ⟨fun pins s σ H Q I ⟨O, ds, sa, q⟩ => ?_⟩
  unfold lockM at q
  cases e0 : ds[i]? with
  | none => rw [e0] at q; exact q.elim
  | some o =>
    cases o with
    | none => rw [e0] at q; exact q.elim
    | some r =>
      cases r with
      | dat d =>
        cases d with
        | dict kvs =>
          rw [e0] at q
          dsimp only at q
          cases ef : f (ds.set i (some (.lck kvs))) with
          | err => rw [ef] at q; exact q.elim
          | ex x ds' => rw [ef] at q; exact q.elim
          | ok z ds' =>
            rw [ef] at q
            dsimp only at q
            by_cases nl : noLck (ds'.set i (some (.dat (.dict kvs)))) = true
            · rw [if_pos nl] at q
              have hi : i < ds.length := (List.getElem?_eq_some_iff.mp e0).1
              obtain ⟨v, e1, hv⟩ := sa.slot i _ e0
              -- the dict's own object
              have key : ∃ d u, v = .ref d ∧ NF u ∧ Mut (some u) ∧ (∀ xs, u ≠ .lst xs) ∧ Rd (hid O H) d u ∧ (∀ (G : Hp) (od : Obj), ExR (hid O H) G → G d = some (.frz od u) → LckAt X.K G d kvs) := by
                cases hv with
                | dic h1 h2 => exact ⟨_, .dK _, rfl, nf_dK _, trivial, (fun xs z => by cases z), h1, fun G od x hg => ⟨od, .inl ⟨_, hg, DqKv.monoR x _ _ h2⟩⟩⟩
                | dit h1 h2 => exact ⟨_, .dT _, rfl, nf_dT _, trivial, (fun xs z => by cases z), h1, fun G od x hg => ⟨od, .inr ⟨_, hg, DqTv.monoR x _ _ h2⟩⟩⟩
              obtain ⟨d, u, rfl, nf, mu, nlst, hrd, hlk⟩ := key
              have hO : O d = false := by
                rcases hrd with h1 | ⟨x, h1⟩
                · exact (hid_some h1).1
                · exact (hid_some h1).1
              have lck_ne : ∀ {O' : Ow} {H' : Hp} {dsx : DS}, Sat X.K O' σ H' dsx → H' d = some u → ∀ (j : Nat) (kv : KvL) (b : Addr), j ≠ i → dsx[j]? = some (some (.lck kv)) → σ[j]? = some (some (.ref b)) → b ≠ d := fun {O' H' dsx} sx hd j kv b _ e3 e4 z => by
                obtain ⟨v', e5, b', e6, od, hh⟩ := sx.slot j _ e3
                rw [e4] at e5; cases e5; cases e6
                subst z
                rcases hh with ⟨ks, h1, _⟩ | ⟨ks, h1, _⟩
                · rw [(hid_some h1).2] at hd; cases hd; exact nf _ _ rfl
                · rw [(hid_some h1).2] at hd; cases hd; exact nf _ _ rfl
              rcases hrd with hex | ⟨od0, hfr⟩
              · -- it is locked for the while
                have hd : H d = some u := (hid_some hex).2
                refine hl.run pins s σ H Q I ⟨d, u, hd, mu, fun od => ?_⟩
                have x1 : ExR (hid O H) (hid O (upd H d (.frz od u))) := exR_upd (rd_lock hd nf) (fun xs z => nlst xs (by rw [hd] at z; exact Option.some.inj z))
                have s1 : Sat X.K O σ (upd H d (.frz od u)) (ds.set i (some (.lck kvs))) := by
                  refine sa.turned hO (rd_lock hd nf) (fun xs z => nlst xs (by rw [hd] at z; exact Option.some.inj z)) ⟨_, e1, d, rfl, hlk _ od x1 (by rw [hid_of hO, upd_same])⟩ rfl (lck_ne sa hd)
                refine ⟨O, _, s1, ?_⟩
                rw [ef]
                intro v' H' O' p rv
                have hfz : hid O' H' d = some (.frz od u) := p.ext _ _ (by rw [hid_of hO, upd_same])
                obtain ⟨hO', hH'⟩ := hid_some hfz
                refine ⟨hH', ?_⟩
                have nlst' : ∀ xs, H' d ≠ some (.lst xs) := fun xs z => by rw [hH'] at z; cases z
                have x2 : ExR (hid O' H') (hid O' (upd H' d u)) := exR_upd (rd_unlock hH' nf) nlst'
                have xd : ExR (hid O (upd H d (.frz od u))) (hid O' H') := p.ext.r
                have x3 : ExR (hid O H) (hid O' (upd H' d u)) := ⟨fun b xs z => x2.lst _ _ (xd.lst _ _ (x1.lst _ _ z)), fun b w nf z => x2.rd _ _ nf (xd.rd _ _ nf (x1.rd _ _ nf z))⟩
                have xe : Ext (hid O H) (hid O' (upd H' d u)) := fun b o hb => by
                  by_cases z : b = d
                  · subst z
                    rw [hex] at hb; cases hb
                    rw [hid_of hO', upd_same]
                  · have hb1 : hid O (upd H d (.frz od u)) b = some o := by
                      obtain ⟨g1, g2⟩ := hid_some hb
                      rw [hid_of g1, upd_ne z]; exact g2
                    obtain ⟨g1, g2⟩ := hid_some (p.ext _ _ hb1)
                    rw [hid_of g1, upd_ne z]; exact g2
                have s2 : Sat X.K O' σ (upd H' d u) (ds'.set i (some (.dat (.dict kvs)))) := by
                  refine p.sat.turned hO' (rd_unlock hH' nf) nlst' ⟨_, e1, Dq.monoR x3 _ _ hv⟩ rfl fun j kv b hj e3 e4 _ => ?_
                  exact noLck_at nl (by rw [List.getElem?_set_ne (Ne.symm hj)]; exact e3)
                have own1' : ∀ b, IsOwn σ (ds.set i (some (.lck kvs))) b → IsOwn σ ds b := fun b ⟨j, ⟨c, e3⟩, e4⟩ => by
                  by_cases hj : j = i
                  · subst hj; rw [List.getElem?_set_self hi] at e3; cases e3
                  · rw [List.getElem?_set_ne (Ne.symm hj)] at e3; exact ⟨j, ⟨c, e3⟩, e4⟩
                have own2' : ∀ b, IsOwn σ (ds'.set i (some (.dat (.dict kvs)))) b → IsOwn σ ds' b := fun b ⟨j, ⟨c, e3⟩, e4⟩ => by
                  by_cases hj : j = i
                  · subst hj
                    have hlt : j < ds'.length := by
                      have := (List.getElem?_eq_some_iff.mp e3).1
                      simpa using this
                    rw [List.getElem?_set_self hlt] at e3; cases e3
                  · rw [List.getElem?_set_ne (Ne.symm hj)] at e3; exact ⟨j, ⟨c, e3⟩, e4⟩
                refine q v' _ O' ⟨s2, xe, fun b hb n => ?_, fun b hb => (p.own b (own2' b hb)).imp id (own1' b), fun _ _ => rfl, rfl, fun b hb => ?_⟩ ?_
                · have ne : b ≠ d := fun z => by rw [z, hO] at hb; cases hb
                  obtain ⟨g1, g2⟩ := p.frn b hb (fun z => n (own1' b z))
                  exact ⟨g1, by rw [upd_ne ne, g2, upd_ne ne]⟩
                · by_cases z : b = d
                  · rw [z, upd_same]; simp
                  · rw [upd_ne z]; exact p.old b (by rw [upd_ne z]; exact hb)
                · show RvOk X.K H O' σ (upd H' d u) _ v' (tr z)
                  revert rv
                  generalize tr z = r
                  intro rv
                  cases r with
                  | dat dd => exact Dq.monoR x2 _ _ rv
                  | own c =>
                    obtain ⟨b, g0, g1, g2, g3, g4⟩ := rv
                    have ne : b ≠ d := fun z => by rw [z, upd_same] at g1; cases g1
                    exact ⟨b, g0, by rw [upd_ne ne] at g1; exact g1, g2, fun z => g3 (own2' b z), g4.moveR x2 (upd_ne ne)⟩
                  | scr ns => obtain ⟨b, g0, g1⟩ := rv; exact ⟨b, g0, x2.sqL g1⟩
                  | lck _ => exact rv
              · -- it is locked already
                have s1 : Sat X.K O σ H (ds.set i (some (.lck kvs))) := sa.reslot e1 ⟨d, rfl, hlk _ od0 (Ext.refl _).r hfr⟩ rfl
                refine h.run pins s σ H Q I ⟨O, _, s1, ?_⟩
                rw [ef]
                intro v' H' O' p rv
                have s2 : Sat X.K O' σ H' (ds'.set i (some (.dat (.dict kvs)))) := p.sat.reslot e1 (Dq.mono p.ext _ _ hv) rfl
                refine q v' _ O' ⟨s2, p.ext, fun b hb n => p.frn b hb fun z => n (z.reslot rfl), fun b hb => (p.own b (hb.reslot rfl)).imp id (fun z => z.reslot rfl), fun _ _ => rfl, rfl, p.old⟩ ?_
                show RvOk X.K H O' σ H' _ v' (tr z)
                revert rv
                generalize tr z = r
                intro rv
                cases r with
                | dat dd => exact rv
                | own c => obtain ⟨b, g0, g1, g2, g3, g4⟩ := rv; exact ⟨b, g0, g1, g2, fun z => g3 (z.reslot rfl), g4⟩
                | scr ns => exact rv
                | lck _ => exact rv
            · rw [if_neg nl] at q; exact q.elim
        | _ => rw [e0] at q; exact q.elim
      | _ => rw [e0] at q; exact q.elim
/-! the walks -/
def keysL (kvs : KvL) : Option (List PD) := if kvs.all (fun p => (keyOf p.1).isSome) = true then some (kvs.map (·.1)) else none
def getLk (i : Nat) : M KvL := fun ds => match ds[i]? with
  | some (some (.lck kvs)) => .ok kvs ds
  | _ => .err
def keysM (i : Nat) : M (List PD) := bnd (getLk i) fun kvs => ofO (keysL kvs)
theorem walks_nil {K : Fg} {J : It} {O1 : Ow} {H1 : Hp} (h : ∀ (O : Ow) (H : Hp), Ext (hid O1 H1) (hid O H) → J.stop 0 H) : WalksD K J O1 H1 [] := fun O H x l => ⟨fun i d e => by simp at e, h O H x⟩
theorem di_keys {tg : Expr} (h : PE X e (tVar i)) : DI X w tg e (keysM i) := (pi_keys h).weak fun σ H R ⟨O, ds, s, q⟩ => by
  unfold keysM bnd getLk at q
  cases e0 : ds[i]? with
  | none => rw [e0] at q; exact q.elim
  | some o =>
    cases o with
    | none => rw [e0] at q; exact q.elim
    | some r =>
      cases r with
      | lck kvs =>
        rw [e0] at q
        have q : RdI X.K w O σ H ds (ofO (keysL kvs) ds) R := q
        unfold keysL at q
        by_cases c : kvs.all (fun p => (keyOf p.1).isSome) = true
        · rw [if_pos c] at q
          obtain ⟨v, e1, d, rfl, od, ⟨ks, h1, h2⟩ | ⟨ks, h1, h2⟩⟩ := s.slot i _ e0
          · refine ⟨_, e1, d, od, rfl, .inl ⟨ks, (hid_some h1).2, q _ H O (Post.refl s) fun O2 H2 x l => ⟨fun j dd e => ?_, ?_⟩⟩⟩
            · rw [List.getElem?_map] at e
              cases e2 : kvs[j]? with
              | none => rw [e2] at e; cases e
              | some p =>
                rw [e2] at e; cases e
                obtain ⟨k, v, g1, g2, g3⟩ := h2.get (p := p.1) (d := p.2) e2
                have hd2 := (hid_some (x _ _ h1)).2
                exact ⟨⟨hd2, (List.getElem?_eq_some_iff.mp g1).1⟩, fun u H' ⟨eH, k', v', g4, g5⟩ => by
                  subst eH
                  rw [g1] at g4; cases g4
                  subst g5
                  exact ⟨Ext.refl _, by show Dq _ _ _ p.1; rw [g2]; exact dq_key _⟩⟩
            · exact ⟨(hid_some (x _ _ h1)).2, by rw [h2.length, List.length_map]; exact Nat.le_refl _⟩
          · refine ⟨_, e1, d, od, rfl, .inr ⟨ks, (hid_some h1).2, q _ H O (Post.refl s) ?_⟩⟩
            cases h2 with
            | nil => exact walks_nil fun O2 H2 x => ⟨(hid_some (x _ _ h1)).2, Nat.le_refl _⟩
            | cons _ _ => exact absurd c (by simp [tkD, keyOf])
        · rw [if_neg c] at q; exact q.elim
      | _ => rw [e0] at q; exact q.elim
end
end DL

set_option maxHeartbeats 200000
namespace DL
open PySem PySem.Spec PyProof.Rows L2

/-! ### short forms for the printer -/
theorem Hu {A : Around} {k : Nat} (hr : Room k A) : A.units + 66 < cLine := by have := hr.un; omega
theorem Hu5 {A : Around} {k : Nat} (hr : Room k A) : A.units + 65 < cLine := by have := hr.un; omega
theorem Hu4 {A : Around} {k : Nat} (hr : Room k A) : A.units + 64 < cLine := by have := hr.un; omega
def consA (f : M PD) (g : M (List PD)) : M (List PD) := bnd f fun x => bnd g fun xs => ret (x :: xs)
def starA (f : M PD) (g : M (List PD)) : M (List PD) := bnd f fun x => match seqOf x with | some ys => bnd g fun xs => ret (ys ++ xs) | none => stuck
def nilA : M (List PD) := ret []
def callN (n : Nat) (d : Den) (fa : M (List RV)) : M RV := bnd fa fun rs => if rs.length = n then callM d (ret rs) else stuck
section
variable {X : Cx} {w : Wi} {a b e : Expr} {pos : Pos} {es : List Expr} {fa fb : M PD} {g : M (List PD)} {i : Nat}
theorem aN : DA X w [] nilA := da_nil
theorem aC (ha : DE X w a fa) (hr : DA X w es g) (hs : starEach (a :: es) X.env = (false, eval a X.env) :: starEach es X.env := by rfl) : DA X w (a :: es) (consA fa g) := da_cons ha hr hs
theorem aS {p : Pos} (ha : DE X w a fa) (hr : DA X w es g) (hs : starEach (.Starred a p :: es) X.env = (true, eval a X.env) :: starEach es X.env := by rfl) : DA X w (.Starred a p :: es) (starA fa g) := da_star ha hr hs
/-- the test of x op e, x an own list -/
def tocmp (c : PD → PD → Option Bool) (i : Nat) (fb : M PD) : M Bool := bnd (getL i) fun _ => bnd fb fun y => bnd (getL i) fun xs => ofO (c (.list xs) y)
theorem RdT.getL {K : Fg} {O : Ow} {σ : L2.St} {H : Hp} {ds : DS} {Q : Bool → Hp → Prop} {g : List PD → M Bool} (s : Sat K O σ H ds) (h : RdT K w O σ H ds (bnd (getL i) g ds) Q) :
    ∃ xs p vs, ds[i]? = some (some (.own (.lst xs))) ∧ σ[i]? = some (some (.ref p)) ∧ O p = true ∧ H p = some (.lst vs) ∧ DqAll K (hid O H) vs xs ∧ RdT K w O σ H ds (g xs ds) Q := by
  unfold bnd at h
  cases e : DL.getL i ds with
  | ok xs ds' =>
    rw [e] at h
    obtain ⟨e1, rfl⟩ := getL_ok e
    obtain ⟨p, e2, ho, vs, h1, h2⟩ := s.ownSlot e1
    exact ⟨xs, p, vs, e1, e2, ho, h1, h2, h⟩
  | ex x ds' => exact (getL_ex e).elim
  | err => rw [e] at h; exact h.elim
theorem dt_ocmp {op : CmpOp} {c : PD → PD → Option Bool} (ho : OpR X (compareOp op) (rB X.K c)) (hm : behindInMarks op b = false) (ha : PE X a (tVar i)) (hb : DE X w b fb) : DT X w (.Compare a [op] [b] pos) (tocmp c i fb) :=
  (pt_cmpR ho ha hb hm).weak fun σ H Q ⟨O, ds, s, q⟩ => by
  obtain ⟨xs0, p, vs0, e0, e1, _, h10, _, q⟩ := q.getL s
  refine ⟨_, e1, O, ds, s, RdK.bindT q fun y u H2 O2 ds2 p2 rv2 h2 => ?_⟩
  obtain ⟨xs, p', vs, e3, e4, ho', h1, h2', h3⟩ := h2.getL p2.sat
  rw [e1] at e4; cases e4
  cases eg : c (.list xs) y with
  | none => rw [eg] at h3; exact h3.elim
  | some k =>
    rw [eg] at h3
    exact ⟨.list xs, y, k, .lst h1 (DqAll.mono hid_ext _ _ h2'), Dq.mono hid_ext _ _ rv2, eg, k, rfl, h3 H2 O2 (Post.refl p2.sat)⟩
variable {p : Pos} {x : Str} {f : Addr} {fd : FuncData} {ps : List Str} {k j : Nat} {den : Den}
theorem ve_callN {fa : M (List RV)} {n : Nat} (F : FnOk X.prog X.w X.K X.mg X.base CX0 k f fd ps (spD X.K false n den)) (hr : Room j X.A) (hj : k ≤ j) (hm : X.mg x = some (.ref f)) (hk : PySem.W.keepIn X.K (.ref f) = true) (hb : Binds X.K fd ps [])
    (ha : DR X w (e :: es) fa) (hl : ps.length = n := by rfl) (hn : n = (e :: es).length := by rfl) (hg : Gl X x := by rfl) (hdb : (x == ("__debug__" : Str)) = false := by decide) (he : starEach (e :: es) X.env = (false, eval e X.env) :: starEach es X.env := by rfl) (hpl : (backTo pos (starEach es X.env)).any (·.1) = false := by rfl)
    : VE X w (.Call (.Name x p) (e :: es) [] pos) (callN n den fa) := by
  subst hl
  exact ve_call F (hr.mono hj) hm hk hb ha hn hg hdb he hpl
theorem ve_callI {fa : M (List RV)} {n : Nat} (F : FnOk X.prog X.w X.K X.mg X.base CX0 k f fd ps (spD X.K true n den)) (hr : Room j X.A) (hj : k ≤ j) (hm : X.mg x = some (.ref f)) (hk : PySem.W.keepIn X.K (.ref f) = true) (hb : Binds X.K fd ps [])
    (ha0 : PE X e (tVar i)) (ha : DR X w es fa) (hl : ps.length = n := by rfl) (hg : Gl X x := by rfl) (hdb : (x == ("__debug__" : Str)) = false := by decide) (he : starEach (e :: es) X.env = (false, eval e X.env) :: starEach es X.env := by rfl) (hpl : (backTo pos (starEach es X.env)).any (·.1) = false := by rfl)
    : VE X w (.Call (.Name x p) (e :: es) [] pos) (callIO i n den fa) := by
  subst hl
  exact ve_callIO F (hr.mono hj) hm hk hb ha0 ha hg hdb he hpl
end
end DL

namespace DL
open PySem PySem.Spec PyProof.Rows L2
open PySem.W (alike dataLt)

/-! ### readings applied -/
section
variable {α β : Type} {ds : DS}
@[simp] theorem bnd_app (f : M α) (g : α → M β) : bnd f g ds = match f ds with | .ok a ds' => g a ds' | .ex x ds' => .ex x ds' | .err => .err := rfl
@[simp] theorem ret_app (a : α) : DL.ret a ds = .ok a ds := rfl
@[simp] theorem stuck_app : (stuck : M α) ds = .err := rfl
@[simp] theorem ofO_some (a : α) : ofO (some a) ds = .ok a ds := rfl
@[simp] theorem ofO_none : ofO (none : Option α) ds = .err := rfl
@[simp] theorem gv_app (i : Nat) : gv i ds = match ds[i]? with | some (some (.dat d)) => .ok d ds | _ => .err := rfl
@[simp] theorem bin_app (f : PD → PD → Option α) (fa fb : M PD) : bin f fa fb ds = bnd fa (fun x => bnd fb fun y => ofO (f x y)) ds := rfl
@[simp] theorem una_app (f : PD → Option α) (fa : M PD) : una f fa ds = bnd fa (fun x => ofO (f x)) ds := rfl
@[simp] theorem ap1_app (f : PD → Option α) (fa : M PD) : ap1 f fa ds = bnd fa (fun x => ofO (f x)) ds := by
  unfold ap1 nry
  simp only [bnd_app]
  all_goals cases fa ds <;> rfl
@[simp] theorem ap2_app (f : PD → PD → Option α) (fa fb : M PD) : ap2 f fa fb ds = bnd fa (fun x => bnd fb fun y => ofO (f x y)) ds := by
  unfold ap2 nry
  simp only [bnd_app]
  all_goals cases fa ds with
  | ok a d1 => simp only []; cases fb d1 <;> rfl
  | ex x d => rfl
  | err => rfl
@[simp] theorem consA_app (f : M PD) (g : M (List PD)) : consA f g ds = bnd f (fun x => bnd g fun xs => DL.ret (x :: xs)) ds := rfl
@[simp] theorem nilA_app : nilA ds = .ok [] ds := rfl
@[simp] theorem starA_app (f : M PD) (g : M (List PD)) : starA f g ds = bnd f (fun x => match seqOf x with | some ys => bnd g fun xs => DL.ret (ys ++ xs) | none => stuck) ds := rfl
@[simp] theorem mkTup_app (f : M (List PD)) : mkTup f ds = bnd f (fun xs => if xs.length ≤ lim then DL.ret (.tuple xs) else stuck) ds := by
  unfold mkTup nry
  simp only [bnd_app]
  all_goals cases f ds with
  | ok a d => simp only []; split <;> rfl
  | ex x d => rfl
  | err => rfl
@[simp] theorem mkLst_app (f : M (List PD)) : mkLst f ds = bnd f (fun xs => if xs.length ≤ lim then DL.ret (.lst xs) else stuck) ds := by
  unfold mkLst nry
  simp only [bnd_app]
  all_goals cases f ds with
  | ok a d => simp only []; split <;> rfl
  | ex x d => rfl
  | err => rfl
@[simp] theorem fz_app (f : M Cn) : fz f ds = bnd f (fun c => DL.ret c.frz) ds := by
  unfold fz
  simp only [bnd_app]
  all_goals cases f ds <;> rfl
@[simp] theorem frzV_app (f : M RV) : frzV f ds = bnd f (fun r => match r with | .dat d => DL.ret d | .own c => DL.ret c.frz | .scr _ => stuck | .lck _ => stuck) ds := by
  unfold frzV
  simp only [bnd_app]
  all_goals cases f ds with
  | ok r d => cases r <;> rfl
  | ex x d => rfl
  | err => rfl
@[simp] theorem ownV_app (f : M RV) : ownV f ds = bnd f (fun r => match r with | .own c => DL.ret c | _ => stuck) ds := rfl
@[simp] theorem anyV_app (tr : α → RV) (f : M α) : anyV tr f ds = bnd f (fun a => DL.ret (tr a)) ds := rfl
@[simp] theorem boolOf_app (b : Bool) : boolOf (.bool b) ds = .ok b ds := rfl
@[simp] theorem tbin_app (g : PD → PD → Option Bool) (fa fb : M PD) : tbin g fa fb ds = bnd fa (fun x => bnd fb fun y => ofO (g x y)) ds := rfl
@[simp] theorem chain_app (g g' : PD → PD → Option Bool) (fa fb fc : M PD) : chain g g' fa fb fc ds = bnd fa (fun x => bnd fb fun y => bnd (ofO (g x y)) fun k => if k = true then bnd fc fun z => ofO (bD g' y z) else DL.ret (.bool false)) ds := rfl
@[simp] theorem tchain_app (g g' : PD → PD → Option Bool) (fa fb fc : M PD) : tchain g g' fa fb fc ds = bnd fa (fun x => bnd fb fun y => bnd (ofO (g x y)) fun k => if k = true then bnd fc fun z => ofO (g' y z) else DL.ret false) ds := rfl
@[simp] theorem andT_app (ta tb : M Bool) : andT ta tb ds = bnd ta (fun k => if k = true then tb else DL.ret false) ds := rfl
@[simp] theorem orT_app (ta tb : M Bool) : orT ta tb ds = bnd ta (fun k => if k = true then DL.ret true else tb) ds := rfl
@[simp] theorem notT_app (ta : M Bool) : notT ta ds = bnd ta (fun k => DL.ret (!k)) ds := rfl
@[simp] theorem yesT_app : yesT ds = .ok true ds := rfl
@[simp] theorem ifD_app (t : M Bool) (ga gb : M α) : ifD t ga gb ds = bnd t (fun k => if k = true then ga else gb) ds := rfl
@[simp] theorem isiM_app (T : String) (fa : M PD) : isiM T fa ds = bnd fa (fun x => if isDic x = true then stuck else DL.ret (.bool (isiD T x))) ds := rfl
@[simp] theorem intO_app (f : M PD) : intO f ds = bnd f (fun x => match x with | .int i => DL.ret (some i) | _ => stuck) ds := by
  unfold intO
  simp only [bnd_app]
  all_goals cases f ds with
  | ok r d => cases r <;> rfl
  | ex x d => rfl
  | err => rfl
@[simp] theorem slM_app (fa : M PD) (fl fh : M (Option Int)) : slM fa fl fh ds = bnd fa (fun x => bnd fl fun l => bnd fh fun h => ofO (slV l h x)) ds := rfl
/-! statements -/
@[simp] theorem nxt_app : nxt ds = .ok .nx ds := rfl
@[simp] theorem setR_app (i : Nat) (r : RV) : setR i r ds = .ok () (ds.set i (some r)) := rfl
@[simp] theorem setD_app (i : Nat) (d : PD) : setD i d ds = .ok () (ds.set i (some (.dat d))) := rfl
@[simp] theorem setC_app (i : Nat) (c : Cn) : setC i c ds = .ok () (ds.set i (some (.own c))) := rfl
@[simp] theorem stM_app (i : Nat) (tr : α → RV) (fa : M α) : stM i tr fa ds = bnd fa (fun a => bnd (setR i (tr a)) fun _ => nxt) ds := rfl
@[simp] theorem asgM_app (g : PD → M Unit) (fa : M PD) : asgM g fa ds = bnd fa (fun a => bnd (g a) fun _ => nxt) ds := rfl
@[simp] theorem retM_app (tr : α → RV) (fa : M α) : retM tr fa ds = bnd fa (fun a => DL.ret (.rt (tr a))) ds := rfl
@[simp] theorem iteM_app (t : M Bool) (f g : M Out) : iteM t f g ds = bnd t (fun k => if k = true then f else g) ds := rfl
@[simp] theorem seqM_app (f g : M Out) : seqM f g ds = match f ds with | .ok .nx ds' => g ds' | .ok (.rt r) ds' => .ok (.rt r) ds' | .ex x ds' => .ex x ds' | .err => .err := by
  unfold seqM
  simp only [bnd_app]
  all_goals cases f ds with
  | ok o d => cases o <;> rfl
  | ex x d => rfl
  | err => rfl
@[simp] theorem forM_nil (g : PD → M Unit) (b : M Out) : forM g b [] ds = .ok .nx ds := rfl
theorem forM_cons (g : PD → M Unit) (b : M Out) (x : PD) (xs : List PD) : forM g b (x :: xs) ds = bnd (g x) (fun _ => seqM b (forM g b xs)) ds := rfl
@[simp] theorem frzM_app (i : Nat) : frzM i ds = match ds[i]? with | some (some (.own c)) => .ok .nx (ds.set i (some (.dat c.frz))) | _ => .err := rfl
@[simp] theorem getL_app (i : Nat) : getL i ds = match ds[i]? with | some (some (.own (.lst xs))) => .ok xs ds | _ => .err := rfl
@[simp] theorem getDc_app (i : Nat) : getDc i ds = match ds[i]? with | some (some (.own (.dic xs))) => .ok xs ds | _ => .err := rfl
@[simp] theorem appM_app (i : Nat) (fe : M PD) : appM i fe ds = bnd (getL i) (fun _ => bnd fe fun x => bnd (getL i) fun xs => if xs.length < lim then bnd (setC i (.lst (xs ++ [x]))) fun _ => DL.ret .none else stuck) ds := rfl
@[simp] theorem oix_app (i : Nat) (fb : M PD) : oix i fb ds = bnd (getL i) (fun _ => bnd fb fun y => bnd (getL i) fun xs => ofO (ixD (.list xs) y)) ds := rfl
@[simp] theorem tocmp_app (c : PD → PD → Option Bool) (i : Nat) (fb : M PD) : tocmp c i fb ds = bnd (getL i) (fun _ => bnd fb fun y => bnd (getL i) fun xs => ofO (c (.list xs) y)) ds := rfl
@[simp] theorem gOix_app (i : Nat) (fe : M PD) (d : PD) : gOix i fe d ds = bnd (getL i) (fun _ => bnd fe fun y => bnd (getL i) fun xs => match y with
  | .int k => (match ixN xs.length k with
    | some j => setC i (.lst (xs.set j d))
    | none => stuck)
  | _ => stuck) ds := by
  unfold gOix
  simp only [bnd_app]
  all_goals cases getL i ds with
  | ok a d1 =>
    simp only []
    cases fe d1 with
    | ok y d2 =>
      simp only []
      cases getL i d2 with
      | ok xs d3 => cases y <;> rfl
      | ex _ _ => rfl
      | err => rfl
    | ex _ _ => rfl
    | err => rfl
  | ex _ _ => rfl
  | err => rfl
@[simp] theorem gTupM_tup (n : Nat) (gs : List PD → M Unit) (xs : List PD) : gTupM n gs (.tuple xs) ds = if xs.length = n then gs xs ds else .err := by
  show (if xs.length = n then gs xs else stuck) ds = _
  split <;> rfl
@[simp] theorem gConsM_cons (g : PD → M Unit) (gs : List PD → M Unit) (x : PD) (r : List PD) : gConsM g gs (x :: r) ds = bnd (g x) (fun _ => gs r) ds := rfl
@[simp] theorem gNilM_nil : gNilM [] ds = .ok () ds := rfl
@[simp] theorem itM_app (f : M PD) : itM f ds = bnd f (fun x => ofO (seqOf x)) ds := rfl
@[simp] theorem rngM1_app (fa : M PD) : rngM1 fa ds = bnd fa (fun x => ofO (rng1 x)) ds := by
  unfold rngM1
  simp only [bnd_app]
  all_goals cases fa ds <;> rfl
@[simp] theorem rngM2_app (fa fb : M PD) : rngM2 fa fb ds = bnd fa (fun x => bnd fb fun y => ofO (rng2 x y)) ds := by
  unfold rngM2
  simp only [bnd_app]
  all_goals cases fa ds with
  | ok a d1 => simp only []; cases fb d1 <;> rfl
  | ex x d => rfl
  | err => rfl
@[simp] theorem rngM3_app (fa fb fc : M PD) : rngM3 fa fb fc ds = bnd fa (fun x => bnd fb fun y => bnd fc fun z => ofO (rng3 x y z)) ds := rfl
@[simp] theorem enumM_app (fa : M PD) : enumM fa ds = bnd fa (fun x => ofO ((seqOf x).map enumL)) ds := by
  unfold enumM
  simp only [bnd_app]
  all_goals cases fa ds <;> rfl
@[simp] theorem zipM_app (fa fb : M PD) : zipM fa fb ds = bnd fa (fun x => bnd fb fun y => ofO (match seqOf x, seqOf y with | some xs, some ys => some (zipL xs ys) | _, _ => none)) ds := by
  unfold zipM
  simp only [bnd_app]
  all_goals cases fa ds with
  | ok a d1 => simp only []; cases fb d1 <;> rfl
  | ex x d => rfl
  | err => rfl
@[simp] theorem consR_app (tr : α → RV) (f : M α) (g : M (List RV)) : consR tr f g ds = bnd f (fun x => bnd g fun xs => DL.ret (tr x :: xs)) ds := rfl
@[simp] theorem parM_app (is : List Nat) (f : M (List RV)) : parM is f ds = bnd f (fun rs => fun ds => if rs.length = is.length then .ok .nx (setsD ds is rs) else .err) ds := rfl
theorem callN_app (n : Nat) (d : Den) (fa : M (List RV)) : callN n d fa ds = bnd fa (fun rs => if rs.length = n then (if argsOk false rs = true then (fun ds => match d rs with | some (r, _) => .ok r ds | none => .err) else stuck) else stuck) ds := by
  unfold callN callM
  simp only [bnd_app]
  all_goals cases fa ds with
  | ok rs d1 =>
    simp only []
    split
    · show (if argsOk false rs = true then (match d rs with | some (r, _) => Rs.ok r d1 | none => .err) else .err) = (if argsOk false rs = true then (fun ds => match d rs with | some (r, _) => Rs.ok r ds | none => .err) else stuck) d1
      split <;> rfl
    · rfl
  | ex x d => rfl
  | err => rfl
end
@[simp] theorem setsD_cons' (ds : DS) (i : Nat) (is : List Nat) (r : RV) (rs : List RV) : setsD ds (i :: is) (r :: rs) = setsD (ds.set i (some r)) is rs := rfl
@[simp] theorem setsD_nil' (ds : DS) (rs : List RV) : setsD ds [] rs = ds := by cases rs <;> rfl
@[simp] theorem setsD_nil2 (ds : DS) (is : List Nat) : setsD ds is [] = ds := by cases is <;> rfl
@[simp] theorem frz_lst' (xs : List PD) : Cn.frz (.lst xs) = .list xs := rfl
@[simp] theorem frz_dic' (xs : List (PD × PD)) : Cn.frz (.dic xs) = .dict xs := rfl
@[simp] theorem frz_dit' (xs : List (PD × PD)) : Cn.frz (.dit xs) = .dict xs := rfl
@[simp] theorem plain_dat' (d : PD) : RV.plain (.dat d) = true := rfl
@[simp] theorem plain_scr' (d : List Int) : RV.plain (.scr d) = true := rfl
@[simp] theorem plain_own' (d : Cn) : RV.plain (.own d) = false := rfl
@[simp] theorem plain_lck' (d : List (PD × PD)) : RV.plain (.lck d) = false := rfl
@[simp] theorem isOwn_dat' (d : PD) : RV.isOwn (.dat d) = false := rfl
@[simp] theorem isOwn_scr' (d : List Int) : RV.isOwn (.scr d) = false := rfl
@[simp] theorem isOwn_own' (d : Cn) : RV.isOwn (.own d) = true := rfl
@[simp] theorem isOwn_lck' (d : List (PD × PD)) : RV.isOwn (.lck d) = false := rfl
@[simp] theorem argsOk_nil' (io : Bool) : argsOk io [] = !io := rfl
@[simp] theorem argsOk_cons' (io : Bool) (r : RV) (rs : List RV) : argsOk io (r :: rs) = ((if io = true then r.isOwn else r.plain) && rs.all RV.plain) := rfl
@[simp] theorem bD_app' (g : PD → PD → Option Bool) (a b : PD) : bD g a b = (g a b).map .bool := rfl
/-! ### typed values -/
@[simp] theorem le_lim_iff {n : Nat} : n ≤ lim ↔ n ≤ 16777216 := Iff.rfl
abbrev tI (ns : List Int) : PD := .tuple (ns.map .int)
abbrev lI (ns : List Int) : PD := .list (ns.map .int)
@[simp] theorem okD_int (i : Int) : okD (.int i) = true := rfl
@[simp] theorem okD_bool (i : Bool) : okD (.bool i) = true := rfl
@[simp] theorem okD_none : okD .none = true := rfl
theorem depth_ints : ∀ ns : List Int, PyData.depthAll (ns.map .int) = 0
  | [] => rfl
  | n :: ns => by rw [List.map_cons, PyData.depthAll, depth_ints ns]; rfl
theorem canLay_ints : ∀ ns : List Int, PyData.canLayAll0 (ns.map .int) = true
  | [] => rfl
  | n :: ns => by rw [List.map_cons, PyData.canLayAll0, canLay_ints ns]; rfl
@[simp] theorem okD_tI (ns : List Int) : okD (.tuple (ns.map .int)) = true := by
  unfold okD SeqAt.shaped
  rw [PyData.canLay0, PyData.depth, canLay_ints, depth_ints]; rfl
@[simp] theorem okD_lI (ns : List Int) : okD (.list (ns.map .int)) = true := by
  unfold okD SeqAt.shaped
  rw [PyData.canLay0, PyData.depth, canLay_ints, depth_ints]; rfl
theorem eqv_ii (a b : Int) : PyData.eqv (.int a) (.int b) = decide (a = b) := by
  rw [PyData.eqv]; rfl
theorem eqvAll_ints : ∀ as bs : List Int, PyData.eqvAll (as.map .int) (bs.map .int) = decide (as = bs)
  | [], [] => by rw [List.map_nil, PyData.eqvAll]; rfl
  | [], b :: bs => by rw [List.map_nil, List.map_cons, PyData.eqvAll]; simp
  | a :: as, [] => by rw [List.map_nil, List.map_cons, PyData.eqvAll]; simp
  | a :: as, b :: bs => by
    rw [List.map_cons, List.map_cons, PyData.eqvAll, eqv_ii, eqvAll_ints as bs]
    simp
@[simp] theorem eqB_ii (a b : Int) : eqB (.int a) (.int b) = some (decide (a = b)) := by unfold eqB; simp [eqv_ii]
@[simp] theorem neB_ii (a b : Int) : neB (.int a) (.int b) = some (!decide (a = b)) := by unfold neB; simp [eqv_ii]
@[simp] theorem ltB_ii (a b : Int) : ltB (.int a) (.int b) = some (decide (a < b)) := by
  unfold ltB cmpOk; simp [notNone, PySem.W.alike, PySem.W.dataLt_int]
@[simp] theorem gtB_ii (a b : Int) : gtB (.int a) (.int b) = some (decide (b < a)) := by
  unfold gtB cmpOk; simp [notNone, PySem.W.alike, PySem.W.dataLt_int]
@[simp] theorem leB_ii (a b : Int) : leB (.int a) (.int b) = some (decide (a ≤ b)) := by
  unfold leB cmpOk; simp [notNone, PySem.W.alike, PySem.W.dataLt_int]
  by_cases h : b < a
  · simp [h]
  · simp [h]; omega
@[simp] theorem geB_ii (a b : Int) : geB (.int a) (.int b) = some (decide (b ≤ a)) := by
  unfold geB cmpOk; simp [notNone, PySem.W.alike, PySem.W.dataLt_int]
  by_cases h : a < b
  · simp [h]
  · simp [h]; omega
@[simp] theorem eqB_tt (a b : List Int) : eqB (.tuple (a.map .int)) (.tuple (b.map .int)) = some (decide (a = b)) := by
  unfold eqB; simp [PyData.eqv, eqvAll_ints]
@[simp] theorem neB_tt (a b : List Int) : neB (.tuple (a.map .int)) (.tuple (b.map .int)) = some (!decide (a = b)) := by
  unfold neB; simp [PyData.eqv, eqvAll_ints]
@[simp] theorem eqB_ll (a b : List Int) : eqB (.list (a.map .int)) (.list (b.map .int)) = some (decide (a = b)) := by
  unfold eqB; simp [PyData.eqv, eqvAll_ints]
@[simp] theorem neB_ll (a b : List Int) : neB (.list (a.map .int)) (.list (b.map .int)) = some (!decide (a = b)) := by
  unfold neB; simp [PyData.eqv, eqvAll_ints]
@[simp] theorem inB_it (a : Int) (b : List Int) : inB (.int a) (.tuple (b.map .int)) = some (decide (a ∈ b)) := by
  unfold inB
  show (if (okD (.int a) && okD (.tuple (b.map .int))) = true then some ((b.map PyData.int).any fun z => PyData.eqv z (.int a)) else none) = _
  rw [okD_int, okD_tI, Bool.and_self, if_pos rfl]
  congr 1
  induction b with
  | nil => rfl
  | cons x b ih =>
    rw [List.map_cons, List.any_cons, ih, eqv_ii]
    by_cases h : x = a
    · simp [h]
    · simp [h, Ne.symm h]
@[simp] theorem seqOf_tuple (xs : List PD) : seqOf (.tuple xs) = some xs := rfl
@[simp] theorem seqOf_list (xs : List PD) : seqOf (.list xs) = some xs := rfl
@[simp] theorem lenD_tuple (xs : List PD) : lenD (.tuple xs) = some (.int xs.length) := rfl
@[simp] theorem lenD_list (xs : List PD) : lenD (.list xs) = some (.int xs.length) := rfl
@[simp] theorem intsOf_map : ∀ ns : List Int, intsOf (ns.map .int) = some ns
  | [] => rfl
  | n :: ns => by
    show (intsOf (ns.map .int)).map (n :: ·) = _
    rw [intsOf_map ns]; rfl
@[simp] theorem boolsOf_map : ∀ ns : List Bool, boolsOf (ns.map .bool) = some ns
  | [] => rfl
  | n :: ns => by
    show (boolsOf (ns.map .bool)).map (n :: ·) = _
    rw [boolsOf_map ns]; rfl
/-- a comprehension whose turns change nothing else -/
theorem lcL_pure {g : PD → M Unit} {tt : M Bool} {fe : M PD} {vs : List Nat} {ds : DS} {F : PD → Option PD} : ∀ (xs acc : List PD) (ds' : DS), wipeD ds' vs = wipeD ds vs → (∀ x ∈ xs, ∃ d2, turnM g tt fe x (wipeD ds vs) = .ok (F x) d2 ∧ wipeD d2 vs = wipeD ds vs) → acc.length + xs.length ≤ lim →
    ∃ d3, lcL g tt fe vs acc xs ds' = .ok (acc ++ xs.filterMap F) d3 ∧ wipeD d3 vs = wipeD ds vs
  | [], acc, ds', e, h, hl => ⟨ds', by simp [lcL], e⟩
  | x :: xs, acc, ds', e, h, hl => by
    obtain ⟨d2, h1, h2⟩ := h x (List.mem_cons_self ..)
    have hr : ∀ y ∈ xs, ∃ d2, turnM g tt fe y (wipeD ds vs) = .ok (F y) d2 ∧ wipeD d2 vs = wipeD ds vs := fun y hy => h y (List.mem_cons_of_mem _ hy)
    unfold lcL
    rw [e, h1]
    rw [List.length_cons] at hl
    cases eF : F x with
    | none =>
      obtain ⟨d3, h3, h4⟩ := lcL_pure xs acc d2 h2 hr (by omega)
      exact ⟨d3, by rw [List.filterMap_cons, eF]; exact h3, h4⟩
    | some y =>
      obtain ⟨d3, h3, h4⟩ := lcL_pure xs (acc ++ [y]) d2 h2 hr (by rw [List.length_append, List.length_singleton]; omega)
      refine ⟨d3, ?_, h4⟩
      rw [List.filterMap_cons, eF]
      show (if acc.length < lim then lcL g tt fe vs (acc ++ [y]) xs d2 else .err) = _
      rw [if_pos (by omega), h3, List.append_assoc]; rfl
theorem restD_same {ds d : DS} : ∀ {vs : List Nat}, wipeD d vs = wipeD ds vs → (∀ v ∈ vs, v < ds.length) → restD ds d vs = ds := fun {vs} e hv => by
  refine List.ext_getElem? fun j => ?_
  have hl : d.length = ds.length := by rw [← wipeD_length d vs, e, wipeD_length]
  by_cases hj : j ∈ vs
  · have hr : ∀ (vs : List Nat), j ∈ vs → (∀ v ∈ vs, v < ds.length) → (restD ds d vs)[j]? = ds[j]? := by
      intro vs
      induction vs with
      | nil => intro h; cases h
      | cons v vs ih =>
        intro h hb
        show ((restD ds d vs).set v (ds[v]?.getD none))[j]? = _
        by_cases q : j = v
        · subst q
          have hlt := hb j (List.mem_cons_self ..)
          rw [List.getElem?_set_self (by rw [restD_length, hl]; exact hlt)]
          rw [List.getElem?_eq_getElem hlt]; rfl
        · rw [List.getElem?_set_ne (Ne.symm q)]
          exact ih ((List.mem_cons.mp h).elim (fun z => absurd z q) id) (fun v hv => hb v (List.mem_cons_of_mem _ hv))
    exact hr vs hj hv
  · rw [restD_out hj, ← wipeD_out (ds := d) hj, e, wipeD_out hj]
theorem lcM_pure {fi : M (List PD)} {g : PD → M Unit} {tt : M Bool} {fe : M PD} {vs : List Nat} {ds : DS} {xs : List PD} (F : PD → Option PD) (hi : fi ds = .ok xs ds) (no : noOwn ds vs = true) (hv : (vs.all fun v => decide (v < ds.length)) = true) (hl : xs.length ≤ lim)
    (h : ∀ x ∈ xs, ∃ d2, turnM g tt fe x (wipeD ds vs) = .ok (F x) d2 ∧ wipeD d2 vs = wipeD ds vs) : lcM fi g tt fe vs ds = .ok (.lst (xs.filterMap F)) ds := by
  obtain ⟨d3, h3, h4⟩ := lcL_pure (ds := ds) (F := F) xs [] ds rfl h (by simpa using hl)
  unfold lcM
  rw [bnd_app, hi]
  show lcR g tt fe vs xs ds = _
  unfold lcR
  rw [if_pos no, h3]
  show Rs.ok (Cn.lst ([] ++ xs.filterMap F)) (restD ds d3 vs) = _
  rw [restD_same h4 (fun v hv' => of_decide_eq_true (List.all_eq_true.mp hv v hv')), List.nil_append]
@[simp] theorem turnM_app {g : PD → M Unit} {tt : M Bool} {fe : M PD} {x : PD} {ds : DS} : turnM g tt fe x ds = bnd (g x) (fun _ => bnd tt fun k => if k = true then bnd fe fun y => DL.ret (some y) else DL.ret none) ds := rfl
end DL

namespace DL
open PySem PySem.Spec PyProof.Rows L2

/-! ### operators at typed values -/
@[simp] theorem addV_ii (a b : Int) : addV (.int a) (.int b) = some (.dat (.int (a + b))) := rfl
@[simp] theorem subI_ii (a b : Int) : subI (.int a) (.int b) = some (.int (a - b)) := rfl
@[simp] theorem negI_i (a : Int) : negI (.int a) = some (.int (-a)) := rfl
theorem mulV_ii {a b : Int} (h : mulOk a b = true) : mulV (.int a) (.int b) = some (.dat (.int (a * b))) := by
  show (if mulOk a b = true then dI (a * b) else none) = _
  rw [if_pos h]; rfl
theorem small64_of {a : Int} (h : -(2 ^ 64) < a) (h2 : a < 2 ^ 64) : small64 a = true := by
  unfold small64; rw [decide_eq_true h, decide_eq_true h2]; rfl
theorem mulOk_l {a b : Int} (h : -(2 ^ 64) < a) (h2 : a < 2 ^ 64) : mulOk a b = true := by
  unfold mulOk; rw [small64_of h h2]; rfl
theorem mulOk_r {a b : Int} (h : -(2 ^ 64) < b) (h2 : b < 2 ^ 64) : mulOk a b = true := by
  unfold mulOk; rw [small64_of h h2, Bool.or_true]
theorem modI_ii {a b : Int} (h : 0 < b) : modI (.int a) (.int b) = some (.int (a % b)) := by
  show (if 0 < b then some (PyData.int (a % b)) else none) = _
  rw [if_pos h]
theorem fdivI_ii {a b : Int} (h : 0 < b) (h2 : b < 1073741824) : fdivI (.int a) (.int b) = some (.int (a / b)) := by
  show (if 0 < b ∧ b < 1073741824 then some (PyData.int (a / b)) else none) = _
  rw [if_pos ⟨h, h2⟩]
@[simp] theorem intD_i (a : Int) : intD (.int a) = some (.int a) := rfl
@[simp] theorem intD_b (b : Bool) : intD (.bool b) = some (.int (if b then 1 else 0)) := rfl
@[simp] theorem absD_i (a : Int) : absD (.int a) = some (.int (if a < 0 then -a else a)) := rfl
@[simp] theorem tupleD_list (xs : List PD) : tupleD (.list xs) = some (.tuple xs) := rfl
@[simp] theorem tupleD_tuple (xs : List PD) : tupleD (.tuple xs) = some (.tuple xs) := rfl
@[simp] theorem listD_tuple (xs : List PD) : listD (.tuple xs) = some (.lst xs) := rfl
@[simp] theorem listD_list (xs : List PD) : listD (.list xs) = some (.lst xs) := rfl
@[simp] theorem sumD_ints (ns : List Int) : sumD (.list (ns.map .int)) = some (.int ns.sum) := by
  show (intsOf (ns.map .int)).map _ = _
  rw [intsOf_map]; rfl
@[simp] theorem allD_bools (bs : List Bool) : allD (.list (bs.map .bool)) = some (.bool (bs.all id)) := by
  show (boolsOf (bs.map .bool)).map _ = _
  rw [boolsOf_map]; rfl
@[simp] theorem anyD_bools (bs : List Bool) : anyD (.list (bs.map .bool)) = some (.bool (bs.any id)) := by
  show (boolsOf (bs.map .bool)).map _ = _
  rw [boolsOf_map]; rfl
/-! nothing -/
@[simp] theorem isB_int (a : Int) : isB (.int a) .none = some false := rfl
@[simp] theorem isB_none : isB .none .none = some true := rfl
@[simp] theorem isNotB_int (a : Int) : isNotB (.int a) .none = some true := rfl
@[simp] theorem isNotB_none : isNotB .none .none = some false := rfl
@[simp] theorem eqB_lnil (a : List Int) : eqB (.list (a.map .int)) (.list []) = some (decide (a = [])) := eqB_ll a []
@[simp] theorem neB_lnil (a : List Int) : neB (.list (a.map .int)) (.list []) = some (!decide (a = [])) := neB_ll a []
/-! the last item -/
theorem atI_last' {α : Type} (l : List α) (z : α) : atI (l ++ [z]) (-1) = some z := by
  unfold atI ixN
  rw [if_neg (by omega), if_pos (by simp; omega)]
  show (l ++ [z])[(-1 + ((l ++ [z]).length : Int)).toNat]? = _
  have : (-1 + ((l ++ [z]).length : Int)).toNat = l.length := by simp; omega
  rw [this]
  simp
theorem ixD_last (l : List Int) (z : Int) : ixD (.list ((l ++ [z]).map .int)) (.int (-1)) = some (.int z) := by
  rw [List.map_append]
  exact atI_last' _ _
theorem atI_nat' {α : Type} (l : List α) (i : Nat) : atI l (i : Int) = l[i]? := by
  unfold atI ixN
  rw [if_pos (by omega)]
  by_cases h : i < l.length
  · rw [if_pos (by omega)]
    show l[(i : Int).toNat]? = _
    rw [Int.toNat_natCast]
  · rw [if_neg (by omega), List.getElem?_eq_none (by omega)]; rfl
/-! loops -/
theorem forM_fold {σ : Type} {g : PD → M Unit} {b : M Out} (S : σ → DS) (step : σ → PD → σ) : ∀ (xs : List PD) (s : σ), (∀ x ∈ xs, ∀ s, bnd (g x) (fun _ => b) (S s) = .ok .nx (S (step s x))) → forM g b xs (S s) = .ok .nx (S (xs.foldl step s))
  | [], s, _ => rfl
  | x :: xs, s, h => by
    rw [forM_cons]
    have h1 := h x (List.mem_cons_self ..) s
    rw [bnd_app] at h1 ⊢
    cases e : g x (S s) with
    | ok u d =>
      rw [e] at h1
      show seqM b (forM g b xs) d = _
      have h1 : b d = .ok .nx (S (step s x)) := h1
      rw [seqM_app, h1]
      exact forM_fold S step xs (step s x) fun y hy s => h y (List.mem_cons_of_mem _ hy) s
    | ex x d => rw [e] at h1; cases h1
    | err => rw [e] at h1; cases h1
/-- the same with an invariant -/
theorem forM_inv {σ : Type} {g : PD → M Unit} {b : M Out} (S : σ → DS) (I : σ → Prop) (step : σ → PD → σ) : ∀ (xs : List PD) (s : σ), I s → (∀ x ∈ xs, ∀ s, I s → I (step s x) ∧ bnd (g x) (fun _ => b) (S s) = .ok .nx (S (step s x))) → forM g b xs (S s) = .ok .nx (S (xs.foldl step s)) ∧ I (xs.foldl step s)
  | [], s, hi, _ => ⟨rfl, hi⟩
  | x :: xs, s, hi, h => by
    obtain ⟨hi1, h1⟩ := h x (List.mem_cons_self ..) s hi
    rw [forM_cons]
    rw [bnd_app] at h1 ⊢
    cases e : g x (S s) with
    | ok u d =>
      rw [e] at h1
      show seqM b (forM g b xs) d = _ ∧ _
      have h1 : b d = .ok .nx (S (step s x)) := h1
      rw [seqM_app, h1]
      exact forM_inv S I step xs (step s x) hi1 fun y hy s hs => h y (List.mem_cons_of_mem _ hy) s hs
    | ex x d => rw [e] at h1; cases h1
    | err => rw [e] at h1; cases h1
theorem foldl_map_int {σ : Type} (f : σ → PD → σ) (xs : List Int) (s : σ) : (xs.map PyData.int).foldl f s = xs.foldl (fun s x => f s (.int x)) s := by
  rw [List.foldl_map]
@[simp] theorem ixD_last' (l : List PD) (z : PD) : ixD (.list (l ++ [z])) (.int (-1)) = some z := atI_last' _ _
@[simp] theorem eqB_lsnoc (l : List Int) (z : Int) : eqB (.list (l.map .int ++ [.int z])) (.list []) = some false := by
  have := eqB_ll (l ++ [z]) []
  rw [List.map_append] at this
  simpa using this
@[simp] theorem neB_lsnoc (l : List Int) (z : Int) : neB (.list (l.map .int ++ [.int z])) (.list []) = some true := by
  have := neB_ll (l ++ [z]) []
  rw [List.map_append] at this
  simpa using this
end DL

namespace DL
open PySem PySem.Spec PyProof.Rows L2

theorem lcM_ints {fi : M (List PD)} {g : PD → M Unit} {tt : M Bool} {fe : M PD} {vs : List Nat} {ds : DS} {ws : List Int} (f : Int → Option PD) (hi : fi ds = .ok (ws.map .int) ds) (no : noOwn ds vs = true) (hv : (vs.all fun v => decide (v < ds.length)) = true) (hl : ws.length ≤ lim)
    (h : ∀ x ∈ ws, ∃ d2, turnM g tt fe (.int x) (wipeD ds vs) = .ok (f x) d2 ∧ wipeD d2 vs = wipeD ds vs) : lcM fi g tt fe vs ds = .ok (.lst (ws.filterMap f)) ds := by
  have := lcM_pure (F := fun d => match d with | .int x => f x | _ => none) hi no hv (by simpa using hl) (fun x hx => by
    obtain ⟨w, hw, rfl⟩ := List.mem_map.mp hx
    exact h w hw)
  rw [this, List.filterMap_map]
  rfl
def oI : Option Int → PD
  | none => .none
  | some z => .int z
@[simp] theorem oI_none : oI none = .none := rfl
@[simp] theorem oI_some (z : Int) : oI (some z) = .int z := rfl
theorem fm_bool (p : Int → Bool) (ws : List Int) : ws.filterMap (fun w => some (PyData.bool (p w))) = (ws.map p).map .bool := by
  rw [List.filterMap_eq_map', List.map_map]; rfl
theorem fm_int (p : Int → Int) (ws : List Int) : ws.filterMap (fun w => some (PyData.int (p w))) = (ws.map p).map .int := by
  rw [List.filterMap_eq_map', List.map_map]; rfl
theorem fm_if (q : Int → Bool) (p : Int → Int) (ws : List Int) : ws.filterMap (fun w => if q w = true then some (PyData.int (p w)) else none) = ((ws.filter q).map p).map .int := by
  induction ws with
  | nil => rfl
  | cons w ws ih =>
    by_cases h : q w = true
    · simp [h, ih]
    · simp [h, ih]
theorem lim_of {n : Nat} (h : n ≤ 1000) : n ≤ lim := by unfold lim; omega
theorem lim_lt {n : Nat} (h : n ≤ 1000) : n < lim := by unfold lim; omega
@[simp] theorem anyD_comp {α : Type} (p : α → Bool) (ws : List α) : anyD (.list (ws.map (PyData.bool ∘ p))) = some (.bool (ws.any p)) := by
  rw [← List.map_map, anyD_bools, List.any_map]; rfl
@[simp] theorem allD_comp {α : Type} (p : α → Bool) (ws : List α) : allD (.list (ws.map (PyData.bool ∘ p))) = some (.bool (ws.all p)) := by
  rw [← List.map_map, allD_bools, List.all_map]; rfl
@[simp] theorem sumD_comp {α : Type} (p : α → Int) (ws : List α) : sumD (.list (ws.map (PyData.int ∘ p))) = some (.int (ws.map p).sum) := by
  rw [← List.map_map, sumD_ints]
@[simp] theorem intsOf_comp {α : Type} (p : α → Int) (ws : List α) : intsOf (ws.map (PyData.int ∘ p)) = some (ws.map p) := by
  rw [← List.map_map, intsOf_map]
/-- over any encoded items -/
theorem lcL_enc {α : Type} (enc : α → PD) (f : α → Option PD) {g : PD → M Unit} {tt : M Bool} {fe : M PD} {vs : List Nat} {ds : DS} : ∀ (xs : List α) (acc : List PD) (ds' : DS), wipeD ds' vs = wipeD ds vs → (∀ x ∈ xs, ∃ d2, turnM g tt fe (enc x) (wipeD ds vs) = .ok (f x) d2 ∧ wipeD d2 vs = wipeD ds vs) → acc.length + xs.length ≤ lim →
    ∃ d3, lcL g tt fe vs acc (xs.map enc) ds' = .ok (acc ++ xs.filterMap f) d3 ∧ wipeD d3 vs = wipeD ds vs
  | [], acc, ds', e, h, hl => ⟨ds', by simp [lcL], e⟩
  | x :: xs, acc, ds', e, h, hl => by
    obtain ⟨d2, h1, h2⟩ := h x (List.mem_cons_self ..)
    have hr : ∀ y ∈ xs, ∃ d2, turnM g tt fe (enc y) (wipeD ds vs) = .ok (f y) d2 ∧ wipeD d2 vs = wipeD ds vs := fun y hy => h y (List.mem_cons_of_mem _ hy)
    rw [List.map_cons]
    unfold lcL
    rw [e, h1]
    rw [List.length_cons] at hl
    cases eF : f x with
    | none =>
      obtain ⟨d3, h3, h4⟩ := lcL_enc enc f xs acc d2 h2 hr (by omega)
      exact ⟨d3, by rw [List.filterMap_cons, eF]; exact h3, h4⟩
    | some y =>
      obtain ⟨d3, h3, h4⟩ := lcL_enc enc f xs (acc ++ [y]) d2 h2 hr (by rw [List.length_append, List.length_singleton]; omega)
      refine ⟨d3, ?_, h4⟩
      rw [List.filterMap_cons, eF]
      show (if acc.length < lim then lcL g tt fe vs (acc ++ [y]) (xs.map enc) d2 else .err) = _
      rw [if_pos (by omega), h3, List.append_assoc]; rfl
theorem lcM_enc {α : Type} (enc : α → PD) (f : α → Option PD) {fi : M (List PD)} {g : PD → M Unit} {tt : M Bool} {fe : M PD} {vs : List Nat} {ds : DS} (xs : List α) (hi : fi ds = .ok (xs.map enc) ds) (no : noOwn ds vs = true) (hv : (vs.all fun v => decide (v < ds.length)) = true) (hl : xs.length ≤ lim)
    (h : ∀ x ∈ xs, ∃ d2, turnM g tt fe (enc x) (wipeD ds vs) = .ok (f x) d2 ∧ wipeD d2 vs = wipeD ds vs) : lcM fi g tt fe vs ds = .ok (.lst (xs.filterMap f)) ds := by
  obtain ⟨d3, h3, h4⟩ := lcL_enc (ds := ds) enc f xs [] ds rfl h (by simpa using hl)
  unfold lcM
  rw [bnd_app, hi]
  show lcR g tt fe vs (xs.map enc) ds = _
  unfold lcR
  rw [if_pos no, h3]
  show Rs.ok (Cn.lst ([] ++ xs.filterMap f)) (restD ds d3 vs) = _
  rw [restD_same h4 (fun v hv' => of_decide_eq_true (List.all_eq_true.mp hv v hv')), List.nil_append]
def pI (p : Int × Int) : PD := .tuple [.int p.1, .int p.2]
theorem zipL_ints : ∀ (a b : List Int), zipL (a.map .int) (b.map .int) = (a.zip b).map pI
  | [], _ => by simp [zipL]
  | _ :: _, [] => by simp [zipL]
  | x :: a, y :: b => by
    have := zipL_ints a b
    unfold zipL at this ⊢
    rw [List.map_cons, List.map_cons, List.zipWith_cons_cons, this, List.zip_cons_cons, List.map_cons]; rfl
theorem cut_from1 (ns : List Int) : cutD (ns.map .int) (some 1) none = (ns.drop 1).map .int := by
  unfold cutD
  rw [show HT.sIx (ns.map PyData.int).length 0 (some 1) = min 1 (ns.map PyData.int).length from HT.sIx_nat _ 0 1, HT.sIx_none, List.map_drop]
  cases ns with
  | nil => rfl
  | cons x r =>
    rw [show min 1 ((x :: r).map PyData.int).length = 1 by simp]
    exact List.take_of_length_le (by simp)
theorem fm_boolA {α : Type} (p : α → Bool) (ws : List α) : ws.filterMap (fun w => some (PyData.bool (p w))) = ws.map (PyData.bool ∘ p) := by
  rw [List.filterMap_eq_map']; rfl
theorem fm_intA {α : Type} (p : α → Int) (ws : List α) : ws.filterMap (fun w => some (PyData.int (p w))) = ws.map (PyData.int ∘ p) := by
  rw [List.filterMap_eq_map']; rfl
theorem zipL_tail (ns : List Int) : zipL (ns.map .int) (ns.map .int).tail = (ns.zip ns.tail).map pI := by
  rw [← zipL_ints]
  cases ns <;> rfl
@[simp] theorem isNotB_oI (l : Option Int) : isNotB (oI l) .none = some l.isSome := by cases l <;> rfl
@[simp] theorem isB_oI (l : Option Int) : isB (oI l) .none = some (!l.isSome) := by cases l <;> rfl
/-! max and min of ints -/
theorem alikeB_ints (ns : List Int) : alikeB (ns.map .int) = true := by
  unfold alikeB
  simp [List.all_eq_true, PySem.W.alike]
theorem minOk_ints {ns : List Int} (h : ns ≠ []) : minOk (ns.map .int) = true := by
  unfold minOk
  rw [alikeB_ints, depth_ints]
  have h1 : (ns.map PyData.int).all notNone = true := by simp [List.all_eq_true, notNone]
  have h2 : (ns.map PyData.int).all okD = true := by simp [List.all_eq_true]
  rw [h1, h2]
  cases ns with
  | nil => exact absurd rfl h
  | cons _ _ => rfl
def maxI : List Int → Int
  | [] => 0
  | x :: xs => xs.foldl max x
def minI : List Int → Int
  | [] => 0
  | x :: xs => xs.foldl min x
theorem maxO_ints {ns : List Int} (h : ns ≠ []) : mmO maxL (.list (ns.map .int)) = some (.int (maxI ns)) := by
  unfold mmO
  rw [seqOf_list]
  show (if minOk (ns.map .int) = true then some (maxL (ns.map .int)) else none) = _
  rw [if_pos (minOk_ints h)]
  cases ns with
  | nil => exact absurd rfl h
  | cons x xs => exact congrArg some (PySem.W.maxD_ints x xs)
theorem minO_ints {ns : List Int} (h : ns ≠ []) : mmO minL (.list (ns.map .int)) = some (.int (minI ns)) := by
  unfold mmO
  rw [seqOf_list]
  show (if minOk (ns.map .int) = true then some (minL (ns.map .int)) else none) = _
  rw [if_pos (minOk_ints h)]
  cases ns with
  | nil => exact absurd rfl h
  | cons x xs => exact congrArg some (PySem.W.minD_ints x xs)
theorem maxO_cons (x : Int) (ns : List Int) : mmO maxL (.list (.int x :: ns.map .int)) = some (.int (maxI (x :: ns))) := maxO_ints (ns := x :: ns) (by simp)
theorem addV_ll {a b : List PD} (h : a.length + b.length ≤ lim) : addV (.list a) (.list b) = some (.own (.lst (a ++ b))) := by
  show (if a.length + b.length ≤ lim then some (RV.own (.lst (a ++ b))) else none) = _
  rw [if_pos h]
@[simp] theorem ixD_l0 (xs : List PD) : ixD (.list xs) (.int 0) = xs[0]? := atI_nat' xs 0
@[simp] theorem ixD_l1 (xs : List PD) : ixD (.list xs) (.int 1) = xs[1]? := atI_nat' xs 1
@[simp] theorem ixD_l2 (xs : List PD) : ixD (.list xs) (.int 2) = xs[2]? := atI_nat' xs 2
@[simp] theorem ixD_t0 (xs : List PD) : ixD (.tuple xs) (.int 0) = xs[0]? := atI_nat' xs 0
@[simp] theorem ixD_t1 (xs : List PD) : ixD (.tuple xs) (.int 1) = xs[1]? := atI_nat' xs 1
@[simp] theorem ixD_t2 (xs : List PD) : ixD (.tuple xs) (.int 2) = xs[2]? := atI_nat' xs 2
@[simp] theorem ixN_30 : ixN 3 0 = some 0 := rfl
@[simp] theorem ixN_31 : ixN 3 1 = some 1 := rfl
@[simp] theorem ixN_32 : ixN 3 2 = some 2 := rfl
theorem powI_ii {a b : Int} (h0 : 0 ≤ b) (h1 : b ≤ 1000) (h2 : a.natAbs < 2 ^ 300) : powI (.int a) (.int b) = some (.int (a ^ b.toNat)) := by
  show (if 0 ≤ b ∧ b ≤ 1000 ∧ a.natAbs < 2 ^ 300 then some (PyData.int (a ^ b.toNat)) else none) = _
  rw [if_pos ⟨h0, h1, h2⟩]
/-! the draws of the laws -/
def PotOk (k : Nat) (c : Cn) : Prop := ∃ p0 p1 p2 : Int, c = .lst [.int p0, .int p1, .int p2] ∧ 0 ≤ p0 ∧ 0 ≤ p1 ∧ p1 < 2305843009213693951 ∧ 0 ≤ p2 ∧ p2 + k ≤ 1152921504606846976
theorem PotOk.mono {k j : Nat} {c : Cn} (h : PotOk k c) (hj : j ≤ k) : PotOk j c := by
  obtain ⟨p0, p1, p2, e, h0, h1, h2, h3, h4⟩ := h
  exact ⟨p0, p1, p2, e, h0, h1, h2, h3, by omega⟩
section
variable {ds : DS}
@[simp] theorem getS_app (i : Nat) : getS i ds = match ds[i]? with | some (some (.scr ns)) => .ok ns ds | _ => .err := rfl
@[simp] theorem gsV_app (i : Nat) : gsV i ds = bnd (getS i) (fun ns => DL.ret (.scr ns)) ds := rfl
@[simp] theorem slen_app (i : Nat) : slen i ds = bnd (getS i) (fun ns => DL.ret (.int ns.length)) ds := rfl
@[simp] theorem six_app (i : Nat) (fb : M PD) : six i fb ds = bnd (getS i) (fun _ => bnd fb fun y => bnd (getS i) fun ns => match y with
  | .int k => ofO ((atI ns k).map PyData.int)
  | _ => stuck) ds := by
  unfold six
  simp only [bnd_app]
  all_goals cases getS i ds with
  | ok a d =>
    simp only []
    cases fb d with
    | ok y d2 =>
      simp only []
      cases getS i d2 with
      | ok ns d3 => cases y <;> rfl
      | ex x d => rfl
      | err => rfl
    | ex x d => rfl
    | err => rfl
  | ex x d => rfl
  | err => rfl
@[simp] theorem ssl_app (i : Nat) (fl fh : M (Option Int)) : ssl i fl fh ds = bnd (getS i) (fun _ => bnd fl fun l => bnd fh fun h => bnd (getS i) fun ns => DL.ret (.lst (cutD (ns.map .int) l h))) ds := rfl
@[simp] theorem lrngM_app (fa : M PD) : lrngM fa ds = bnd fa (fun x => match x with
  | .int j => if 0 ≤ j ∧ j ≤ 16777216 then DL.ret (.lst (rngL 0 j.toNat)) else stuck
  | _ => stuck) ds := by
  unfold lrngM
  simp only [bnd_app]
  all_goals cases fa ds with
  | ok y d => cases y <;> rfl
  | ex x d => rfl
  | err => rfl
end
@[simp] theorem max2_ii (a b : Int) : max2 (.int a) (.int b) = some (.int (if b > a then b else a)) := rfl
@[simp] theorem min2_ii (a b : Int) : min2 (.int a) (.int b) = some (.int (if b < a then b else a)) := rfl
theorem cut_to1 (ns : List Int) : cutD (ns.map .int) none (some 1) = (ns.take 1).map .int := by
  unfold cutD
  rw [HT.sIx_none, show HT.sIx (ns.map PyData.int).length (ns.map PyData.int).length (some 1) = min 1 (ns.map PyData.int).length from HT.sIx_nat _ _ 1]
  cases ns with
  | nil => rfl
  | cons x r => simp
def outV : Out → RV
  | .nx => .dat .none
  | .rt r => r
theorem den_eq {io : Bool} {n : Nat} {body : M Out} {rs : List RV} {o : Out} {ds' : DS} {c : Cn} (ds0 : DS) (h0 : rs.map some ++ List.replicate (n - rs.length) none = ds0) (h : body ds0 = .ok o ds') (hc : fstC io ds' = some c) : den io n body rs = some (outV o, c) := by
  unfold den
  rw [h0, h]
  simp only []
  rw [hc]
  cases o <;> rfl
end DL

namespace DL
open PySem PySem.Spec PyProof.Rows L2

/-! ### typed readings: patterns of slots -/
inductive Pv where
  | any
  | pl
  | is (r : RV)
abbrev Pt := List Pv
def Pv.ok (a : Pv) (o : Option RV) : Prop := match a with
  | .any => True
  | .pl => (match o with | none => True | some (.dat _) => True | _ => False)
  | .is r => o = some r
def At : Pt → DS → Prop
  | [], [] => True
  | a :: p, o :: d => a.ok o ∧ At p d
  | _, _ => False
def Pv.le (a b : Pv) : Prop := match b with
  | .any => True
  | .pl => (match a with | .pl => True | .is (.dat _) => True | _ => False)
  | .is r => a = .is r
def Wk : Pt → Pt → Prop
  | [], [] => True
  | a :: p, b :: q => a.le b ∧ Wk p q
  | _, _ => False
theorem At.len : ∀ {p : Pt} {ds : DS}, At p ds → p.length = ds.length
  | [], [], _ => rfl
  | a :: p, o :: ds, h => by rw [List.length_cons, List.length_cons, At.len h.2]
  | [], _ :: _, h => h.elim
  | _ :: _, [], h => h.elim
theorem At.at : ∀ {p : Pt} {ds : DS} {i : Nat} {a : Pv}, At p ds → p[i]? = some a → ∃ o, ds[i]? = some o ∧ a.ok o
  | [], _, i, r, _, e => by simp at e
  | a :: p, [], i, r, h, _ => h.elim
  | a :: p, o :: ds, 0, r, h, e => by simp at e; subst e; exact ⟨o, rfl, h.1⟩
  | a :: p, o :: ds, i + 1, r, h, e => by simpa using At.at h.2 (by simpa using e)
theorem At.get {p : Pt} {ds : DS} {i : Nat} {r : RV} (h : At p ds) (e : p[i]? = some (.is r)) : ds[i]? = some (some r) := by
  obtain ⟨o, h1, h2⟩ := h.at e
  rw [h1]; exact congrArg some h2
theorem At.set : ∀ {p : Pt} {ds : DS} {a : Pv} {o : Option RV} (i : Nat), At p ds → a.ok o → At (p.set i a) (ds.set i o)
  | [], [], _, _, _, _, _ => trivial
  | a :: p, o :: ds, b, z, 0, h, hb => ⟨hb, h.2⟩
  | a :: p, o :: ds, b, z, i + 1, h, hb => ⟨h.1, At.set i h.2 hb⟩
  | [], _ :: _, _, _, _, h, _ => h.elim
  | _ :: _, [], _, _, _, h, _ => h.elim
theorem Pv.oke {r : RV} {o : Option RV} (h : o = some r) : Pv.ok (.is r) o := h
theorem Pv.le_ok {a b : Pv} {o : Option RV} (l : a.le b) (h : a.ok o) : b.ok o := by
  cases b with
  | any => trivial
  | is r => cases (show a = .is r from l); exact h
  | pl =>
    cases a with
    | any => exact l.elim
    | pl => exact h
    | is r =>
      cases (show o = some r from h)
      cases r with
      | dat d => trivial
      | _ => exact l.elim
theorem At.wk : ∀ {p q : Pt} {ds : DS}, Wk p q → At p ds → At q ds
  | [], [], [], _, _ => trivial
  | a :: p, b :: q, o :: ds, w, h => ⟨Pv.le_ok w.1 h.1, At.wk w.2 h.2⟩
  | [], [], _ :: _, _, h => h.elim
  | _ :: _, _ :: _, [], _, h => h.elim
  | [], _ :: _, _, w, _ => w.elim
  | _ :: _, [], _, w, _ => w.elim
theorem Wk.refl : ∀ (p : Pt), Wk p p
  | [] => trivial
  | a :: p => ⟨by cases a <;> trivial, Wk.refl p⟩
def wipeP (p : Pt) : List Nat → Pt
  | [] => p
  | v :: vs => (wipeP p vs).set v .pl
def restP (p0 p : Pt) : List Nat → Pt
  | [] => p
  | v :: vs => (restP p0 p vs).set v (p0[v]?.getD .any)
theorem At.wipe {p : Pt} {ds : DS} (h : At p ds) : ∀ vs : List Nat, At (wipeP p vs) (wipeD ds vs)
  | [] => h
  | v :: vs => (h.wipe vs).set v trivial
theorem At.rest {p p0 : Pt} {ds ds0 : DS} (h0 : At p0 ds0) (h : At p ds) : ∀ vs : List Nat, At (restP p0 p vs) (restD ds0 ds vs)
  | [] => h
  | v :: vs => (At.rest h0 h vs).set v (by
    cases e : p0[v]? with
    | none => trivial
    | some a =>
      obtain ⟨o, h1, h2⟩ := h0.at e
      rw [h1]; exact h2)
def plB (p : Pt) (vs : List Nat) : Bool := vs.all fun v => match p[v]? with
  | some .pl => true
  | some (.is (.dat _)) => true
  | none => true
  | _ => false
theorem At.noOwn {p : Pt} {ds : DS} (h : At p ds) {vs : List Nat} (hp : plB p vs = true) : noOwn ds vs = true := by
  unfold DL.noOwn
  rw [List.all_eq_true]
  intro v hv
  have := List.all_eq_true.mp hp v hv
  cases e : p[v]? with
  | none =>
    have hl : ds[v]? = none := by
      rw [List.getElem?_eq_none_iff] at e ⊢
      rw [← h.len]; exact e
    rw [hl]
  | some a =>
    rw [e] at this
    obtain ⟨o, h1, h2⟩ := h.at e
    rw [h1]
    cases a with
    | any => cases this
    | pl =>
      cases o with
      | none => rfl
      | some r =>
        cases r with
        | dat d => rfl
        | own c => exact h2.elim
        | scr _ => rfl
        | lck _ => rfl
    | is r =>
      cases (show o = some r from h2)
      cases r with
      | dat d => rfl
      | own c => cases this
      | scr _ => rfl
      | lck _ => rfl

/-! ### what is read -/
def Bx {γ ρ : Type} (p : Pt) (f : M γ) (T : Option ρ) (e : ρ → γ) (q : ρ → Pt) : Prop :=
  ∀ r, T = some r → ∀ ds, At p ds → ∃ ds', f ds = .ok (e r) ds' ∧ At (q r) ds'
theorem bnd_assoc {α β γ : Type} (f : M α) (g : α → M β) (h : β → M γ) : bnd (bnd f g) h = bnd f fun a => bnd (g a) h := by
  funext ds
  simp only [bnd]
  cases f ds <;> rfl
theorem bnd_ret' {α : Type} (f : M α) : bnd f DL.ret = f := by
  funext ds
  simp only [bnd]
  cases f ds <;> rfl
theorem bnd_if {α β : Type} (b : Prop) [Decidable b] (f g : M α) (h : α → M β) : bnd (if b then f else g) h = if b then bnd f h else bnd g h := by
  split <;> rfl
section
variable {γ δ ρ τ α β : Type} {p : Pt} {T : Option ρ} {e : ρ → γ} {q : ρ → Pt}
theorem Bx.eq {f f' : M γ} (h : f = f') (k : Bx p f' T e q) : Bx p f T e q := h ▸ k
theorem c_fin {f : M γ} (k : Bx p (bnd f DL.ret) T e q) : Bx p f T e q := k.eq (bnd_ret' f).symm
theorem x_ret {x : γ} {r : ρ} (h : x = e r) (w : Wk p (q r)) : Bx p (DL.ret x) (some r) e q := fun _ hr ds a => by
  cases hr; exact ⟨ds, by rw [← h]; rfl, a.wk w⟩
theorem x_none {f : M γ} : Bx p f none e q := fun r h => nomatch h
theorem c_ret {a : δ} {g : δ → M γ} (k : Bx p (g a) T e q) : Bx p (bnd (DL.ret a) g) T e q := k
theorem c_wk {p' : Pt} {f : M γ} (w : Wk p p') (k : Bx p' f T e q) : Bx p f T e q := fun r h ds a => k r h ds (a.wk w)
theorem c_blk {f : M δ} {g : δ → M γ} {t : Option τ} {u : τ → Option ρ} {e' : τ → δ} {q' : τ → Pt} (h : Bx p f t e' q') (k : ∀ v, Bx (q' v) (g (e' v)) (u v) e q) : Bx p (bnd f g) (t.bind u) e q := fun r hr ds a => by
  cases ht : t with
  | none => rw [ht] at hr; cases hr
  | some v =>
    rw [ht] at hr
    obtain ⟨d1, h1, a1⟩ := h v ht ds a
    obtain ⟨d2, h2, a2⟩ := k v r hr d1 a1
    exact ⟨d2, by rw [bnd_app, h1]; exact h2, a2⟩
theorem c_asc {f : M α} {g : α → M β} {h : β → M γ} (k : Bx p (bnd f fun a => bnd (g a) h) T e q) : Bx p (bnd (bnd f g) h) T e q := k.eq (bnd_assoc f g h)
/-- a pure step at a state -/
theorem c_step {f : M δ} {g : δ → M γ} {x : δ} {p' : Pt} (h : ∀ ds, At p ds → ∃ ds', f ds = .ok x ds' ∧ At p' ds') (k : Bx p' (g x) T e q) : Bx p (bnd f g) T e q := fun r hr ds a => by
  obtain ⟨d1, h1, a1⟩ := h ds a
  obtain ⟨d2, h2, a2⟩ := k r hr d1 a1
  exact ⟨d2, by rw [bnd_app, h1]; exact h2, a2⟩
theorem c_gv {i : Nat} {d : PD} {g : PD → M γ} (h : p[i]? = some (.is (.dat d))) (k : Bx p (g d) T e q) : Bx p (bnd (gv i) g) T e q :=
  c_step (fun ds a => ⟨ds, by rw [gv_app, a.get h], a⟩) k
theorem c_of {o : Option δ} {z : δ} {g : δ → M γ} (h : o = some z) (k : Bx p (g z) T e q) : Bx p (bnd (ofO o) g) T e q := by
  subst h; exact k
theorem c_ofp {o : Option δ} {g : δ → M γ} {t : Option τ} {u : τ → Option ρ} (e' : τ → δ) (h : ∀ v, t = some v → o = some (e' v)) (k : ∀ v, Bx p (g (e' v)) (u v) e q) : Bx p (bnd (ofO o) g) (t.bind u) e q := fun r hr ds a => by
  cases ht : t with
  | none => rw [ht] at hr; cases hr
  | some v =>
    rw [ht] at hr
    rw [h v ht]
    exact k v r hr ds a
/-- .. a guard -/
theorem c_if {b : Bool} {f g : M γ} {T2 : Option ρ} (k1 : Bx p f T e q) (k2 : Bx p g T2 e q) : Bx p (if b = true then f else g) (if b = true then T else T2) e q := by
  cases b
  · exact k2
  · exact k1
theorem c_ifk {b : Bool} {f g : M δ} {h : δ → M γ} {T2 : Option ρ} (k1 : Bx p (bnd f h) T e q) (k2 : Bx p (bnd g h) T2 e q) : Bx p (bnd (if b = true then f else g) h) (if b = true then T else T2) e q := by
  cases b
  · exact k2
  · exact k1
theorem c_ifx {b : Bool} {f g : M δ} {h : δ → M γ} {t1 t2 : Option τ} {u : τ → Option ρ} (e' : τ → δ) (q' : τ → Pt) (k1 : Bx p f t1 e' q') (k2 : Bx p g t2 e' q') (k : ∀ v, Bx (q' v) (h (e' v)) (u v) e q) : Bx p (bnd (if b = true then f else g) h) ((if b = true then t1 else t2).bind u) e q := by
  refine c_blk ?_ k
  cases b
  · exact k2
  · exact k1
/-- .. both sides plain -/
theorem c_ifp {b : Bool} {f g : M δ} {h : δ → M γ} {x y : τ} (e' : τ → δ) (k1 : Bx p f (some x) e' fun _ => p) (k2 : Bx p g (some y) e' fun _ => p) (k : Bx p (h (e' (if b = true then x else y))) T e q) : Bx p (bnd (if b = true then f else g) h) T e q := by
  cases b with
  | true =>
    refine c_step (fun ds a => ?_) k
    obtain ⟨ds', h1, h2⟩ := k1 x rfl ds a
    exact ⟨ds', h1, h2⟩
  | false =>
    refine c_step (fun ds a => ?_) k
    obtain ⟨ds', h1, h2⟩ := k2 y rfl ds a
    exact ⟨ds', h1, h2⟩
def andO (b : Bool) (t : Option Bool) : Option Bool := if b = true then t else some false
def orO (b : Bool) (t : Option Bool) : Option Bool := if b = true then some true else t
theorem c_and {b b2 : Bool} {tb : M Bool} {g : Bool → M γ} (h : Bx p tb (some b2) (fun x => x) fun _ => p) (k : Bx p (g (b && b2)) T e q) : Bx p (bnd (if b = true then tb else DL.ret false) g) T e q := by
  cases b with
  | true => exact c_step (fun ds a => h b2 rfl ds a) k
  | false => exact k
theorem c_or {b b2 : Bool} {tb : M Bool} {g : Bool → M γ} (h : Bx p tb (some b2) (fun x => x) fun _ => p) (k : Bx p (g (b || b2)) T e q) : Bx p (bnd (if b = true then DL.ret true else tb) g) T e q := by
  cases b with
  | false => exact c_step (fun ds a => h b2 rfl ds a) k
  | true => exact k
theorem c_andp {b : Bool} {t : Option Bool} {tb : M Bool} {g : Bool → M γ} {u : Bool → Option ρ} (h : Bx p tb t (fun x => x) fun _ => p) (k : ∀ v, Bx p (g v) (u v) e q) : Bx p (bnd (if b = true then tb else DL.ret false) g) ((andO b t).bind u) e q :=
  c_ifx (fun x => x) (fun _ => p) h (x_ret rfl (Wk.refl _)) k
theorem c_orp {b : Bool} {t : Option Bool} {tb : M Bool} {g : Bool → M γ} {u : Bool → Option ρ} (h : Bx p tb t (fun x => x) fun _ => p) (k : ∀ v, Bx p (g v) (u v) e q) : Bx p (bnd (if b = true then DL.ret true else tb) g) ((orO b t).bind u) e q :=
  c_ifx (fun x => x) (fun _ => p) (x_ret rfl (Wk.refl _)) h k
end
/-! the readings' constructors, what follows told -/
section
variable {γ δ ρ τ α β : Type} {p : Pt} {T : Option ρ} {e : ρ → γ} {q : ρ → Pt}
theorem ap1_eq (f : PD → Option α) (fa : M PD) : ap1 f fa = bnd fa fun x => ofO (f x) := funext fun ds => ap1_app f fa
theorem ap2_eq (f : PD → PD → Option α) (fa fb : M PD) : ap2 f fa fb = bnd fa fun x => bnd fb fun y => ofO (f x y) := funext fun ds => ap2_app f fa fb
theorem mkTup_eq (f : M (List PD)) : mkTup f = bnd f fun xs => if xs.length ≤ lim then DL.ret (.tuple xs) else stuck := funext fun ds => mkTup_app f
theorem mkLst_eq (f : M (List PD)) : mkLst f = bnd f fun xs => if xs.length ≤ lim then DL.ret (.lst xs) else stuck := funext fun ds => mkLst_app f
theorem fz_eq (f : M Cn) : fz f = bnd f fun c => DL.ret c.frz := funext fun ds => fz_app f
theorem c_bin {f : PD → PD → Option δ} {fa fb : M PD} {g : δ → M γ} (k : Bx p (bnd fa fun x => bnd fb fun y => bnd (ofO (f x y)) g) T e q) : Bx p (bnd (bin f fa fb) g) T e q := k.eq (by unfold bin; simp only [bnd_assoc])
theorem c_tbin {f : PD → PD → Option Bool} {fa fb : M PD} {g : Bool → M γ} (k : Bx p (bnd fa fun x => bnd fb fun y => bnd (ofO (f x y)) g) T e q) : Bx p (bnd (tbin f fa fb) g) T e q := k.eq (by unfold tbin; simp only [bnd_assoc])
theorem c_una {f : PD → Option δ} {fa : M PD} {g : δ → M γ} (k : Bx p (bnd fa fun x => bnd (ofO (f x)) g) T e q) : Bx p (bnd (una f fa) g) T e q := k.eq (by unfold una; simp only [bnd_assoc])
theorem c_ap1 {f : PD → Option δ} {fa : M PD} {g : δ → M γ} (k : Bx p (bnd fa fun x => bnd (ofO (f x)) g) T e q) : Bx p (bnd (ap1 f fa) g) T e q := k.eq (by rw [ap1_eq]; simp only [bnd_assoc])
theorem c_ap2 {f : PD → PD → Option δ} {fa fb : M PD} {g : δ → M γ} (k : Bx p (bnd fa fun x => bnd fb fun y => bnd (ofO (f x y)) g) T e q) : Bx p (bnd (ap2 f fa fb) g) T e q := k.eq (by rw [ap2_eq]; simp only [bnd_assoc])
theorem c_itM {f : M PD} {g : List PD → M γ} (k : Bx p (bnd f fun x => bnd (ofO (seqOf x)) g) T e q) : Bx p (bnd (itM f) g) T e q := k.eq (by unfold itM; simp only [bnd_assoc])
theorem c_rng1 {f : M PD} {g : List PD → M γ} (k : Bx p (bnd f fun x => bnd (ofO (rng1 x)) g) T e q) : Bx p (bnd (rngM1 f) g) T e q := k.eq (by rw [show rngM1 f = bnd f fun x => ofO (rng1 x) from funext fun ds => rngM1_app f]; simp only [bnd_assoc])
theorem c_rng2 {fa fb : M PD} {g : List PD → M γ} (k : Bx p (bnd fa fun x => bnd fb fun y => bnd (ofO (rng2 x y)) g) T e q) : Bx p (bnd (rngM2 fa fb) g) T e q := k.eq (by rw [show rngM2 fa fb = bnd fa fun x => bnd fb fun y => ofO (rng2 x y) from funext fun ds => rngM2_app fa fb]; simp only [bnd_assoc])
theorem c_rng3 {fa fb fc : M PD} {g : List PD → M γ} (k : Bx p (bnd fa fun x => bnd fb fun y => bnd fc fun z => bnd (ofO (rng3 x y z)) g) T e q) : Bx p (bnd (rngM3 fa fb fc) g) T e q := k.eq (by unfold rngM3; simp only [bnd_assoc])
theorem c_enum {f : M PD} {g : List PD → M γ} (k : Bx p (bnd f fun x => bnd (ofO ((seqOf x).map enumL)) g) T e q) : Bx p (bnd (enumM f) g) T e q := k.eq (by rw [show enumM f = bnd f fun x => ofO ((seqOf x).map enumL) from funext fun ds => enumM_app f]; simp only [bnd_assoc])
def zipO (x y : PD) : Option (List PD) := match seqOf x, seqOf y with | some xs, some ys => some (zipL xs ys) | _, _ => none
theorem c_zip {fa fb : M PD} {g : List PD → M γ} (k : Bx p (bnd fa fun x => bnd fb fun y => bnd (ofO (zipO x y)) g) T e q) : Bx p (bnd (zipM fa fb) g) T e q := k.eq (by rw [show zipM fa fb = bnd fa fun x => bnd fb fun y => ofO (zipO x y) from funext fun ds => zipM_app fa fb]; simp only [bnd_assoc])
/-! displays -/
theorem c_consA {f : M PD} {g : M (List PD)} {h : List PD → M γ} (k : Bx p (bnd f fun x => bnd g fun xs => h (x :: xs)) T e q) : Bx p (bnd (consA f g) h) T e q := k.eq (by unfold consA; simp only [bnd_assoc]; rfl)
theorem c_nilA {h : List PD → M γ} (k : Bx p (h []) T e q) : Bx p (bnd nilA h) T e q := k
def starK (x : PD) (g : M (List PD)) : M (List PD) := match seqOf x with
  | some ys => bnd g fun xs => DL.ret (ys ++ xs)
  | none => stuck
theorem c_starA {f : M PD} {g : M (List PD)} {h : List PD → M γ} (k : Bx p (bnd f fun x => bnd (starK x g) h) T e q) : Bx p (bnd (starA f g) h) T e q := k.eq (by unfold starA; simp only [bnd_assoc]; rfl)
theorem c_starK {x : PD} {ys : List PD} {g : M (List PD)} {h : List PD → M γ} (hx : seqOf x = some ys) (k : Bx p (bnd g fun xs => h (ys ++ xs)) T e q) : Bx p (bnd (starK x g) h) T e q := k.eq (by unfold starK; rw [hx]; simp only [bnd_assoc]; rfl)
def tupK (xs : List PD) : M PD := if xs.length ≤ lim then DL.ret (.tuple xs) else stuck
def lstK (xs : List PD) : M Cn := if xs.length ≤ lim then DL.ret (.lst xs) else stuck
theorem c_mkTup {f : M (List PD)} {h : PD → M γ} (k : Bx p (bnd f fun xs => bnd (tupK xs) h) T e q) : Bx p (bnd (mkTup f) h) T e q := k.eq (by rw [mkTup_eq]; simp only [bnd_assoc]; rfl)
theorem c_mkLst {f : M (List PD)} {h : Cn → M γ} (k : Bx p (bnd f fun xs => bnd (lstK xs) h) T e q) : Bx p (bnd (mkLst f) h) T e q := k.eq (by rw [mkLst_eq]; simp only [bnd_assoc]; rfl)
theorem c_tupK {xs : List PD} {h : PD → M γ} (hx : decide (xs.length ≤ lim) = true) (k : Bx p (h (.tuple xs)) T e q) : Bx p (bnd (tupK xs) h) T e q := k.eq (by unfold tupK; rw [if_pos (of_decide_eq_true hx)]; rfl)
theorem c_lstK {xs : List PD} {h : Cn → M γ} (hx : decide (xs.length ≤ lim) = true) (k : Bx p (h (.lst xs)) T e q) : Bx p (bnd (lstK xs) h) T e q := k.eq (by unfold lstK; rw [if_pos (of_decide_eq_true hx)]; rfl)
/-- with parts whose number is not written -/
def okL {α : Type} (xs : List α) : Option (List α) := if xs.length ≤ lim then some xs else none
theorem okL_some {α : Type} {xs ys : List α} (h : okL xs = some ys) : xs = ys ∧ xs.length ≤ lim := by
  unfold okL at h
  split at h
  · exact ⟨Option.some.inj h, by assumption⟩
  · cases h
theorem c_tupKL {en : α → PD} {xs : List α} {ws : List PD} {h : PD → M γ} {u : List α → Option ρ} (hw : ws = xs.map en) (k : ∀ v, Bx p (h (.tuple (v.map en))) (u v) e q) : Bx p (bnd (tupK ws) h) ((okL xs).bind u) e q := by
  subst hw
  intro r hr ds a
  cases ht : okL xs with
  | none => rw [ht] at hr; cases hr
  | some v =>
    rw [ht] at hr
    obtain ⟨rfl, hl⟩ := okL_some ht
    unfold tupK
    rw [if_pos (by simpa using hl)]
    exact k xs r hr ds a
theorem c_lstKL {en : α → PD} {xs : List α} {ws : List PD} {h : Cn → M γ} {u : List α → Option ρ} (hw : ws = xs.map en) (k : ∀ v, Bx p (h (.lst (v.map en))) (u v) e q) : Bx p (bnd (lstK ws) h) ((okL xs).bind u) e q := by
  subst hw
  intro r hr ds a
  cases ht : okL xs with
  | none => rw [ht] at hr; cases hr
  | some v =>
    rw [ht] at hr
    obtain ⟨rfl, hl⟩ := okL_some ht
    unfold lstK
    rw [if_pos (by simpa using hl)]
    exact k xs r hr ds a
/-! fresh ones and data -/
theorem c_fz {f : M Cn} {h : PD → M γ} (k : Bx p (bnd f fun c => h c.frz) T e q) : Bx p (bnd (fz f) h) T e q := k.eq (by rw [fz_eq]; simp only [bnd_assoc]; rfl)
def frzK (r : RV) : M PD := match r with | .dat d => DL.ret d | .own c => DL.ret c.frz | .scr _ => stuck | .lck _ => stuck
theorem c_frzV {f : M RV} {h : PD → M γ} (k : Bx p (bnd f fun r => bnd (frzK r) h) T e q) : Bx p (bnd (frzV f) h) T e q := k.eq (by rw [show frzV f = bnd f frzK from funext fun ds => frzV_app f]; simp only [bnd_assoc])
theorem c_frzD {d : PD} {h : PD → M γ} (k : Bx p (h d) T e q) : Bx p (bnd (frzK (.dat d)) h) T e q := k
theorem c_frzO {c : Cn} {h : PD → M γ} (k : Bx p (h c.frz) T e q) : Bx p (bnd (frzK (.own c)) h) T e q := k
def ownK (r : RV) : M Cn := match r with | .own c => DL.ret c | _ => stuck
theorem c_ownV {f : M RV} {h : Cn → M γ} (k : Bx p (bnd f fun r => bnd (ownK r) h) T e q) : Bx p (bnd (ownV f) h) T e q := k.eq (by rw [show ownV f = bnd f ownK from funext fun ds => by rw [ownV_app]; rfl]; simp only [bnd_assoc])
theorem c_ownO {c : Cn} {h : Cn → M γ} (k : Bx p (h c) T e q) : Bx p (bnd (ownK (.own c)) h) T e q := k
theorem c_anyV {tr : α → RV} {f : M α} {h : RV → M γ} (k : Bx p (bnd f fun a => h (tr a)) T e q) : Bx p (bnd (anyV tr f) h) T e q := k.eq (by unfold anyV; simp only [bnd_assoc]; rfl)
/-! tests -/
theorem c_boolOf {b : Bool} {h : Bool → M γ} (k : Bx p (h b) T e q) : Bx p (bnd (boolOf (.bool b)) h) T e q := k
theorem c_andT {ta tb : M Bool} {h : Bool → M γ} (k : Bx p (bnd ta fun b => bnd (if b = true then tb else DL.ret false) h) T e q) : Bx p (bnd (andT ta tb) h) T e q := k.eq (by unfold andT; simp only [bnd_assoc])
theorem c_orT {ta tb : M Bool} {h : Bool → M γ} (k : Bx p (bnd ta fun b => bnd (if b = true then DL.ret true else tb) h) T e q) : Bx p (bnd (orT ta tb) h) T e q := k.eq (by unfold orT; simp only [bnd_assoc])
theorem c_notT {ta : M Bool} {h : Bool → M γ} (k : Bx p (bnd ta fun b => h (!b)) T e q) : Bx p (bnd (notT ta) h) T e q := k.eq (by unfold notT; simp only [bnd_assoc]; rfl)
theorem c_yesT {h : Bool → M γ} (k : Bx p (h true) T e q) : Bx p (bnd yesT h) T e q := k
def andK (x : PD) (fb : M PD) : M PD := match x with | .bool true => fb | .bool false => DL.ret (.bool false) | _ => stuck
def orK (x : PD) (fb : M PD) : M PD := match x with | .bool false => fb | .bool true => DL.ret (.bool true) | _ => stuck
def notK (x : PD) : M PD := match x with | .bool k => DL.ret (.bool (!k)) | _ => stuck
theorem c_andD {fa fb : M PD} {h : PD → M γ} (k : Bx p (bnd fa fun x => bnd (andK x fb) h) T e q) : Bx p (bnd (andD fa fb) h) T e q := k.eq (by
  rw [show andD fa fb = bnd fa fun x => andK x fb from by unfold andD; congr 1]; simp only [bnd_assoc])
theorem c_orD {fa fb : M PD} {h : PD → M γ} (k : Bx p (bnd fa fun x => bnd (orK x fb) h) T e q) : Bx p (bnd (orD fa fb) h) T e q := k.eq (by
  rw [show orD fa fb = bnd fa fun x => orK x fb from by unfold orD; congr 1]; simp only [bnd_assoc])
theorem c_notD {fa : M PD} {h : PD → M γ} (k : Bx p (bnd fa fun x => bnd (notK x) h) T e q) : Bx p (bnd (notD fa) h) T e q := k.eq (by
  rw [show notD fa = bnd fa notK from by unfold notD; congr 1]; simp only [bnd_assoc])
theorem c_notK {b : Bool} {h : PD → M γ} (k : Bx p (h (.bool (!b))) T e q) : Bx p (bnd (notK (.bool b)) h) T e q := k
theorem c_andK {b b2 : Bool} {tb : M PD} {g : PD → M γ} (h : Bx p tb (some b2) PyData.bool fun _ => p) (k : Bx p (g (.bool (b && b2))) T e q) : Bx p (bnd (andK (.bool b) tb) g) T e q := by
  cases b with
  | true => exact c_step (fun ds a => h b2 rfl ds a) k
  | false => exact k
theorem c_orK {b b2 : Bool} {tb : M PD} {g : PD → M γ} (h : Bx p tb (some b2) PyData.bool fun _ => p) (k : Bx p (g (.bool (b || b2))) T e q) : Bx p (bnd (orK (.bool b) tb) g) T e q := by
  cases b with
  | false => exact c_step (fun ds a => h b2 rfl ds a) k
  | true => exact k
theorem c_andKx {b : Bool} {t : Option τ} {tb : M PD} {g : PD → M γ} {u : τ → Option ρ} (e' : τ → PD) (q' : τ → Pt) (z : τ) (hz : e' z = .bool false) (w : Wk p (q' z)) (h : Bx p tb t e' q') (k : ∀ v, Bx (q' v) (g (e' v)) (u v) e q) : Bx p (bnd (andK (.bool b) tb) g) ((if b = true then t else some z).bind u) e q := by
  refine c_blk (e' := e') (q' := q') ?_ k
  cases b
  · exact x_ret hz.symm w
  · exact h
theorem c_orKx {b : Bool} {t : Option τ} {tb : M PD} {g : PD → M γ} {u : τ → Option ρ} (e' : τ → PD) (q' : τ → Pt) (z : τ) (hz : e' z = .bool true) (w : Wk p (q' z)) (h : Bx p tb t e' q') (k : ∀ v, Bx (q' v) (g (e' v)) (u v) e q) : Bx p (bnd (orK (.bool b) tb) g) ((if b = true then some z else t).bind u) e q := by
  refine c_blk (e' := e') (q' := q') ?_ k
  cases b
  · exact h
  · exact x_ret hz.symm w
theorem c_andKp {b : Bool} {t : Option Bool} {tb : M PD} {g : PD → M γ} {u : Bool → Option ρ} (h : Bx p tb t PyData.bool fun _ => p) (k : ∀ v, Bx p (g (.bool v)) (u v) e q) : Bx p (bnd (andK (.bool b) tb) g) ((andO b t).bind u) e q := c_andKx PyData.bool (fun _ => p) false rfl (Wk.refl _) h k
theorem c_orKp {b : Bool} {t : Option Bool} {tb : M PD} {g : PD → M γ} {u : Bool → Option ρ} (h : Bx p tb t PyData.bool fun _ => p) (k : ∀ v, Bx p (g (.bool v)) (u v) e q) : Bx p (bnd (orK (.bool b) tb) g) ((orO b t).bind u) e q := c_orKx PyData.bool (fun _ => p) true rfl (Wk.refl _) h k
theorem c_tchain {f f' : PD → PD → Option Bool} {fa fb fc : M PD} {h : Bool → M γ} (k : Bx p (bnd fa fun x => bnd fb fun y => bnd (ofO (f x y)) fun b => bnd (if b = true then bnd fc fun z => ofO (f' y z) else DL.ret false) h) T e q) : Bx p (bnd (tchain f f' fa fb fc) h) T e q := k.eq (by unfold tchain; simp only [bnd_assoc])
theorem c_chain {f f' : PD → PD → Option Bool} {fa fb fc : M PD} {h : PD → M γ} (k : Bx p (bnd fa fun x => bnd fb fun y => bnd (ofO (f x y)) fun b => bnd (if b = true then bnd fc fun z => ofO (bD f' y z) else DL.ret (.bool false)) h) T e q) : Bx p (bnd (chain f f' fa fb fc) h) T e q := k.eq (by unfold chain; simp only [bnd_assoc])
theorem c_chAnd {b b2 : Bool} {tb : M PD} {g : PD → M γ} (h : Bx p tb (some b2) PyData.bool fun _ => p) (k : Bx p (g (.bool (b && b2))) T e q) : Bx p (bnd (if b = true then tb else DL.ret (.bool false)) g) T e q := by
  cases b with
  | true => exact c_step (fun ds a => h b2 rfl ds a) k
  | false => exact k
theorem c_ifD {t : M Bool} {fa fb : M δ} {h : δ → M γ} (k : Bx p (bnd t fun b => bnd (if b = true then fa else fb) h) T e q) : Bx p (bnd (ifD t fa fb) h) T e q := k.eq (by unfold ifD; simp only [bnd_assoc])
def isiK (s : String) (x : PD) : M PD := if isDic x = true then stuck else DL.ret (.bool (isiD s x))
theorem c_isi {s : String} {fa : M PD} {h : PD → M γ} (k : Bx p (bnd fa fun x => bnd (isiK s x) h) T e q) : Bx p (bnd (isiM s fa) h) T e q := k.eq (by unfold isiM; simp only [bnd_assoc]; rfl)
theorem c_isiK {s : String} {x : PD} {b : Bool} {h : PD → M γ} (hd : isDic x = false) (hb : isiD s x = b) (k : Bx p (h (.bool b)) T e q) : Bx p (bnd (isiK s x) h) T e q := k.eq (by unfold isiK; rw [hd, hb]; rfl)
/-! slices -/
def intK (x : PD) : M (Option Int) := match x with | .int i => DL.ret (some i) | _ => stuck
theorem c_intO {f : M PD} {h : Option Int → M γ} (k : Bx p (bnd f fun x => bnd (intK x) h) T e q) : Bx p (bnd (intO f) h) T e q := k.eq (by rw [show intO f = bnd f intK from funext fun ds => intO_app f]; simp only [bnd_assoc])
theorem c_intK {i : Int} {h : Option Int → M γ} (k : Bx p (h (some i)) T e q) : Bx p (bnd (intK (.int i)) h) T e q := k
theorem c_slM {fa : M PD} {fl fh : M (Option Int)} {g : RV → M γ} (k : Bx p (bnd fa fun x => bnd fl fun l => bnd fh fun h => bnd (ofO (slV l h x)) g) T e q) : Bx p (bnd (slM fa fl fh) g) T e q := k.eq (by unfold slM; simp only [bnd_assoc])
/-! statements -/
def seqK (g : M Out) (h : Out → M γ) : Out → M γ
  | .nx => bnd g h
  | .rt r => h (.rt r)
theorem c_seq {f g : M Out} {h : Out → M γ} (k : Bx p (bnd f (seqK g h)) T e q) : Bx p (bnd (seqM f g) h) T e q := k.eq (by
  unfold seqM
  rw [bnd_assoc]
  congr 1
  funext o
  cases o <;> rfl)
theorem c_nxK {g : M Out} {h : Out → M γ} (k : Bx p (bnd g h) T e q) : Bx p (bnd nxt (seqK g h)) T e q := k
theorem c_nx {h : Out → M γ} (k : Bx p (h .nx) T e q) : Bx p (bnd nxt h) T e q := k
theorem c_rtK {r : RV} {g : M Out} {h : Out → M γ} (k : Bx p (bnd (DL.ret (.rt r)) h) T e q) : Bx p (bnd (DL.ret (.rt r)) (seqK g h)) T e q := k
theorem c_setR {i : Nat} {r : RV} {h : Unit → M γ} (k : Bx (p.set i (.is r)) (h ()) T e q) : Bx p (bnd (setR i r) h) T e q := c_step (fun ds a => ⟨ds.set i (some r), rfl, a.set i (Pv.oke rfl)⟩) k
theorem c_setD {i : Nat} {d : PD} {h : Unit → M γ} (k : Bx (p.set i (.is (.dat d))) (h ()) T e q) : Bx p (bnd (setD i d) h) T e q := c_setR k
theorem c_setC {i : Nat} {c : Cn} {h : Unit → M γ} (k : Bx (p.set i (.is (.own c))) (h ()) T e q) : Bx p (bnd (setC i c) h) T e q := c_step (fun ds a => ⟨ds.set i (some (.own c)), rfl, a.set i (Pv.oke rfl)⟩) k
theorem c_stM {i : Nat} {tr : α → RV} {fa : M α} {h : Out → M γ} (k : Bx p (bnd fa fun a => bnd (setR i (tr a)) fun _ => bnd nxt h) T e q) : Bx p (bnd (stM i tr fa) h) T e q := k.eq (by unfold stM; simp only [bnd_assoc])
theorem c_asgM {g : PD → M Unit} {fa : M PD} {h : Out → M γ} (k : Bx p (bnd fa fun a => bnd (g a) fun _ => bnd nxt h) T e q) : Bx p (bnd (asgM g fa) h) T e q := k.eq (by unfold asgM; simp only [bnd_assoc])
theorem c_retM {tr : α → RV} {fa : M α} {h : Out → M γ} (k : Bx p (bnd fa fun a => bnd (DL.ret (.rt (tr a))) h) T e q) : Bx p (bnd (retM tr fa) h) T e q := k.eq (by unfold retM; simp only [bnd_assoc])
theorem c_iteM {t : M Bool} {f g : M Out} {h : Out → M γ} (k : Bx p (bnd t fun b => bnd (if b = true then f else g) h) T e q) : Bx p (bnd (iteM t f g) h) T e q := k.eq (by unfold iteM; simp only [bnd_assoc])
theorem c_stuck {δ : Type} {h : δ → M γ} : Bx p (bnd stuck h) none e q := x_none
theorem c_frzM {i : Nat} {c : Cn} {h : Out → M γ} (hi : p[i]? = some (.is (.own c))) (k : Bx (p.set i (.is (.dat c.frz))) (bnd nxt h) T e q) : Bx p (bnd (frzM i) h) T e q := c_step (fun ds a => ⟨ds.set i (some (.dat c.frz)), by rw [frzM_app, a.get hi], a.set i (Pv.oke rfl)⟩) k
/-! targets -/
theorem c_gTup {n : Nat} {gs : List PD → M Unit} {xs : List PD} {h : Unit → M γ} (hn : xs.length = n) (k : Bx p (bnd (gs xs) h) T e q) : Bx p (bnd (gTupM n gs (.tuple xs)) h) T e q := k.eq (by rw [show gTupM n gs (.tuple xs) = gs xs from funext fun ds => by rw [gTupM_tup, if_pos hn]])
theorem c_gCons {g : PD → M Unit} {gs : List PD → M Unit} {x : PD} {r : List PD} {h : Unit → M γ} (k : Bx p (bnd (g x) fun _ => bnd (gs r) h) T e q) : Bx p (bnd (gConsM g gs (x :: r)) h) T e q := k.eq (by rw [show gConsM g gs (x :: r) = bnd (g x) fun _ => gs r from rfl]; simp only [bnd_assoc])
theorem c_gNil {h : Unit → M γ} (k : Bx p (h ()) T e q) : Bx p (bnd (gNilM []) h) T e q := k
/-! arguments -/
theorem c_consR {tr : α → RV} {f : M α} {g : M (List RV)} {h : List RV → M γ} (k : Bx p (bnd f fun x => bnd g fun xs => h (tr x :: xs)) T e q) : Bx p (bnd (consR tr f g) h) T e q := k.eq (by unfold consR; simp only [bnd_assoc]; rfl)
def parK (is : List Nat) (rs : List RV) : M Out := fun ds => if rs.length = is.length then .ok .nx (setsD ds is rs) else .err
theorem c_parM {is : List Nat} {f : M (List RV)} {h : Out → M γ} (k : Bx p (bnd f fun rs => bnd (parK is rs) h) T e q) : Bx p (bnd (parM is f) h) T e q := k.eq (by unfold parM; simp only [bnd_assoc]; rfl)
def setsP (p : Pt) : List Nat → List RV → Pt
  | i :: is, r :: rs => setsP (p.set i (.is r)) is rs
  | _, _ => p
theorem At.sets : ∀ {p : Pt} {ds : DS} (is : List Nat) (rs : List RV), At p ds → At (setsP p is rs) (setsD ds is rs)
  | _, _, [], [], h => h
  | _, _, [], _ :: _, h => h
  | _, _, _ :: _, [], h => h
  | p, ds, i :: is, r :: rs, h => by
    unfold setsP setsD
    exact At.sets is rs (h.set i (Pv.oke rfl))
theorem c_parK {is : List Nat} {rs : List RV} {h : Out → M γ} (hl : rs.length = is.length) (k : Bx (setsP p is rs) (bnd nxt h) T e q) : Bx p (bnd (parK is rs) h) T e q := c_step (fun ds a => ⟨_, by unfold parK; rw [if_pos hl], a.sets is rs⟩) k
def callK (n : Nat) (d : Den) (rs : List RV) : M RV := if rs.length = n then (if argsOk false rs = true then (fun ds => match d rs with | some (r, _) => .ok r ds | none => .err) else stuck) else stuck
theorem c_callN {n : Nat} {d : Den} {fa : M (List RV)} {h : RV → M γ} (k : Bx p (bnd fa fun rs => bnd (callK n d rs) h) T e q) : Bx p (bnd (callN n d fa) h) T e q := k.eq (by rw [show callN n d fa = bnd fa (callK n d) from funext fun ds => by rw [callN_app]; rfl]; simp only [bnd_assoc])
theorem c_callK {n : Nat} {d : Den} {rs : List RV} {h : RV → M γ} {t : Option τ} {u : τ → Option ρ} (e' : τ → RV) (hn : rs.length = n) (ha : argsOk false rs = true) (hd : ∀ v, t = some v → d rs = some (e' v, noCn)) (k : ∀ v, Bx p (h (e' v)) (u v) e q) : Bx p (bnd (callK n d rs) h) (t.bind u) e q := fun r hr ds a => by
  cases ht : t with
  | none => rw [ht] at hr; cases hr
  | some v =>
    rw [ht] at hr
    obtain ⟨d2, h2, a2⟩ := k v r hr ds a
    refine ⟨d2, ?_, a2⟩
    unfold callK
    rw [if_pos hn, if_pos ha, bnd_app, hd v ht]
    exact h2
def callIOK (i np : Nat) (f : Den) (rs : List RV) : M RV := fun ds => match ds[i]? with
    | some (some (.own c)) => if argsOk true (.own c :: rs) = true ∧ rs.length + 1 = np then (match f (.own c :: rs) with
      | some (r, c') => .ok r (ds.set i (some (.own c')))
      | none => .err) else .err
    | _ => .err
theorem c_callIO {i np : Nat} {c : Cn} {f : Den} {fa : M (List RV)} {h : RV → M γ} (hi : p[i]? = some (.is (.own c))) (k : Bx p (bnd fa fun rs => bnd (callIOK i np f rs) h) T e q) : Bx p (bnd (callIO i np f fa) h) T e q := fun r hr ds a => by
  obtain ⟨d2, h2, a2⟩ := k r hr ds a
  refine ⟨d2, ?_, a2⟩
  have e1 : callIO i np f fa ds = bnd fa (callIOK i np f) ds := by
    unfold callIO
    rw [a.get hi]
    rfl
  rw [bnd_app, e1]
  rw [← bnd_assoc] at h2
  rw [← h2]; rfl
theorem c_callIOK {i np : Nat} {c : Cn} {f : Den} {rs : List RV} {h : RV → M γ} {t : Option τ} {u : τ → Option ρ} (e' : τ → RV) (c' : τ → Cn) (hi : p[i]? = some (.is (.own c))) (hn : rs.length + 1 = np) (ha : argsOk true (.own c :: rs) = true) (hd : ∀ v, t = some v → f (.own c :: rs) = some (e' v, c' v)) (k : ∀ v, Bx (p.set i (.is (.own (c' v)))) (h (e' v)) (u v) e q) : Bx p (bnd (callIOK i np f rs) h) (t.bind u) e q := fun r hr ds a => by
  cases ht : t with
  | none => rw [ht] at hr; cases hr
  | some v =>
    rw [ht] at hr
    obtain ⟨d2, h2, a2⟩ := k v r hr (ds.set i (some (.own (c' v)))) (a.set i (Pv.oke rfl))
    refine ⟨d2, ?_, a2⟩
    have e1 : callIOK i np f rs ds = .ok (e' v) (ds.set i (some (.own (c' v)))) := by
      unfold callIOK
      rw [a.get hi]
      dsimp only
      rw [if_pos ⟨ha, hn⟩, hd v ht]
    rw [bnd_app, e1]
    exact h2
/-! the def as a whole -/
def anyP (n : Nat) : Pt := List.replicate n .any
theorem At_anyP : ∀ (ds : DS), At (anyP ds.length) ds
  | [] => trivial
  | _ :: ds => ⟨trivial, At_anyP ds⟩
theorem den_bx {n : Nat} {body : M Out} {rs : List RV} {p0 : Pt} {t : Option τ} {e' : τ → Out} {q' : τ → Pt} {v : τ} (hb : Bx p0 (bnd body DL.ret) t e' q') (ht : t = some v) (h0 : At p0 (rs.map some ++ List.replicate (n - rs.length) none)) : den false n body rs = some (outV (e' v), noCn) := by
  rw [bnd_ret'] at hb
  obtain ⟨ds', h1, h2⟩ := hb v ht _ h0
  exact den_eq _ rfl h1 rfl
theorem den_bxI {n : Nat} {body : M Out} {rs : List RV} {p0 : Pt} {t : Option τ} {e' : τ → Out} {q' : τ → Pt} {v : τ} {c : Cn} {pr : Pt} (hb : Bx p0 (bnd body DL.ret) t e' q') (ht : t = some v) (h0 : At p0 (rs.map some ++ List.replicate (n - rs.length) none)) (hc : q' v = .is (.own c) :: pr) : den true n body rs = some (outV (e' v), c) := by
  rw [bnd_ret'] at hb
  obtain ⟨ds', h1, h2⟩ := hb v ht _ h0
  refine den_eq _ rfl h1 ?_
  rw [hc] at h2
  have := h2.get (i := 0) (r := .own c) rfl
  unfold fstC
  rw [if_pos rfl, this]
end
end DL

namespace DL
open PySem PySem.Spec PyProof.Rows L2
open PySem.W (alike alikeAll dataLt)

/-! ### values of Lean's own -/
section
variable {α β γ δ : Type}
abbrev eI : Int → PD := .int
abbrev eB : Bool → PD := .bool
/-- texts that stand in the program -/
structure Sk where
  s : Str
  ok : PyData.strOk s = true
theorem Sk.ext {a b : Sk} (h : a.s = b.s) : a = b := by cases a; cases b; cases h; rfl
instance : DecidableEq Sk := fun a b => if h : a.s = b.s then .isTrue (Sk.ext h) else .isFalse fun z => h (by rw [z])
abbrev eS : Sk → PD := fun x => .str x.s
/-- a bool's repr -/
abbrev eRB (b : Bool) : PD := .str (if b = true then "True" else "False")
abbrev eX : PD → PD := fun d => d
abbrev eN : Unit → PD := fun _ => .none
abbrev eT (e : α → PD) (xs : List α) : PD := .tuple (xs.map e)
abbrev eL (e : α → PD) (xs : List α) : PD := .list (xs.map e)
abbrev eP (e1 : α → PD) (e2 : β → PD) (p : α × β) : PD := .tuple [e1 p.1, e2 p.2]
abbrev eP3 (e1 : α → PD) (e2 : β → PD) (e3 : γ → PD) (p : α × β × γ) : PD := .tuple [e1 p.1, e2 p.2.1, e3 p.2.2]
abbrev eP4 (e1 : α → PD) (e2 : β → PD) (e3 : γ → PD) (e4 : δ → PD) (p : α × β × γ × δ) : PD := .tuple [e1 p.1, e2 p.2.1, e3 p.2.2.1, e4 p.2.2.2]
def eO (e : α → PD) : Option α → PD
  | none => .none
  | some a => e a
abbrev oL (e : α → PD) (xs : List α) : Cn := .lst (xs.map e)
abbrev oD (ek : α → PD) (ev : β → PD) (kvs : List (α × β)) : Cn := .dic (kvs.map fun p => (ek p.1, ev p.2))
abbrev eD (ek : α → PD) (ev : β → PD) (kvs : List (α × β)) : PD := .dict (kvs.map fun p => (ek p.1, ev p.2))
end
/-! equality -/
structure EncQ {α : Type} [DecidableEq α] (e : α → PD) (dp : Nat) : Prop where
  lay : ∀ a, (e a).canLay0 = true
  dep : ∀ a, (e a).depth ≤ dp
  eqv : ∀ a b, PyData.eqv (e a) (e b) = decide (a = b)
section
variable {α β γ δ : Type} [DecidableEq α] [DecidableEq β] [DecidableEq γ] [DecidableEq δ] {e : α → PD} {e1 : β → PD} {e2 : γ → PD} {e3 : δ → PD} {n m k : Nat}
theorem qI : EncQ eI 0 := ⟨fun _ => rfl, fun _ => Nat.le_refl _, eqv_ii⟩
theorem qB : EncQ eB 0 := ⟨fun _ => rfl, fun _ => Nat.le_refl _, fun a b => by cases a <;> cases b <;> simp [PyData.eqv]⟩
theorem qS : EncQ eS 0 := ⟨fun x => x.ok, fun _ => Nat.le_refl _, fun a b => by
  show PyData.eqv (.str a.s) (.str b.s) = _
  rw [PyData.eqv]
  by_cases h : a = b
  · simp [h]
  · have : ¬ a.s = b.s := fun z => h (Sk.ext z)
    simp [h, this]⟩
theorem qRB : EncQ eRB 0 := ⟨fun a => by cases a <;> decide +kernel, fun _ => Nat.le_refl _, fun a b => by cases a <;> cases b <;> decide +kernel⟩
theorem EncQ.layAll (h : EncQ e n) : ∀ xs : List α, PyData.canLayAll0 (xs.map e) = true
  | [] => rfl
  | x :: xs => by rw [List.map_cons, PyData.canLayAll0, h.lay, h.layAll xs]; rfl
theorem EncQ.depAll (h : EncQ e n) : ∀ xs : List α, PyData.depthAll (xs.map e) ≤ n
  | [] => Nat.zero_le _
  | x :: xs => by
    rw [List.map_cons, PyData.depthAll]
    exact Nat.max_le.mpr ⟨h.dep x, h.depAll xs⟩
theorem EncQ.eqvAll (h : EncQ e n) : ∀ as bs : List α, PyData.eqvAll (as.map e) (bs.map e) = decide (as = bs)
  | [], [] => by rw [List.map_nil, PyData.eqvAll]; rfl
  | [], b :: bs => by rw [List.map_nil, List.map_cons, PyData.eqvAll]; simp
  | a :: as, [] => by rw [List.map_nil, List.map_cons, PyData.eqvAll]; simp
  | a :: as, b :: bs => by
    rw [List.map_cons, List.map_cons, PyData.eqvAll, h.eqv, h.eqvAll as bs]
    simp
theorem qT (h : EncQ e n) : EncQ (eT e) (n + 1) := ⟨fun a => by show PyData.canLay0 (.tuple _) = true; rw [PyData.canLay0, h.layAll], fun a => by show PyData.depth (.tuple _) ≤ _; rw [PyData.depth]; have := h.depAll a; omega, fun a b => by
  show PyData.eqv (.tuple _) (.tuple _) = _
  rw [PyData.eqv, h.eqvAll]⟩
theorem qL (h : EncQ e n) : EncQ (eL e) (n + 1) := ⟨fun a => by show PyData.canLay0 (.list _) = true; rw [PyData.canLay0, h.layAll], fun a => by show PyData.depth (.list _) ≤ _; rw [PyData.depth]; have := h.depAll a; omega, fun a b => by
  show PyData.eqv (.list _) (.list _) = _
  rw [PyData.eqv, h.eqvAll]⟩
theorem qP (h1 : EncQ e n) (h2 : EncQ e1 m) : EncQ (eP e e1) (max n m + 1) := ⟨fun a => by
    show PyData.canLay0 (.tuple _) = true
    rw [PyData.canLay0, PyData.canLayAll0, PyData.canLayAll0, PyData.canLayAll0, h1.lay, h2.lay]; rfl, fun a => by
    show PyData.depth (.tuple _) ≤ _
    rw [PyData.depth, PyData.depthAll, PyData.depthAll, PyData.depthAll]
    have := h1.dep a.1; have := h2.dep a.2
    omega, fun a b => by
    show PyData.eqv (.tuple _) (.tuple _) = _
    rw [PyData.eqv, PyData.eqvAll, PyData.eqvAll, PyData.eqvAll, h1.eqv, h2.eqv]
    rcases a with ⟨a1, a2⟩
    rcases b with ⟨b1, b2⟩
    simp⟩
theorem qP3 (h1 : EncQ e n) (h2 : EncQ e1 m) (h3 : EncQ e2 k) : EncQ (eP3 e e1 e2) (max n (max m k) + 1) := ⟨fun a => by
    show PyData.canLay0 (.tuple _) = true
    rw [PyData.canLay0, PyData.canLayAll0, PyData.canLayAll0, PyData.canLayAll0, PyData.canLayAll0, h1.lay, h2.lay, h3.lay]; rfl, fun a => by
    show PyData.depth (.tuple _) ≤ _
    rw [PyData.depth, PyData.depthAll, PyData.depthAll, PyData.depthAll, PyData.depthAll]
    have := h1.dep a.1; have := h2.dep a.2.1; have := h3.dep a.2.2
    omega, fun a b => by
    show PyData.eqv (.tuple _) (.tuple _) = _
    rw [PyData.eqv, PyData.eqvAll, PyData.eqvAll, PyData.eqvAll, PyData.eqvAll, h1.eqv, h2.eqv, h3.eqv]
    rcases a with ⟨a1, a2, a3⟩
    rcases b with ⟨b1, b2, b3⟩
    simp⟩
theorem qP4 {j : Nat} (h1 : EncQ e n) (h2 : EncQ e1 m) (h3 : EncQ e2 k) (h4 : EncQ e3 j) : EncQ (eP4 e e1 e2 e3) (max (max n j) (max m k) + 1) := ⟨fun a => by
    show PyData.canLay0 (.tuple _) = true
    rw [PyData.canLay0, PyData.canLayAll0, PyData.canLayAll0, PyData.canLayAll0, PyData.canLayAll0, PyData.canLayAll0, h1.lay, h2.lay, h3.lay, h4.lay]; rfl, fun a => by
    show PyData.depth (.tuple _) ≤ _
    rw [PyData.depth, PyData.depthAll, PyData.depthAll, PyData.depthAll, PyData.depthAll, PyData.depthAll]
    have := h1.dep a.1; have := h2.dep a.2.1; have := h3.dep a.2.2.1; have := h4.dep a.2.2.2
    omega, fun a b => by
    show PyData.eqv (.tuple _) (.tuple _) = _
    rw [PyData.eqv, PyData.eqvAll, PyData.eqvAll, PyData.eqvAll, PyData.eqvAll, PyData.eqvAll, h1.eqv, h2.eqv, h3.eqv, h4.eqv]
    rcases a with ⟨a1, a2, a3, a4⟩
    rcases b with ⟨b1, b2, b3, b4⟩
    simp⟩
theorem eqv_none_l {d : PD} (h : notNone d = true) : PyData.eqv .none d = false := by
  cases d <;> first | rfl | (simp [notNone] at h; done) | (simp [PyData.eqv]; done)
theorem eqv_none_r {d : PD} (h : notNone d = true) : PyData.eqv d .none = false := by
  cases d <;> first | rfl | (simp [notNone] at h; done) | (simp [PyData.eqv]; done)
theorem qO (h : EncQ e n) (hn : ∀ a, notNone (e a) = true) : EncQ (eO e) n := ⟨fun a => by cases a with | none => rfl | some a => exact h.lay a, fun a => by cases a with | none => exact Nat.zero_le _ | some a => exact h.dep a, fun a b => by
  cases a with
  | none =>
    cases b with
    | none => rfl
    | some b => exact (eqv_none_l (hn b)).trans (by simp)
  | some a =>
    cases b with
    | none => exact (eqv_none_r (hn a)).trans (by simp)
    | some b => exact (h.eqv a b).trans (by simp)⟩
theorem EncQ.ok (h : EncQ e n) (hn : n ≤ 60) (a : α) : okD (e a) = true := by
  unfold okD SeqAt.shaped
  rw [h.lay, Bool.true_and]
  have := h.dep a
  exact decide_eq_true (Nat.le_trans this (Nat.le_trans hn (by decide)))
theorem eqE (h : EncQ e n) (a b : α) (hn : n ≤ 60 := by decide) : eqB (e a) (e b) = some (decide (a = b)) := by
  unfold eqB
  rw [h.ok hn, h.ok hn, h.eqv]; rfl
theorem neE (h : EncQ e n) (a b : α) (hn : n ≤ 60 := by decide) : neB (e a) (e b) = some (!decide (a = b)) := by
  unfold neB
  rw [h.ok hn, h.ok hn, h.eqv]; rfl
theorem any_eqv (h : EncQ e n) (a : α) : ∀ xs : List α, ((xs.map e).any fun z => PyData.eqv z (e a)) = decide (a ∈ xs)
  | [] => by simp
  | x :: xs => by
    rw [List.map_cons, List.any_cons, any_eqv h a xs, h.eqv]
    by_cases c : x = a
    · simp [c]
    · have c' : ¬ a = x := fun z => c z.symm
      simp [c, c']
theorem inT (h : EncQ e n) (a : α) (xs : List α) (hn : n ≤ 59 := by decide) : inB (e a) (eT e xs) = some (decide (a ∈ xs)) := by
  unfold inB
  show (if (okD (e a) && okD (eT e xs)) = true then some ((xs.map e).any fun z => PyData.eqv z (e a)) else none) = _
  rw [h.ok (by omega), (qT h).ok (by omega), any_eqv h]; rfl
theorem inL (h : EncQ e n) (a : α) (xs : List α) (hn : n ≤ 59 := by decide) : inB (e a) (eL e xs) = some (decide (a ∈ xs)) := by
  unfold inB
  show (if (okD (e a) && okD (eL e xs)) = true then some ((xs.map e).any fun z => PyData.eqv z (e a)) else none) = _
  rw [h.ok (by omega), (qL h).ok (by omega), any_eqv h]; rfl
theorem ninT (h : EncQ e n) (a : α) (xs : List α) (hn : n ≤ 59 := by decide) : notInB (e a) (eT e xs) = some (!decide (a ∈ xs)) := by
  unfold notInB; rw [inT h a xs hn]; rfl
theorem ninL (h : EncQ e n) (a : α) (xs : List α) (hn : n ≤ 59 := by decide) : notInB (e a) (eL e xs) = some (!decide (a ∈ xs)) := by
  unfold notInB; rw [inL h a xs hn]; rfl
theorem bDs {f : PD → PD → Option Bool} {x y : PD} {b : Bool} (h : f x y = some b) : bD f x y = some (.bool b) := by
  unfold bD; rw [h]; rfl
theorem isE (hn : ∀ a, notNone (e a) = true) (o : Option α) : isB (eO e o) .none = some (!o.isSome) := by
  cases o with
  | none => rfl
  | some a =>
    have := hn a
    show isB (e a) .none = _
    cases h : e a <;> first | rfl | (rw [h] at this; simp [notNone] at this; done)
theorem isNotE (hn : ∀ a, notNone (e a) = true) (o : Option α) : isNotB (eO e o) .none = some o.isSome := by
  unfold isNotB; rw [isE hn]
  cases o <;> rfl
theorem nnI (a : Int) : notNone (eI a) = true := rfl
theorem nnB (a : Bool) : notNone (eB a) = true := rfl
theorem nnS (a : Sk) : notNone (eS a) = true := rfl
theorem nnT (a : List α) : notNone (eT e a) = true := rfl
theorem nnL (a : List α) : notNone (eL e a) = true := rfl
theorem nnP (a : α × β) : notNone (eP e e1 a) = true := rfl
theorem nnP3 (a : α × β × γ) : notNone (eP3 e e1 e2 a) = true := rfl
theorem nnP4 (a : α × β × γ × δ) : notNone (eP4 e e1 e2 e3 a) = true := rfl
end
/-! order -/
structure EncL {α : Type} (e : α → PD) (lt : α → α → Bool) : Prop where
  al : ∀ a b, alike (e a) (e b) = true
  nn : ∀ a, notNone (e a) = true
  lt : ∀ a b, dataLt (e a) (e b) = lt a b
abbrev rl (xs ys : List PD) : Bool := PyProof.Rows.lexLt PyProof.Rows.itemOrd (PySem.W.keyToksAll xs) (PySem.W.keyToksAll ys)
theorem rl_nil : rl [] [] = false := PyProof.Rows.lex_irrefl _
section
variable {α β γ δ : Type} [DecidableEq α] [DecidableEq β] [DecidableEq γ] [DecidableEq δ] {e : α → PD} {e1 : β → PD} {e2 : γ → PD} {n m k : Nat} {l : α → α → Bool} {l1 : β → β → Bool} {l2 : γ → γ → Bool}
abbrev ltI (a b : Int) : Bool := decide (a < b)
theorem ordI : EncL eI ltI := ⟨fun _ _ => rfl, fun _ => rfl, PySem.W.dataLt_int⟩
def ltS (a b : Sk) : Bool := decide (a.s.cps.toList < b.s.cps.toList)
theorem ordS : EncL eS ltS := ⟨fun _ _ => rfl, fun _ => rfl, fun a b => PySem.W.dataLt_str a.s b.s⟩
theorem EncL.irr (h : EncL e l) (a : α) : l a a = false := by rw [← h.lt]; exact PyProof.Rows.lex_irrefl _
theorem rl_cons (h : EncL e l) (q : EncQ e n) (a b : α) (xs ys : List PD) : rl (e a :: xs) (e b :: ys) = if a = b then rl xs ys else l a b := by
  refine (PySem.W.dataLt_cons (h.al a b) xs ys).trans ?_
  rw [q.eqv, h.lt]
  by_cases c : a = b
  · rw [if_pos c, if_pos (decide_eq_true c)]
  · rw [if_neg c, if_neg (by simp [c])]
def ltP (l : α → α → Bool) (l1 : β → β → Bool) (a b : α × β) : Bool := if a.1 = b.1 then l1 a.2 b.2 else l a.1 b.1
def ltP3 (l : α → α → Bool) (l1 : β → β → Bool) (l2 : γ → γ → Bool) (a b : α × β × γ) : Bool := if a.1 = b.1 then (if a.2.1 = b.2.1 then l2 a.2.2 b.2.2 else l1 a.2.1 b.2.1) else l a.1 b.1
def ltL (l : α → α → Bool) : List α → List α → Bool
  | [], [] => false
  | [], _ :: _ => true
  | _ :: _, [] => false
  | a :: as, b :: bs => if a = b then ltL l as bs else l a b
theorem rl_last (h : EncL e l) (q : EncQ e n) (a b : α) : rl [e a] [e b] = l a b := by
  rw [rl_cons h q, rl_nil]
  by_cases c : a = b
  · rw [if_pos c, c, h.irr]
  · rw [if_neg c]
theorem ordP (h : EncL e l) (q : EncQ e n) (h1 : EncL e1 l1) (q1 : EncQ e1 m) : EncL (eP e e1) (ltP l l1) := ⟨fun a b => by
    show alike (.tuple _) (.tuple _) = true
    rw [alike, alikeAll, alikeAll, alikeAll, h.al, h1.al]; rfl, fun _ => rfl, fun a b => by
    refine (PySem.W.dataLt_tuple _ _).trans ?_
    show rl [_, _] [_, _] = _
    rw [rl_cons h q, rl_last h1 q1]; rfl⟩
theorem ordP3 (h : EncL e l) (q : EncQ e n) (h1 : EncL e1 l1) (q1 : EncQ e1 m) (h2 : EncL e2 l2) (q2 : EncQ e2 k) : EncL (eP3 e e1 e2) (ltP3 l l1 l2) := ⟨fun a b => by
    show alike (.tuple _) (.tuple _) = true
    rw [alike, alikeAll, alikeAll, alikeAll, alikeAll, h.al, h1.al, h2.al]; rfl, fun _ => rfl, fun a b => by
    refine (PySem.W.dataLt_tuple _ _).trans ?_
    show rl [_, _, _] [_, _, _] = _
    rw [rl_cons h q, rl_cons h1 q1, rl_last h2 q2]; rfl⟩
theorem EncL.alAll (h : EncL e l) : ∀ a b : List α, alikeAll (a.map e) (b.map e) = true
  | [], _ => by rw [List.map_nil, alikeAll]
  | _ :: _, [] => by rw [List.map_nil, List.map_cons, alikeAll]
  | a :: as, b :: bs => by rw [List.map_cons, List.map_cons, alikeAll, h.al, h.alAll as bs]; rfl
theorem rl_nil_cons (x : PD) (xs : List PD) : rl [] (x :: xs) = true := by
  show PyProof.Rows.lexLt _ _ _ = _
  rw [PySem.W.toks_all_cons]; rfl
theorem rl_cons_nil (x : PD) (xs : List PD) : rl (x :: xs) [] = false := by
  show PyProof.Rows.lexLt _ _ _ = _
  rw [PySem.W.toks_all_cons]; rfl
theorem rl_map (h : EncL e l) (q : EncQ e n) : ∀ a b : List α, rl (a.map e) (b.map e) = ltL l a b
  | [], [] => rl_nil
  | [], b :: bs => rl_nil_cons _ _
  | a :: as, [] => rl_cons_nil _ _
  | a :: as, b :: bs => by
    rw [List.map_cons, List.map_cons, rl_cons h q, rl_map h q as bs]; rfl
theorem ordT (h : EncL e l) (q : EncQ e n) : EncL (eT e) (ltL l) := ⟨fun a b => by show alike (.tuple _) (.tuple _) = true; rw [alike, h.alAll], fun _ => rfl, fun a b => (PySem.W.dataLt_tuple _ _).trans (rl_map h q a b)⟩
theorem ordL (h : EncL e l) (q : EncQ e n) : EncL (eL e) (ltL l) := ⟨fun a b => by show alike (.list _) (.list _) = true; rw [alike, h.alAll], fun _ => rfl, fun a b => (PySem.W.dataLt_list _ _).trans (rl_map h q a b)⟩
theorem cmpOkE (h : EncL e l) (q : EncQ e n) (hn : n ≤ 60) (a b : α) : cmpOk (e a) (e b) = true := by
  unfold cmpOk
  rw [q.ok hn, q.ok hn, h.al, h.nn]; rfl
theorem ltE (h : EncL e l) (q : EncQ e n) (a b : α) (hn : n ≤ 60 := by decide) : ltB (e a) (e b) = some (l a b) := by
  unfold ltB; rw [if_pos (cmpOkE h q hn a b), h.lt]
theorem gtE (h : EncL e l) (q : EncQ e n) (a b : α) (hn : n ≤ 60 := by decide) : gtB (e a) (e b) = some (l b a) := by
  unfold gtB; rw [if_pos (cmpOkE h q hn a b), h.lt]
theorem leE (h : EncL e l) (q : EncQ e n) (a b : α) (hn : n ≤ 60 := by decide) : leB (e a) (e b) = some (!l b a) := by
  unfold leB; rw [if_pos (cmpOkE h q hn a b), h.lt]
theorem geE (h : EncL e l) (q : EncQ e n) (a b : α) (hn : n ≤ 60 := by decide) : geB (e a) (e b) = some (!l a b) := by
  unfold geB; rw [if_pos (cmpOkE h q hn a b), h.lt]
/-! min, max -/
def minT (l : α → α → Bool) : List α → Option α
  | [] => none
  | x :: xs => some (xs.foldl (fun a y => if l y a = true then y else a) x)
def maxT (l : α → α → Bool) : List α → Option α
  | [] => none
  | x :: xs => some (xs.foldl (fun a y => if l a y = true then y else a) x)
theorem EncL.alB (h : EncL e l) (xs : List α) : alikeB (xs.map e) = true := by
  unfold alikeB
  rw [List.all_eq_true]
  intro a ha
  rw [List.all_eq_true]
  intro b hb
  obtain ⟨x, _, rfl⟩ := List.mem_map.mp ha
  obtain ⟨y, _, rfl⟩ := List.mem_map.mp hb
  exact h.al x y
theorem minOkE (h : EncL e l) (q : EncQ e n) (hn : n ≤ 60) {xs : List α} (hx : xs ≠ []) : minOk (xs.map e) = true := by
  unfold minOk
  have h1 : (xs.map e).all notNone = true := by rw [List.all_map]; exact List.all_eq_true.mpr fun a _ => h.nn a
  have h2 : (xs.map e).all okD = true := by rw [List.all_map]; exact List.all_eq_true.mpr fun a _ => q.ok hn a
  have h3 : decide (PyData.depthAll (xs.map e) ≤ 64) = true := decide_eq_true (Nat.le_trans (q.depAll xs) (by omega))
  rw [h.alB, h1, h2, h3]
  cases xs with
  | nil => exact absurd rfl hx
  | cons _ _ => rfl
theorem foldl_enc {f : PD → PD → PD} {g : α → α → α} (h : ∀ a b, f (e a) (e b) = e (g a b)) : ∀ (xs : List α) (x : α), (xs.map e).foldl f (e x) = e (xs.foldl g x)
  | [], x => rfl
  | y :: xs, x => by rw [List.map_cons, List.foldl_cons, h, foldl_enc h xs, List.foldl_cons]
theorem minE (h : EncL e l) (q : EncQ e n) (xs : List α) (hn : n ≤ 60 := by decide) : ∀ v, minT l xs = some v → mmO minL (eL e xs) = some (e v) := fun v hv => by
  cases xs with
  | nil => cases hv
  | cons x xs =>
    unfold mmO
    rw [seqOf_list]
    show (if minOk ((x :: xs).map e) = true then some (minL ((x :: xs).map e)) else none) = _
    rw [if_pos (minOkE h q hn (List.cons_ne_nil _ _))]
    cases hv
    congr 1
    refine foldl_enc (fun a b => ?_) xs x
    show (if dataLt (e b) (e a) = true then e b else e a) = _
    rw [h.lt]
    split <;> rfl
theorem maxE (h : EncL e l) (q : EncQ e n) (xs : List α) (hn : n ≤ 60 := by decide) : ∀ v, maxT l xs = some v → mmO maxL (eL e xs) = some (e v) := fun v hv => by
  cases xs with
  | nil => cases hv
  | cons x xs =>
    unfold mmO
    rw [seqOf_list]
    show (if minOk ((x :: xs).map e) = true then some (maxL ((x :: xs).map e)) else none) = _
    rw [if_pos (minOkE h q hn (List.cons_ne_nil _ _))]
    cases hv
    congr 1
    refine foldl_enc (fun a b => ?_) xs x
    show (if dataLt (e a) (e b) = true then e b else e a) = _
    rw [h.lt]
    split <;> rfl
theorem minET (h : EncL e l) (q : EncQ e n) (xs : List α) (hn : n ≤ 60 := by decide) : ∀ v, minT l xs = some v → mmO minL (eT e xs) = some (e v) := fun v hv => minE h q xs hn v hv
theorem maxET (h : EncL e l) (q : EncQ e n) (xs : List α) (hn : n ≤ 60 := by decide) : ∀ v, maxT l xs = some v → mmO maxL (eT e xs) = some (e v) := fun v hv => maxE h q xs hn v hv
/-! sorted -/
def sortT (l : α → α → Bool) (xs : List α) : Option (List α) := if xs.length ≤ lim then some (xs.mergeSort fun a b => !l b a) else none
theorem sortD_map (h : EncL e l) (xs : List α) : sortD (xs.map e) = (xs.mergeSort fun a b => !l b a).map e := by
  unfold sortD
  rw [List.map_mergeSort (s := PySem.W.dataLe false id)]
  intro a _ b _
  rw [PySem.W.dataLe_eq]
  show (!l b a) = (!dataLt (e b) (e a))
  rw [h.lt]
def sortK (x : PD) : M Cn := match x with
  | .list xs => if sortOk xs = true then DL.ret (.lst (sortD xs)) else stuck
  | _ => stuck
theorem sortE (h : EncL e l) (q : EncQ e n) (hs : (∀ a, tup1 (e a) = true) ∨ ∀ a, noTup (e a) = true) (xs : List α) (hn : n ≤ 60 := by decide) : ∀ v, sortT l xs = some v → sortK (eL e xs) = DL.ret (oL e v) := fun v hv => by
  unfold sortT at hv
  split at hv
  · rename_i hl
    cases hv
    have h2 : (xs.map e).all okD = true := by rw [List.all_map]; exact List.all_eq_true.mpr fun a _ => q.ok hn a
    have h3 : sortableB (xs.map e) = true := by
      unfold sortableB
      rw [Bool.or_eq_true]
      rcases hs with hs | hs
      · exact .inl (by rw [List.all_map]; exact List.all_eq_true.mpr fun a _ => hs a)
      · exact .inr (by rw [List.all_map]; exact List.all_eq_true.mpr fun a _ => hs a)
    show (if sortOk (xs.map e) = true then _ else _) = _
    rw [if_pos (by unfold sortOk; rw [h.alB, h2, h3]; simpa using hl), sortD_map h]
  · cases hv
end
section
variable {γ δ ρ τ α β : Type} {p : Pt} {T : Option ρ} {e : ρ → γ} {q : ρ → Pt}
theorem c_sortM {fa : M PD} {h : Cn → M γ} (k : Bx p (bnd fa fun x => bnd (sortK x) h) T e q) : Bx p (bnd (sortM fa) h) T e q := k.eq (by
  rw [show sortM fa = bnd fa sortK from by unfold sortM; congr 1]; simp only [bnd_assoc])
theorem c_sortK {x : PD} {h : Cn → M γ} {t : Option τ} {u : τ → Option ρ} (e' : τ → Cn) (hx : ∀ v, t = some v → sortK x = DL.ret (e' v)) (k : ∀ v, Bx p (h (e' v)) (u v) e q) : Bx p (bnd (sortK x) h) (t.bind u) e q := fun r hr ds a => by
  cases ht : t with
  | none => rw [ht] at hr; cases hr
  | some v =>
    rw [ht] at hr
    rw [hx v ht]
    exact k v r hr ds a
def ssT (ns : List Int) : Option (List Int) := if ns.length < 64 then some (sortSet ns) else none
theorem c_sortSet {fa : M PD} {h : Cn → M γ} (k : Bx p (bnd fa fun x => bnd (ofO (sortSetO x)) h) T e q) : Bx p (bnd (sortSetM fa) h) T e q := k.eq (by unfold sortSetM; simp only [bnd_assoc])
theorem ssE (ns : List Int) : ∀ v, ssT ns = some v → sortSetO (eL eI ns) = some (oL eI v) := fun v hv => by
  unfold ssT at hv
  unfold sortSetO
  rw [seqOf_list]
  dsimp only
  rw [intsOf_map]
  dsimp only
  split at hv
  · rename_i hl; cases hv; rw [if_pos hl]
  · cases hv
theorem ssET (ns : List Int) : ∀ v, ssT ns = some v → sortSetO (eT eI ns) = some (oL eI v) := fun v hv => ssE ns v hv
def lrngK (x : PD) : M Cn := match x with
  | .int j => if 0 ≤ j ∧ j ≤ 16777216 then DL.ret (.lst (rngL 0 j.toNat)) else stuck
  | _ => stuck
def rngI (lo : Int) (n : Nat) : List Int := (List.range n).map fun i : Nat => lo + (i : Int)
theorem rngL_I (lo : Int) (n : Nat) : rngL lo n = (rngI lo n).map eI := by
  unfold rngL rngI; rw [List.map_map]; rfl
theorem rngI_len (lo : Int) (n : Nat) : (rngI lo n).length = n := by unfold rngI; simp
theorem c_lrngM {fa : M PD} {h : Cn → M γ} (k : Bx p (bnd fa fun x => bnd (lrngK x) h) T e q) : Bx p (bnd (lrngM fa) h) T e q := k.eq (by
  rw [show lrngM fa = bnd fa lrngK from funext fun ds => lrngM_app fa]; simp only [bnd_assoc])
def lrngT (j : Int) : Option (List Int) := if 0 ≤ j ∧ j ≤ 16777216 then some (rngI 0 j.toNat) else none
theorem c_lrngK {j : Int} {h : Cn → M γ} {u : List Int → Option ρ} (k : ∀ v, Bx p (h (oL eI v)) (u v) e q) : Bx p (bnd (lrngK (.int j)) h) ((lrngT j).bind u) e q := fun r hr ds a => by
  unfold lrngT at hr
  split at hr
  · rename_i hj
    unfold lrngK
    dsimp only
    rw [if_pos hj, rngL_I]
    exact k _ r hr ds a
  · cases hr
/-! ranges -/
def rng1T (j : Int) : Option (List Int) := if big62 j = true then some (rngI 0 j.toNat) else none
def rng2T (i j : Int) : Option (List Int) := if (big62 i && big62 j) = true then some (rngI i (j - i).toNat) else none
def rngDI (i : Int) (n : Nat) : List Int := (List.range n).map fun m : Nat => i - (m : Int)
def rng3T (i j k : Int) : Option (List Int) := if (big62 i && big62 j) = true ∧ k = -1 then some (rngDI i (i - j).toNat) else none
end
end DL

namespace DL
open PySem PySem.Spec PyProof.Rows L2

/-! ### what is walked -/
theorem rng1E (j : Int) : ∀ v, rng1T j = some v → rng1 (.int j) = some (v.map eI) := fun v hv => by
  unfold rng1T at hv
  unfold rng1
  split at hv
  · rename_i h; cases hv; dsimp only; rw [if_pos h, rngL_I]
  · cases hv
theorem rng2E (i j : Int) : ∀ v, rng2T i j = some v → rng2 (.int i) (.int j) = some (v.map eI) := fun v hv => by
  unfold rng2T at hv
  unfold rng2
  split at hv
  · rename_i h; cases hv; dsimp only; rw [if_pos h, rngL_I]
  · cases hv
theorem rng3E (i j k : Int) : ∀ v, rng3T i j k = some v → rng3 (.int i) (.int j) (.int k) = some (v.map eI) := fun v hv => by
  unfold rng3T at hv
  unfold rng3
  split at hv
  · rename_i h
    cases hv
    dsimp only
    rw [if_pos h]
    unfold rngDn rngDI
    rw [List.map_map]; rfl
  · cases hv
section
variable {α β : Type}
def enumI (xs : List α) : List (Int × α) := xs.zipIdx.map fun p => ((p.2 : Int), p.1)
theorem enumE (e : α → PD) (xs : List α) : (seqOf (eL e xs)).map enumL = some ((enumI xs).map (eP eI e)) := by
  show some (enumL (xs.map e)) = _
  unfold enumL enumI
  rw [List.mapIdx_eq_zipIdx_map, List.zipIdx_map, List.map_map, List.map_map]
  rfl
theorem enumET (e : α → PD) (xs : List α) : (seqOf (eT e xs)).map enumL = some ((enumI xs).map (eP eI e)) := enumE e xs
theorem zipWith_enc (e : α → PD) (e1 : β → PD) : ∀ (xs : List α) (ys : List β), zipL (xs.map e) (ys.map e1) = (xs.zip ys).map (eP e e1)
  | [], _ => by simp [zipL]
  | _ :: _, [] => by simp [zipL]
  | x :: xs, y :: ys => by
    have := zipWith_enc e e1 xs ys
    unfold zipL at this ⊢
    rw [List.map_cons, List.map_cons, List.zipWith_cons_cons, this, List.zip_cons_cons, List.map_cons]; rfl
theorem zipE {x y : PD} (e : α → PD) (e1 : β → PD) (xs : List α) (ys : List β) (hx : seqOf x = some (xs.map e)) (hy : seqOf y = some (ys.map e1)) : zipO x y = some ((xs.zip ys).map (eP e e1)) := by
  unfold zipO
  rw [hx, hy]
  dsimp only
  rw [zipWith_enc]
end
/-! ### for -/
section
variable {γ δ ρ τ σ α β : Type} {p : Pt} {T : Option ρ} {e : ρ → γ} {q : ρ → Pt}
def forT (f : α → σ → Option σ) : List α → σ → Option σ
  | [], s => some s
  | x :: xs, s => (f x s).bind (forT f xs)
def forR (f : α → σ → Option (σ ⊕ β)) : List α → σ → Option (σ ⊕ β)
  | [], s => some (.inl s)
  | x :: xs, s => (f x s).bind fun r => match r with
    | .inl s' => forR f xs s'
    | .inr v => some (.inr v)
theorem x_for {en : α → PD} {g : PD → M Unit} {b : M Out} {f : α → σ → Option σ} (P : σ → Pt) (hb : ∀ x s, Bx (P s) (bnd (g (en x)) fun _ => bnd b DL.ret) (f x s) (fun _ => .nx) P) : ∀ (xs : List α) (s : σ), Bx (P s) (forM g b (xs.map en)) (forT f xs s) (fun _ => .nx) P
  | [], s => x_ret rfl (Wk.refl _)
  | x :: xs, s => by
    show Bx (P s) (bnd (g (en x)) fun _ => seqM b (forM g b (xs.map en))) _ _ _
    have h1 := hb x s
    have : (bnd (g (en x)) fun _ => seqM b (forM g b (xs.map en))) = bnd (bnd (g (en x)) fun _ => bnd b DL.ret) (seqK (forM g b (xs.map en)) DL.ret) := by
      rw [bnd_assoc]
      congr 1
      funext _
      rw [bnd_ret', ← bnd_ret' (seqM b _)]
      unfold seqM
      rw [bnd_assoc]
      congr 1
      funext o
      cases o <;> rfl
    rw [this]
    refine c_blk h1 fun s' => ?_
    show Bx (P s') (bnd (forM g b (xs.map en)) DL.ret) _ _ _
    rw [bnd_ret']
    exact x_for P hb xs s'
def eR {β : Type} (er : β → RV) : σ ⊕ β → Out
  | .inl _ => .nx
  | .inr v => .rt (er v)
def qR {β : Type} (P : σ → Pt) (Q : β → Pt) : σ ⊕ β → Pt
  | .inl s => P s
  | .inr v => Q v
theorem x_forR {en : α → PD} {g : PD → M Unit} {b : M Out} {f : α → σ → Option (σ ⊕ β)} {er : β → RV} (P : σ → Pt) (Q : β → Pt) (hb : ∀ x s, Bx (P s) (bnd (g (en x)) fun _ => bnd b DL.ret) (f x s) (eR er) (qR P Q)) : ∀ (xs : List α) (s : σ), Bx (P s) (forM g b (xs.map en)) (forR f xs s) (eR er) (qR P Q)
  | [], s => x_ret rfl (Wk.refl _)
  | x :: xs, s => by
    show Bx (P s) (bnd (g (en x)) fun _ => seqM b (forM g b (xs.map en))) _ _ _
    have h1 := hb x s
    have : (bnd (g (en x)) fun _ => seqM b (forM g b (xs.map en))) = bnd (bnd (g (en x)) fun _ => bnd b DL.ret) (seqK (forM g b (xs.map en)) DL.ret) := by
      rw [bnd_assoc]
      congr 1
      funext _
      rw [bnd_ret', ← bnd_ret' (seqM b _)]
      unfold seqM
      rw [bnd_assoc]
      congr 1
      funext o
      cases o <;> rfl
    rw [this]
    refine c_blk h1 fun r => ?_
    cases r with
    | inl s' =>
      show Bx (P s') (bnd (forM g b (xs.map en)) DL.ret) _ _ _
      rw [bnd_ret']
      exact x_forR P Q hb xs s'
    | inr v => exact x_ret rfl (Wk.refl _)
/-- a loop, then the rest -/
theorem c_for {en : α → PD} {g : PD → M Unit} {b : M Out} {f : α → σ → Option σ} {h : Out → M γ} {xs : List α} {s0 : σ} {u : σ → Option ρ} (P : σ → Pt) (w : Wk p (P s0)) (hb : ∀ x s, Bx (P s) (bnd (g (en x)) fun _ => bnd b DL.ret) (f x s) (fun _ => .nx) P) (k : ∀ s, Bx (P s) (h .nx) (u s) e q) : Bx p (bnd (forM g b (xs.map en)) h) ((forT f xs s0).bind u) e q :=
  c_wk w (c_blk (x_for P hb xs s0) k)
theorem c_forR {en : α → PD} {g : PD → M Unit} {b : M Out} {f : α → σ → Option (σ ⊕ β)} {h : Out → M γ} {er : β → RV} {xs : List α} {s0 : σ} {u : σ → Option ρ} {w : β → Option ρ} (P : σ → Pt) (Q : β → Pt) (wk : Wk p (P s0)) (hb : ∀ x s, Bx (P s) (bnd (g (en x)) fun _ => bnd b DL.ret) (f x s) (eR er) (qR P Q)) (k : ∀ s, Bx (P s) (h .nx) (u s) e q) (kr : ∀ v, Bx (Q v) (bnd (DL.ret (.rt (er v))) h) (w v) e q) : Bx p (bnd (forM g b (xs.map en)) h) ((forR f xs s0).bind fun r => match r with | .inl s => u s | .inr v => w v) e q :=
  c_wk wk (c_blk (x_forR P Q hb xs s0) fun r => by
    cases r with
    | inl s => exact k s
    | inr v => exact kr v)
/-! while -/
def whileT (c : σ → Option Bool) (f : σ → Option σ) : Nat → σ → Option σ
  | 0, _ => none
  | n + 1, s => (c s).bind fun b => if b = true then (f s).bind (whileT c f n) else some s
theorem x_while {t : M Bool} {b : M Out} {c : σ → Option Bool} {f : σ → Option σ} (P : σ → Pt) (ht : ∀ s, Bx (P s) (bnd t DL.ret) (c s) (fun b => b) fun _ => P s) (hb : ∀ s, Bx (P s) (bnd b DL.ret) (f s) (fun _ => .nx) P) : ∀ (n : Nat) (s : σ), Bx (P s) (whileM t b n) (whileT c f n s) (fun _ => .nx) P
  | 0, s => x_none
  | n + 1, s => by
    show Bx (P s) (bnd t fun k => if k = true then seqM b (whileM t b n) else nxt) _ _ _
    have h1 := ht s
    rw [bnd_ret'] at h1
    refine c_blk h1 fun k => ?_
    refine c_if ?_ (x_ret rfl (Wk.refl _))
    have h2 := hb s
    rw [bnd_ret'] at h2
    have : seqM b (whileM t b n) = bnd b (seqK (whileM t b n) DL.ret) := by
      rw [← bnd_ret' (seqM b _)]
      unfold seqM
      rw [bnd_assoc]
      congr 1
      funext o
      cases o <;> rfl
    rw [this]
    refine c_blk h2 fun s' => ?_
    show Bx (P s') (bnd (whileM t b n) DL.ret) _ _ _
    rw [bnd_ret']
    exact x_while P ht hb n s'
theorem c_while {t : M Bool} {b : M Out} {c : σ → Option Bool} {f : σ → Option σ} {h : Out → M γ} {n : Nat} {s0 : σ} {u : σ → Option ρ} (P : σ → Pt) (w : Wk p (P s0)) (ht : ∀ s, Bx (P s) (bnd t DL.ret) (c s) (fun b => b) fun _ => P s) (hb : ∀ s, Bx (P s) (bnd b DL.ret) (f s) (fun _ => .nx) P) (k : ∀ s, Bx (P s) (h .nx) (u s) e q) : Bx p (bnd (whileM t b n) h) ((whileT c f n s0).bind u) e q :=
  c_wk w (c_blk (x_while P ht hb n s0) k)
end
/-! ### comprehensions -/
def anyAt (p : Pt) : List Nat → Pt
  | [] => p
  | v :: vs => (anyAt p vs).set v .any
theorem wipeP_at (p : Pt) (j : Nat) : ∀ vs : List Nat, (wipeP p vs)[j]? = if j ∈ vs then (p[j]?.map fun _ => Pv.pl) else p[j]?
  | [] => by simp [wipeP]
  | v :: vs => by
    show ((wipeP p vs).set v .pl)[j]? = _
    rw [List.getElem?_set, wipeP_at p j vs]
    by_cases h : v = j
    · subst h
      have hl : (wipeP p vs).length = p.length := by
        have : ∀ vs : List Nat, (wipeP p vs).length = p.length := fun vs => by
          induction vs with
          | nil => rfl
          | cons w vs ih => simp [wipeP, ih]
        exact this vs
      by_cases hv : v < p.length
      · simp [hl, hv]
      · simp [hl, hv]
    · have h' : ¬ j = v := fun z => h z.symm
      simp [h, h']
theorem anyAt_at (p : Pt) (j : Nat) : ∀ vs : List Nat, (anyAt p vs)[j]? = if j ∈ vs then (p[j]?.map fun _ => Pv.any) else p[j]?
  | [] => by simp [anyAt]
  | v :: vs => by
    show ((anyAt p vs).set v .any)[j]? = _
    rw [List.getElem?_set, anyAt_at p j vs]
    by_cases h : v = j
    · subst h
      have hl : (anyAt p vs).length = p.length := by
        have : ∀ vs : List Nat, (anyAt p vs).length = p.length := fun vs => by
          induction vs with
          | nil => rfl
          | cons w vs ih => simp [anyAt, ih]
        exact this vs
      by_cases hv : v < p.length
      · simp [hl, hv]
      · simp [hl, hv]
    · have h' : ¬ j = v := fun z => h z.symm
      simp [h, h']
theorem restP_at (p0 p : Pt) (hl : p0.length = p.length) (j : Nat) : ∀ vs : List Nat, (restP p0 p vs)[j]? = if j ∈ vs then p0[j]? else p[j]?
  | [] => by simp [restP]
  | v :: vs => by
    show ((restP p0 p vs).set v (p0[v]?.getD .any))[j]? = _
    rw [List.getElem?_set, restP_at p0 p hl j vs]
    by_cases h : v = j
    · subst h
      have hl2 : (restP p0 p vs).length = p.length := by
        have : ∀ vs : List Nat, (restP p0 p vs).length = p.length := fun vs => by
          induction vs with
          | nil => rfl
          | cons w vs ih => simp [restP, ih]
        exact this vs
      by_cases hv : v < p.length
      · have hv0 : v < p0.length := by omega
        simp [hl2, hv, hv0]
      · have hv0 : ¬ v < p0.length := by omega
        simp [hl2, hv, hv0]
    · have h' : ¬ j = v := fun z => h z.symm
      simp [h, h']
theorem anyAt_len (p : Pt) : ∀ vs : List Nat, (anyAt p vs).length = p.length
  | [] => rfl
  | v :: vs => by simp [anyAt, anyAt_len p vs]
theorem wipe_any (p : Pt) (vs : List Nat) : wipeP (anyAt p vs) vs = wipeP p vs := by
  refine List.ext_getElem? fun j => ?_
  rw [wipeP_at, wipeP_at, anyAt_at]
  by_cases h : j ∈ vs
  · simp [h]; rfl
  · simp [h]
theorem rest_any (p : Pt) (vs : List Nat) : restP p (anyAt p vs) vs = p := by
  refine List.ext_getElem? fun j => ?_
  rw [restP_at _ _ (anyAt_len p vs).symm, anyAt_at]
  by_cases h : j ∈ vs
  · simp [h]
  · simp [h]
theorem At.anyAt {p : Pt} {ds : DS} (h : At p ds) : ∀ vs : List Nat, At (anyAt p vs) ds
  | [] => h
  | v :: vs => by
    have := (h.anyAt vs).set (a := .any) (o := ds[v]?.getD none) v trivial
    have e : ds.set v (ds[v]?.getD none) = ds := by
      refine List.ext_getElem? fun j => ?_
      rw [List.getElem?_set]
      by_cases c : v = j
      · subst c
        by_cases hl : v < ds.length
        · simp [hl]
        · simp [hl]
      · simp [c]
    rw [e] at this
    exact this
section
variable {γ δ ρ τ σ α β : Type} {p : Pt} {T : Option ρ} {e : ρ → γ} {q : ρ → Pt}
/-- what a comprehension makes; a state goes along -/
def compS (f : α → σ → Option (Option β × σ)) : List α → σ → Option (List β × σ)
  | [], s => some ([], s)
  | x :: xs, s => (f x s).bind fun r => (compS f xs r.2).bind fun z => some (match r.1 with | some y => y :: z.1 | none => z.1, z.2)
theorem compS_len (f : α → σ → Option (Option β × σ)) : ∀ (xs : List α) (s : σ) (r : List β × σ), compS f xs s = some r → r.1.length ≤ xs.length
  | [], s, r, h => by cases h; exact Nat.le_refl _
  | x :: xs, s, r, h => by
    unfold compS at h
    cases e1 : f x s with
    | none => rw [e1] at h; cases h
    | some a =>
      rw [e1] at h
      have h : ((compS f xs a.2).bind fun z => some (match a.1 with | some y => y :: z.1 | none => z.1, z.2)) = some r := h
      cases e2 : compS f xs a.2 with
      | none => rw [e2] at h; cases h
      | some z =>
        rw [e2] at h
        cases h
        have := compS_len f xs a.2 z e2
        cases a.1 with
        | none => simp; omega
        | some y => simpa using this
theorem x_lcL {en : α → PD} {en' : β → PD} {g : PD → M Unit} {tt : M Bool} {fe : M PD} {vs : List Nat} {f : α → σ → Option (Option β × σ)} (P : σ → Pt)
    (hb : ∀ x s, Bx (wipeP (P s) vs) (bnd (turnM g tt fe (en x)) DL.ret) (f x s) (fun r => r.1.map en') (fun r => anyAt (P r.2) vs)) :
    ∀ (xs : List α) (s : σ) (acc : List PD) (ds : DS) (r : List β × σ), At (anyAt (P s) vs) ds → compS f xs s = some r → acc.length + xs.length ≤ lim → ∃ ds', lcL g tt fe vs acc (xs.map en) ds = .ok (acc ++ r.1.map en') ds' ∧ At (anyAt (P r.2) vs) ds'
  | [], s, acc, ds, r, a, h, _ => by cases h; exact ⟨ds, by rw [List.map_nil, List.map_nil, List.append_nil]; rfl, a⟩
  | x :: xs, s, acc, ds, r, a, h, hl => by
    rw [List.length_cons] at hl
    unfold compS at h
    cases e1 : f x s with
    | none => rw [e1] at h; cases h
    | some z =>
      rw [e1] at h
      have h : ((compS f xs z.2).bind fun y => some (match z.1 with | some w => w :: y.1 | none => y.1, y.2)) = some r := h
      cases e2 : compS f xs z.2 with
      | none => rw [e2] at h; cases h
      | some y =>
        rw [e2] at h
        cases h
        have aw := a.wipe vs
        rw [wipe_any] at aw
        obtain ⟨d1, h1, a1⟩ := hb x s z e1 _ aw
        rw [bnd_ret'] at h1
        rw [List.map_cons]
        unfold lcL
        rw [h1]
        rcases z with ⟨_ | w, s2⟩
        · obtain ⟨d2, h2, a2⟩ := x_lcL P hb xs s2 acc d1 y a1 e2 (by omega)
          exact ⟨d2, h2, a2⟩
        · obtain ⟨d2, h2, a2⟩ := x_lcL P hb xs s2 (acc ++ [en' w]) d1 y a1 e2 (by rw [List.length_append, List.length_singleton]; omega)
          refine ⟨d2, ?_, a2⟩
          show (if acc.length < lim then lcL g tt fe vs (acc ++ [en' w]) (xs.map en) d1 else .err) = _
          rw [if_pos (by omega), h2, List.append_assoc]; rfl
/-- a comprehension with effects upon what P tells -/
def lcST (f : α → σ → Option (Option β × σ)) (xs : List α) (s : σ) : Option (List β × σ) := if xs.length ≤ lim then compS f xs s else none
theorem c_lcS {en : α → PD} (en' : β → PD) {g : PD → M Unit} {tt : M Bool} {fe : M PD} {vs : List Nat} {f : α → σ → Option (Option β × σ)} {xs : List α} {s0 : σ} {h : Cn → M γ} {u : List β × σ → Option ρ} (P : σ → Pt) (w : p = P s0) (hp : plB (P s0) vs = true) (hr : ∀ s, restP (P s0) (anyAt (P s) vs) vs = P s)
    (hb : ∀ x s, Bx (wipeP (P s) vs) (bnd (turnM g tt fe (en x)) DL.ret) (f x s) (fun r => r.1.map en') (fun r => anyAt (P r.2) vs)) (k : ∀ r, Bx (P r.2) (h (.lst (r.1.map en'))) (u r) e q) : Bx p (bnd (lcR g tt fe vs (xs.map en)) h) ((lcST f xs s0).bind u) e q := by
  subst w
  refine c_blk (t := lcST f xs s0) (e' := fun r : List β × σ => Cn.lst (r.1.map en')) (q' := fun r => P r.2) (fun r hr2 ds a => ?_) k
  unfold lcST at hr2
  split at hr2
  · rename_i hl
    obtain ⟨d1, h1, a1⟩ := x_lcL P hb xs s0 [] ds r (a.anyAt vs) hr2 (by simpa using hl)
    refine ⟨restD ds d1 vs, ?_, ?_⟩
    · unfold lcR
      rw [if_pos (a.noOwn hp), h1]; rfl
    · have := a.rest a1 vs
      rw [hr] at this
      exact this
  · cases hr2
/-- without effects -/
def compT (f : α → Option (Option β)) : List α → Option (List β)
  | [] => some []
  | x :: xs => (f x).bind fun r => (compT f xs).bind fun z => some (match r with | some y => y :: z | none => z)
def lcT (f : α → Option (Option β)) (xs : List α) : Option (List β) := if xs.length ≤ lim then compT f xs else none
theorem compT_S (f : α → Option (Option β)) : ∀ xs : List α, compS (σ := Unit) (fun x s => (f x).map fun r => (r, s)) xs () = (compT f xs).map fun z => (z, ())
  | [] => rfl
  | x :: xs => by
    unfold compS compT
    cases f x with
    | none => rfl
    | some r =>
      show ((compS (σ := Unit) (fun x s => (f x).map fun r => (r, s)) xs ()).bind _) = _
      rw [compT_S f xs]
      cases compT f xs <;> rfl
theorem c_lc {en : α → PD} (en' : β → PD) {g : PD → M Unit} {tt : M Bool} {fe : M PD} {vs : List Nat} {f : α → Option (Option β)} {xs : List α} {h : Cn → M γ} {u : List β → Option ρ} (hp : plB p vs = true)
    (hb : ∀ x, Bx (wipeP p vs) (bnd (turnM g tt fe (en x)) DL.ret) (f x) (fun r => r.map en') (fun _ => anyAt p vs)) (k : ∀ r, Bx p (h (.lst (r.map en'))) (u r) e q) : Bx p (bnd (lcR g tt fe vs (xs.map en)) h) ((lcT f xs).bind u) e q := by
  have e1 : (lcT f xs).bind u = (lcST (σ := Unit) (fun x s => (f x).map fun r => (r, s)) xs ()).bind fun r => u r.1 := by
    unfold lcT lcST
    split
    · rw [compT_S]
      cases compT f xs <;> rfl
    · rfl
  rw [e1]
  refine c_lcS en' (fun _ => p) rfl hp (fun _ => rest_any p vs) (fun x s r hr ds a => ?_) fun r => k r.1
  cases ef : f x with
  | none => rw [ef] at hr; cases hr
  | some z =>
    rw [ef] at hr; cases hr
    exact hb x z ef ds a
/-- .. nor failures -/
def mapF (c : α → Bool) (v : α → β) (xs : List α) : Option (List β) := if xs.length ≤ lim then some ((xs.filter c).map v) else none
theorem compT_pure (c : α → Bool) (v : α → β) : ∀ xs : List α, compT (fun x => some (if c x = true then some (v x) else none)) xs = some ((xs.filter c).map v)
  | [] => rfl
  | x :: xs => by
    unfold compT
    rw [compT_pure c v xs]
    by_cases h : c x = true
    · simp [h]
    · simp [h]
theorem c_lcp {en : α → PD} (en' : β → PD) {g : PD → M Unit} {tt : M Bool} {fe : M PD} {vs : List Nat} {c : α → Bool} {v : α → β} {xs : List α} {h : Cn → M γ} {u : List β → Option ρ} (hp : plB p vs = true)
    (hb : ∀ x, Bx (wipeP p vs) (bnd (turnM g tt fe (en x)) DL.ret) (some (if c x = true then some (v x) else none)) (fun r => r.map en') (fun _ => anyAt p vs)) (k : ∀ r, Bx p (h (.lst (r.map en'))) (u r) e q) : Bx p (bnd (lcR g tt fe vs (xs.map en)) h) ((mapF c v xs).bind u) e q := by
  have : (mapF c v xs) = lcT (fun x => some (if c x = true then some (v x) else none)) xs := by
    unfold mapF lcT
    rw [compT_pure]
  rw [this]
  exact c_lc en' hp hb k
/-- a turn -/
theorem c_turn {g : PD → M Unit} {tt : M Bool} {fe : M PD} {x : PD} {h : Option PD → M γ} (k : Bx p (bnd (g x) fun _ => bnd tt fun k => bnd (if k = true then bnd fe fun y => DL.ret (some y) else DL.ret none) h) T e q) : Bx p (bnd (turnM g tt fe x) h) T e q := k.eq (by unfold turnM; simp only [bnd_assoc])
theorem c_lcM {fi : M (List PD)} {g : PD → M Unit} {tt : M Bool} {fe : M PD} {vs : List Nat} {h : Cn → M γ} (k : Bx p (bnd fi fun xs => bnd (lcR g tt fe vs xs) h) T e q) : Bx p (bnd (lcM fi g tt fe vs) h) T e q := k.eq (by unfold lcM; simp only [bnd_assoc])
/-- without a test -/
theorem c_yes {fe : M PD} {h : Option PD → M γ} (k : Bx p (bnd fe fun y => h (some y)) T e q) : Bx p (bnd yesT fun k => bnd (if k = true then bnd fe fun y => DL.ret (some y) else DL.ret none) h) T e q := k.eq (by
  show bnd (if true = true then bnd fe fun y => DL.ret (some y) else DL.ret none) h = _
  rw [if_pos rfl, bnd_assoc]; rfl)
/-- a pure test, a pure item -/
theorem c_ifs {c : Bool} {v : β} {fe : M PD} {en' : β → PD} {q' : Option β → Pt} (h1 : Bx p (bnd fe DL.ret) (some v) en' (fun _ => p)) (w : ∀ r, Wk p (q' r)) : Bx p (bnd (if c = true then bnd fe fun y => DL.ret (some y) else DL.ret none) DL.ret) (some (if c = true then some v else none)) (fun r => r.map en') q' := by
  rw [bnd_ret'] at h1 ⊢
  cases c with
  | false => exact x_ret rfl (w _)
  | true =>
    show Bx p (bnd fe fun y => DL.ret (some y)) (some (some v)) _ _
    exact c_step (fun ds a => h1 v rfl ds a) (x_ret rfl (w _))
end
/-! ### own lists -/
section
variable {γ δ ρ τ σ α β : Type} {p : Pt} {T : Option ρ} {e : ρ → γ} {q : ρ → Pt}
theorem c_getL {i : Nat} {xs : List PD} {h : List PD → M γ} (hi : p[i]? = some (.is (.own (.lst xs)))) (k : Bx p (h xs) T e q) : Bx p (bnd (getL i) h) T e q := c_step (fun ds a => ⟨ds, by rw [getL_app, a.get hi], a⟩) k
theorem c_getDc {i : Nat} {xs : KvL} {h : KvL → M γ} (hi : p[i]? = some (.is (.own (.dic xs)))) (k : Bx p (h xs) T e q) : Bx p (bnd (getDc i) h) T e q := c_step (fun ds a => ⟨ds, by rw [getDc_app, a.get hi], a⟩) k
theorem c_oix {i : Nat} {fb : M PD} {h : PD → M γ} (k : Bx p (bnd (getL i) fun _ => bnd fb fun y => bnd (getL i) fun xs => bnd (ofO (ixD (.list xs) y)) h) T e q) : Bx p (bnd (oix i fb) h) T e q := k.eq (by unfold oix; simp only [bnd_assoc])
theorem c_olen {i : Nat} {h : PD → M γ} (k : Bx p (bnd (getL i) fun xs => h (.int xs.length)) T e q) : Bx p (bnd (olen i) h) T e q := k.eq (by unfold olen; simp only [bnd_assoc]; rfl)
theorem c_ocmp {g : PD → PD → Option Bool} {i : Nat} {fb : M PD} {h : PD → M γ} (k : Bx p (bnd (getL i) fun _ => bnd fb fun y => bnd (getL i) fun xs => bnd (ofO (bD g (.list xs) y)) h) T e q) : Bx p (bnd (ocmp g i fb) h) T e q := k.eq (by unfold ocmp; simp only [bnd_assoc])
theorem c_tocmp {g : PD → PD → Option Bool} {i : Nat} {fb : M PD} {h : Bool → M γ} (k : Bx p (bnd (getL i) fun _ => bnd fb fun y => bnd (getL i) fun xs => bnd (ofO (g (.list xs) y)) h) T e q) : Bx p (bnd (tocmp g i fb) h) T e q := k.eq (by unfold tocmp; simp only [bnd_assoc])
def appK (i : Nat) (x : PD) (xs : List PD) : M PD := if xs.length < lim then bnd (setC i (.lst (xs ++ [x]))) fun _ => DL.ret .none else stuck
theorem c_appM {i : Nat} {fe : M PD} {h : PD → M γ} (k : Bx p (bnd (getL i) fun _ => bnd fe fun x => bnd (getL i) fun xs => bnd (appK i x xs) h) T e q) : Bx p (bnd (appM i fe) h) T e q := k.eq (by unfold appM; simp only [bnd_assoc]; rfl)
def appT (xs : List α) (x : α) : Option (List α) := if xs.length < lim then some (xs ++ [x]) else none
theorem c_appK {i : Nat} {en : α → PD} {x : α} {xs : List α} {h : PD → M γ} {u : List α → Option ρ} (k : ∀ v, Bx (p.set i (.is (.own (oL en v)))) (h .none) (u v) e q) : Bx p (bnd (appK i (en x) (xs.map en)) h) ((appT xs x).bind u) e q := fun r hr ds a => by
  unfold appT at hr
  split at hr
  · rename_i hl
    unfold appK
    rw [List.length_map, if_pos hl]
    have := k (xs ++ [x]) r hr (ds.set i (some (.own (oL en (xs ++ [x]))))) (a.set i (Pv.oke rfl))
    rw [show (xs.map en ++ [en x]) = (xs ++ [x]).map en by simp]
    exact this
  · cases hr
def extK (i : Nat) (ys xs : List PD) : M PD := if xs.length + ys.length ≤ lim then bnd (setC i (.lst (xs ++ ys))) fun _ => DL.ret .none else stuck
theorem c_extM {i : Nat} {fe : M RV} {h : PD → M γ} (k : Bx p (bnd (getL i) fun _ => bnd fe fun r => bnd (ofO (extV r)) fun ys => bnd (getL i) fun xs => bnd (extK i ys xs) h) T e q) : Bx p (bnd (extM i fe) h) T e q := k.eq (by unfold extM; simp only [bnd_assoc]; rfl)
def extT (xs ys : List α) : Option (List α) := if xs.length + ys.length ≤ lim then some (xs ++ ys) else none
theorem c_extK {i : Nat} {en : α → PD} {xs ys : List α} {h : PD → M γ} {u : List α → Option ρ} (k : ∀ v, Bx (p.set i (.is (.own (oL en v)))) (h .none) (u v) e q) : Bx p (bnd (extK i (ys.map en) (xs.map en)) h) ((extT xs ys).bind u) e q := fun r hr ds a => by
  unfold extT at hr
  split at hr
  · rename_i hl
    unfold extK
    rw [List.length_map, List.length_map, if_pos hl]
    have := k (xs ++ ys) r hr (ds.set i (some (.own (oL en (xs ++ ys))))) (a.set i (Pv.oke rfl))
    rw [show (xs.map en ++ ys.map en) = (xs ++ ys).map en by simp]
    exact this
  · cases hr
def popK (i : Nat) (y : PD) (xs : List PD) : M PD := match y with
  | .int k => if big62 k = true then (match seqIndex? k xs.length with
    | some j => (match xs[j]? with
      | some d => bnd (setC i (.lst (xs.eraseIdx j))) fun _ => DL.ret d
      | none => stuck)
    | none => stuck) else stuck
  | _ => stuck
theorem c_popM {i : Nat} {fe : M PD} {h : PD → M γ} (k : Bx p (bnd (getL i) fun _ => bnd fe fun y => bnd (getL i) fun xs => bnd (popK i y xs) h) T e q) : Bx p (bnd (popM i fe) h) T e q := k.eq (by unfold popM; simp only [bnd_assoc]; rfl)
def popT (xs : List α) (k : Int) : Option (α × List α) := if big62 k = true then (match seqIndex? k xs.length with
    | some j => (match xs[j]? with
      | some d => some (d, xs.eraseIdx j)
      | none => none)
    | none => none) else none
theorem map_erase (f : α → β) : ∀ (xs : List α) (j : Nat), (xs.map f).eraseIdx j = (xs.eraseIdx j).map f
  | [], j => rfl
  | x :: xs, 0 => rfl
  | x :: xs, j + 1 => by rw [List.map_cons, List.eraseIdx_cons_succ, List.eraseIdx_cons_succ, List.map_cons, map_erase f xs j]
theorem c_popK {i : Nat} {en : α → PD} {k : Int} {xs : List α} {h : PD → M γ} {u : α × List α → Option ρ} (kk : ∀ v, Bx (p.set i (.is (.own (oL en v.2)))) (h (en v.1)) (u v) e q) : Bx p (bnd (popK i (.int k) (xs.map en)) h) ((popT xs k).bind u) e q := fun r hr ds a => by
  unfold popT at hr
  unfold popK
  dsimp only
  split at hr
  · rename_i hb
    rw [if_pos hb, List.length_map]
    cases es : seqIndex? k xs.length with
    | none => rw [es] at hr; cases hr
    | some j =>
      rw [es] at hr
      dsimp only at hr ⊢
      cases ej : xs[j]? with
      | none => rw [ej] at hr; cases hr
      | some d =>
        rw [ej] at hr
        rw [List.getElem?_map, ej]
        dsimp only [Option.map_some]
        have := kk (d, xs.eraseIdx j) r hr (ds.set i (some (.own (oL en (xs.eraseIdx j))))) (a.set i (Pv.oke rfl))
        rw [map_erase]
        exact this
  · cases hr
def gOixK (i : Nat) (d : PD) (y : PD) (xs : List PD) : M Unit := match y with
  | .int k => (match ixN xs.length k with
    | some j => setC i (.lst (xs.set j d))
    | none => stuck)
  | _ => stuck
theorem c_gOix {i : Nat} {fe : M PD} {d : PD} {h : Unit → M γ} (k : Bx p (bnd (getL i) fun _ => bnd fe fun y => bnd (getL i) fun xs => bnd (gOixK i d y xs) h) T e q) : Bx p (bnd (gOix i fe d) h) T e q := k.eq (by
  rw [show gOix i fe d = bnd (getL i) fun _ => bnd fe fun y => bnd (getL i) fun xs => gOixK i d y xs from funext fun ds => by rw [gOix_app]; rfl]
  simp only [bnd_assoc])
def setT (xs : List α) (k : Int) (x : α) : Option (List α) := (ixN xs.length k).map fun j => xs.set j x
theorem c_gOixK {i : Nat} {en : α → PD} {x : α} {k : Int} {xs : List α} {h : Unit → M γ} {u : List α → Option ρ} (kk : ∀ v, Bx (p.set i (.is (.own (oL en v)))) (h ()) (u v) e q) : Bx p (bnd (gOixK i (en x) (.int k) (xs.map en)) h) ((setT xs k x).bind u) e q := fun r hr ds a => by
  unfold setT at hr
  unfold gOixK
  dsimp only
  rw [List.length_map]
  cases es : ixN xs.length k with
  | none => rw [es] at hr; cases hr
  | some j =>
    rw [es] at hr
    dsimp only
    have := kk (xs.set j x) r hr (ds.set i (some (.own (oL en (xs.set j x))))) (a.set i (Pv.oke rfl))
    rw [show (xs.map en).set j (en x) = (xs.set j x).map en from List.map_set.symm]
    exact this
end
/-! ### indices, slices -/
section
variable {α : Type}
theorem atI_map {β : Type} (f : α → β) (xs : List α) (i : Int) : atI (xs.map f) i = (atI xs i).map f := by
  unfold atI
  rw [List.length_map]
  cases ixN xs.length i with
  | none => rfl
  | some j => simp
theorem ixL (en : α → PD) (xs : List α) (i : Int) : ∀ v, atI xs i = some v → ixD (eL en xs) (.int i) = some (en v) := fun v hv => (atI_map en xs i).trans (by rw [hv]; rfl)
theorem ixT (en : α → PD) (xs : List α) (i : Int) : ∀ v, atI xs i = some v → ixD (eT en xs) (.int i) = some (en v) := fun v hv => (atI_map en xs i).trans (by rw [hv]; rfl)
def cutT (xs : List α) (lo hi : Option Int) : List α := (xs.drop (HT.sIx xs.length 0 lo)).take (HT.sIx xs.length xs.length hi - HT.sIx xs.length 0 lo)
theorem cutE {β : Type} (f : α → β) (en : β → PD) (xs : List β) (lo hi : Option Int) : cutD (xs.map en) lo hi = (cutT xs lo hi).map en := by
  unfold cutD cutT
  rw [List.length_map, ← List.map_drop, ← List.map_take]
theorem slL (en : α → PD) (xs : List α) (lo hi : Option Int) : slV lo hi (eL en xs) = some (.own (oL en (cutT xs lo hi))) := by
  show some (RV.own (.lst (cutD (xs.map en) lo hi))) = _
  rw [cutE (fun x : α => x)]
theorem slT (en : α → PD) (xs : List α) (lo hi : Option Int) : slV lo hi (eT en xs) = some (.dat (eT en (cutT xs lo hi))) := by
  show some (RV.dat (.tuple (cutD (xs.map en) lo hi))) = _
  rw [cutE (fun x : α => x)]
theorem lenL (en : α → PD) (xs : List α) : lenD (eL en xs) = some (.int xs.length) := by rw [lenD_list, List.length_map]
theorem lenT (en : α → PD) (xs : List α) : lenD (eT en xs) = some (.int xs.length) := by rw [lenD_tuple, List.length_map]
theorem addL (en : α → PD) (xs ys : List α) : ∀ v, extT xs ys = some v → addV (eL en xs) (eL en ys) = some (.own (oL en v)) := fun v hv => by
  unfold extT at hv
  split at hv
  · rename_i hl
    cases hv
    show (if (xs.map en).length + (ys.map en).length ≤ lim then some (RV.own (.lst (xs.map en ++ ys.map en))) else none) = _
    rw [List.length_map, List.length_map, if_pos hl, ← List.map_append]
  · cases hv
end
end DL

namespace DL
open PySem PySem.Spec PyProof.Rows L2

section
variable {γ δ ρ τ σ α β κ ν : Type} {p : Pt} {T : Option ρ} {e : ρ → γ} {q : ρ → Pt}
/-- a name that is not None -/
theorem c_gvO {i : Nat} {en : τ → PD} {o : Option τ} {g : PD → M γ} {u : τ → Option ρ} (h : p[i]? = some (.is (.dat (eO en o)))) (k : ∀ v, Bx p (g (en v)) (u v) e q) : Bx p (bnd (gv i) g) (o.bind u) e q := by
  cases o with
  | none => exact x_none
  | some v => exact c_gv h (k v)
/-- a value stored under a name of its own -/
theorem c_setV {i : Nat} {r : τ → RV} {v : τ} {h : Unit → M γ} {u : τ → Option ρ} (k : ∀ x, Bx (p.set i (.is (r x))) (h ()) (u x) e q) : Bx p (bnd (setR i (r v)) h) ((some v).bind u) e q := c_setR (k v)
theorem c_ifj {b : Bool} {f g : M Out} {h : Out → M γ} {t1 t2 : Option τ} {u : τ → Option ρ} (q' : τ → Pt) (k1 : Bx p (bnd f DL.ret) t1 (fun _ => .nx) q') (k2 : Bx p (bnd g DL.ret) t2 (fun _ => .nx) q') (k : ∀ v, Bx (q' v) (bnd nxt h) (u v) e q) : Bx p (bnd (if b = true then f else g) h) ((if b = true then t1 else t2).bind u) e q := by
  rw [bnd_ret'] at k1 k2
  exact c_ifx (fun _ => .nx) q' k1 k2 k
theorem c_forN {en : α → PD} {g : PD → M Unit} {b : M Out} {f : α → σ → Option σ} {h : Out → M γ} {xs : List α} {s0 : σ} {u : σ → Option ρ} (P : σ → Pt) (w : Wk p (P s0)) (hb : ∀ x s, Bx (P s) (bnd (g (en x)) fun _ => bnd b DL.ret) (f x s) (fun _ => .nx) P) (k : ∀ s, Bx (P s) (bnd nxt h) (u s) e q) : Bx p (bnd (forM g b (xs.map en)) h) ((forT f xs s0).bind u) e q := c_for P w hb k
theorem c_forRN {en : α → PD} {g : PD → M Unit} {b : M Out} {f : α → σ → Option (σ ⊕ β)} {h : Out → M γ} {xs : List α} {s0 : σ} {u : σ → Option ρ} {w : β → Option ρ} (er' : β → RV) (P : σ → Pt) (Q : β → Pt) (wk : Wk p (P s0)) (hb : ∀ x s, Bx (P s) (bnd (g (en x)) fun _ => bnd b DL.ret) (f x s) (eR er') (qR P Q)) (k : ∀ s, Bx (P s) (bnd nxt h) (u s) e q) (kr : ∀ v, Bx (Q v) (bnd (DL.ret (.rt (er' v))) h) (w v) e q) : Bx p (bnd (forM g b (xs.map en)) h) ((forR f xs s0).bind fun r => Sum.elim u w r) e q := by
  have := c_forR (xs := xs) (s0 := s0) (u := u) (w := w) P Q wk hb k kr
  have e2 : (fun r => Sum.elim u w r) = (fun r : σ ⊕ β => match r with | .inl s => u s | .inr v => w v) := by
    funext r; cases r <;> rfl
  rw [e2]; exact this
theorem c_whileN {t : M Bool} {b : M Out} {c : σ → Option Bool} {f : σ → Option σ} {h : Out → M γ} {n : Nat} {s0 : σ} {u : σ → Option ρ} (P : σ → Pt) (w : Wk p (P s0)) (ht : ∀ s, Bx (P s) (bnd t DL.ret) (c s) (fun b => b) fun _ => P s) (hb : ∀ s, Bx (P s) (bnd b DL.ret) (f s) (fun _ => .nx) P) (k : ∀ s, Bx (P s) (bnd nxt h) (u s) e q) : Bx p (bnd (whileM t b n) h) ((whileT c f n s0).bind u) e q := c_while P w ht hb k
/-- a call that always answers -/
theorem c_callKt {n : Nat} {d : Den} {rs : List RV} {h : RV → M γ} {z : RV} (hn : rs.length = n) (ha : argsOk false rs = true) (hd : d rs = some (z, noCn)) (k : Bx p (h z) T e q) : Bx p (bnd (callK n d rs) h) T e q := c_step (fun ds a => ⟨ds, by
    unfold callK
    rw [if_pos hn, if_pos ha, hd], a⟩) k
/-! the script -/
theorem c_getS {i : Nat} {ns : List Int} {h : List Int → M γ} (hi : p[i]? = some (.is (.scr ns))) (k : Bx p (h ns) T e q) : Bx p (bnd (getS i) h) T e q := c_step (fun ds a => ⟨ds, by rw [getS_app, a.get hi], a⟩) k
theorem c_gsV {i : Nat} {h : RV → M γ} (k : Bx p (bnd (getS i) fun ns => h (.scr ns)) T e q) : Bx p (bnd (gsV i) h) T e q := k.eq (by unfold gsV; simp only [bnd_assoc]; rfl)
/-! numbers -/
def mulT (a b : Int) : Option Int := if mulOk a b = true then some (a * b) else none
theorem mulE (a b : Int) : ∀ v, mulT a b = some v → mulV (.int a) (.int b) = some (.dat (.int v)) := fun v hv => by
  unfold mulT at hv
  split at hv
  · cases hv; exact mulV_ii (by assumption)
  · cases hv
def modT (a b : Int) : Option Int := if 0 < b then some (a % b) else none
theorem modE (a b : Int) : ∀ v, modT a b = some v → modI (.int a) (.int b) = some (.int v) := fun v hv => by
  unfold modT at hv
  split at hv
  · cases hv; exact modI_ii (by assumption)
  · cases hv
def fdivT (a b : Int) : Option Int := if 0 < b ∧ b < 1073741824 then some (a / b) else none
theorem fdivE (a b : Int) : ∀ v, fdivT a b = some v → fdivI (.int a) (.int b) = some (.int v) := fun v hv => by
  unfold fdivT at hv
  split at hv
  · rename_i h; cases hv; exact fdivI_ii h.1 h.2
  · cases hv
def powT (a b : Int) : Option Int := if 0 ≤ b ∧ b ≤ 1000 ∧ a.natAbs < 2 ^ 300 then some (a ^ b.toNat) else none
theorem powE (a b : Int) : ∀ v, powT a b = some v → powI (.int a) (.int b) = some (.int v) := fun v hv => by
  unfold powT at hv
  split at hv
  · rename_i h; cases hv; exact powI_ii h.1 h.2.1 h.2.2
  · cases hv
def stepT (xs : List α) (k : Int) : Option (List α) := if k ≠ 0 ∧ (stepL xs k).length ≤ lim then some (stepL xs k) else none
theorem stepL_mapT (en : α → β) (xs : List α) (k : Int) : stepL (xs.map en) k = (stepL xs k).map en := by
  unfold stepL
  rw [List.length_map, List.map_filterMap]
  congr 1
  funext m
  simp
theorem stepE (en : α → PD) (xs : List α) (k : Int) : ∀ v, stepT xs k = some v → stepD (eT en xs) (.int k) = some (eT en v) := fun v hv => by
  unfold stepT at hv
  show (if k ≠ 0 ∧ (stepL (xs.map en) k).length ≤ lim then some (PyData.tuple (stepL (xs.map en) k)) else none) = _
  rw [stepL_mapT, List.length_map]
  split at hv
  · rename_i h; cases hv; rw [if_pos h]
  · cases hv
def addTT (xs ys : List α) : Option (List α) := if xs.length + ys.length ≤ lim then some (xs ++ ys) else none
theorem addTE (en : α → PD) (xs ys : List α) : ∀ v, addTT xs ys = some v → addV (eT en xs) (eT en ys) = some (.dat (eT en v)) := fun v hv => by
  unfold addTT at hv
  split at hv
  · rename_i hl
    cases hv
    show (if (xs.map en).length + (ys.map en).length ≤ lim then some (RV.dat (.tuple (xs.map en ++ ys.map en))) else none) = _
    rw [List.length_map, List.length_map, if_pos hl, ← List.map_append]
  · cases hv
theorem map_rep (en : α → β) (xs : List α) (k : Int) : rep (xs.map en) k = (rep xs k).map en := by
  unfold rep
  rw [List.map_flatten, List.map_replicate]
def repLT (xs : List α) (k : Int) : Option (List α) := if xs.length * k.toNat ≤ lim ∧ k < 2 ^ 62 ∧ -(2 ^ 62) ≤ k then some (rep xs k) else none
theorem repLE (en : α → PD) (xs : List α) (k : Int) : ∀ v, repLT xs k = some v → mulV (eL en xs) (.int k) = some (.own (oL en v)) := fun v hv => by
  unfold repLT at hv
  split at hv
  · rename_i hl
    cases hv
    show (if (xs.map en).length * k.toNat ≤ lim ∧ k < 2 ^ 62 ∧ -(2 ^ 62) ≤ k then some (RV.own (.lst (rep (xs.map en) k))) else none) = _
    rw [List.length_map, if_pos hl, map_rep]
  · cases hv
def repTT (xs : List α) (k : Int) : Option (List α) := if 2 ≤ k ∧ k ≤ 1000 ∧ xs.length ≤ 1000 ∧ xs ≠ [] then some (rep xs k) else none
theorem repTE (en : α → PD) (xs : List α) (k : Int) : ∀ v, repTT xs k = some v → mulV (eT en xs) (.int k) = some (.dat (eT en v)) := fun v hv => by
  unfold repTT at hv
  split at hv
  · rename_i hl
    cases hv
    show (if 2 ≤ k ∧ k ≤ 1000 ∧ (xs.map en).length ≤ 1000 ∧ xs.map en ≠ [] then some (RV.dat (.tuple (rep (xs.map en) k))) else none) = _
    rw [List.length_map, if_pos ⟨hl.1, hl.2.1, hl.2.2.1, by simpa using hl.2.2.2⟩, map_rep]
  · cases hv
/-! booleans -/
theorem allE (bs : List Bool) : allD (eL eB bs) = some (.bool (bs.all id)) := allD_bools bs
theorem anyE (bs : List Bool) : anyD (eL eB bs) = some (.bool (bs.any id)) := anyD_bools bs
theorem sumE (ns : List Int) : sumD (eL eI ns) = some (.int ns.sum) := sumD_ints ns
theorem reprBE (b : Bool) : reprB (.bool b) = some (eRB b) := rfl
/-! own dicts with ints as keys -/
def lookT [DecidableEq κ] (kvs : List (κ × ν)) (k : κ) : Option ν := match kvs with
  | [] => none
  | (a, d) :: r => if a = k then some d else lookT r k
def putT [DecidableEq κ] (kvs : List (κ × ν)) (k : κ) (d : ν) : List (κ × ν) := if (lookT kvs k).isSome = true then kvs.map (fun p => if p.1 = k then (p.1, d) else p) else kvs ++ [(k, d)]
def mergeT [DecidableEq κ] (kvs more : List (κ × ν)) : List (κ × ν) := more.foldl (fun acc p => putT acc p.1 p.2) kvs
/-- a key's reading -/
structure EncK {κ : Type} [DecidableEq κ] (ek : κ → PD) (key : κ → Key) : Prop where
  of : ∀ k, keyOf (ek k) = some (key k)
  to : ∀ k, keyD (key k) = ek k
  inj : ∀ a b, key a = key b ↔ a = b
theorem kI : EncK eI Sum.inl := ⟨fun _ => rfl, fun _ => rfl, fun a b => ⟨fun h => Sum.inl.inj h, fun h => by rw [h]⟩⟩
theorem kS : EncK eS fun x => Sum.inr x.s := ⟨fun _ => rfl, fun _ => rfl, fun a b => ⟨fun h => Sk.ext (Sum.inr.inj h), fun h => by rw [h]⟩⟩
variable [DecidableEq κ] {ek : κ → PD} {key : κ → Key} {ev : ν → PD}
theorem lookE (K : EncK ek key) (kvs : List (κ × ν)) (k : κ) : lookK (kvs.map fun p => (ek p.1, ev p.2)) (key k) = (lookT kvs k).map ev := by
  induction kvs with
  | nil => rfl
  | cons a r ih =>
    rcases a with ⟨a, d⟩
    show (if keyOf (ek a) = some (key k) then some (ev d) else lookK _ (key k)) = _
    rw [K.of, ih]
    show _ = (if a = k then some d else lookT r k).map ev
    by_cases h : a = k
    · rw [if_pos (by rw [h]), if_pos h]; rfl
    · rw [if_neg (fun z => h ((K.inj a k).mp (Option.some.inj z))), if_neg h]
theorem putE (K : EncK ek key) (kvs : List (κ × ν)) (k : κ) (d : ν) : putD (kvs.map fun p => (ek p.1, ev p.2)) (key k) (ev d) = (putT kvs k d).map fun p => (ek p.1, ev p.2) := by
  unfold putD putT
  rw [lookE K, Option.isSome_map]
  split
  · rw [List.map_map, List.map_map]
    apply List.map_congr_left
    intro p _
    show (if keyOf (ek p.1) = some (key k) then (ek p.1, ev d) else (ek p.1, ev p.2)) = _
    rw [K.of]
    by_cases h : p.1 = k
    · rw [if_pos (by rw [h])]; simp [h]
    · rw [if_neg (fun z => h ((K.inj _ k).mp (Option.some.inj z)))]; simp [h]
  · rw [List.map_append, K.to]; rfl
theorem mergeE (K : EncK ek key) : ∀ (more kvs : List (κ × ν)), mergeD (kvs.map fun p => (ek p.1, ev p.2)) (more.map fun p => (ek p.1, ev p.2)) = (mergeT kvs more).map fun p => (ek p.1, ev p.2)
  | [], kvs => rfl
  | m :: more, kvs => by
    unfold mergeD mergeT
    rw [List.map_cons, List.foldl_cons, List.foldl_cons]
    dsimp only
    rw [K.of]
    dsimp only
    rw [putE K]
    exact mergeE K more _
theorem c_odget {i : Nat} {fk : M PD} {h : PD → M γ} (k : Bx p (bnd (getDc i) fun _ => bnd fk fun y => bnd (getDc i) fun kvs => bnd (ofO ((keyOf y).bind (lookK kvs))) h) T e q) : Bx p (bnd (odget i fk) h) T e q := k.eq (by unfold odget; simp only [bnd_assoc])
theorem odgetE (K : EncK ek key) (kvs : List (κ × ν)) (k : κ) : ∀ v, lookT kvs k = some v → (keyOf (ek k)).bind (lookK (kvs.map fun p => (ek p.1, ev p.2))) = some (ev v) := fun v hv => by
  rw [K.of]
  show lookK _ (key k) = _
  rw [lookE K, hv]; rfl
theorem c_odin {neg : Bool} {i : Nat} {fk : M PD} {h : PD → M γ} (k : Bx p (bnd fk fun y => bnd (getDc i) fun kvs => bnd (ofO ((keyOf y).map fun k => PyData.bool ((lookK kvs k).isSome != neg))) h) T e q) : Bx p (bnd (odin neg i fk) h) T e q := k.eq (by unfold odin; simp only [bnd_assoc])
theorem odinE (K : EncK ek key) (kvs : List (κ × ν)) (k : κ) : ((keyOf (ek k)).map fun k => PyData.bool ((lookK (kvs.map fun p => (ek p.1, ev p.2)) k).isSome != false)) = some (.bool (lookT kvs k).isSome) := by
  rw [K.of]
  show some (PyData.bool ((lookK _ (key k)).isSome != false)) = _
  rw [lookE K]; simp
theorem odninE (K : EncK ek key) (kvs : List (κ × ν)) (k : κ) : ((keyOf (ek k)).map fun k => PyData.bool ((lookK (kvs.map fun p => (ek p.1, ev p.2)) k).isSome != true)) = some (.bool (!(lookT kvs k).isSome)) := by
  rw [K.of]
  show some (PyData.bool ((lookK _ (key k)).isSome != true)) = _
  rw [lookE K]; simp
theorem c_odgetn {i : Nat} {fk : M PD} {h : PD → M γ} (k : Bx p (bnd (getDc i) fun _ => bnd fk fun y => bnd (getDc i) fun kvs => bnd (ofO ((keyOf y).map fun k => (lookK kvs k).getD .none)) h) T e q) : Bx p (bnd (odgetn i fk) h) T e q := k.eq (by unfold odgetn; simp only [bnd_assoc])
theorem odgetnE (K : EncK ek key) (kvs : List (κ × ν)) (k : κ) : ((keyOf (ek k)).map fun k => (lookK (kvs.map fun p => (ek p.1, ev p.2)) k).getD .none) = some (eO ev (lookT kvs k)) := by
  rw [K.of]
  show some ((lookK _ (key k)).getD .none) = _
  rw [lookE K]; cases lookT kvs k <;> rfl
theorem c_odgetd {i : Nat} {fk fd : M PD} {h : PD → M γ} (k : Bx p (bnd (getDc i) fun _ => bnd fk fun y => bnd fd fun z => bnd (getDc i) fun kvs => bnd (ofO ((keyOf y).map fun k => (lookK kvs k).getD z)) h) T e q) : Bx p (bnd (odgetd i fk fd) h) T e q := k.eq (by unfold odgetd; simp only [bnd_assoc])
theorem odgetdE (K : EncK ek key) (kvs : List (κ × ν)) (k : κ) (z : ν) : ((keyOf (ek k)).map fun k => (lookK (kvs.map fun p => (ek p.1, ev p.2)) k).getD (ev z)) = some (ev ((lookT kvs k).getD z)) := by
  rw [K.of]
  show some ((lookK _ (key k)).getD (ev z)) = _
  rw [lookE K]; cases lookT kvs k <;> rfl
def odputK (i : Nat) (x y : PD) (kvs : KvL) : M Out := match keyOf y with
  | some k => if kvs.length < lim then bnd (setC i (.dic (putD kvs k x))) fun _ => nxt else stuck
  | none => stuck
theorem c_odput {i : Nat} {fk fv : M PD} {h : Out → M γ} (k : Bx p (bnd fv fun x => bnd (getDc i) fun _ => bnd fk fun y => bnd (getDc i) fun kvs => bnd (odputK i x y kvs) h) T e q) : Bx p (bnd (odput i fk fv) h) T e q := k.eq (by unfold odput; simp only [bnd_assoc]; rfl)
def putO (kvs : List (κ × ν)) (k : κ) (d : ν) : Option (List (κ × ν)) := if kvs.length < lim then some (putT kvs k d) else none
theorem c_odputK (K : EncK ek key) {i : Nat} {x : ν} {y : κ} {kvs : List (κ × ν)} {h : Out → M γ} {u : List (κ × ν) → Option ρ} (k : ∀ v, Bx (p.set i (.is (.own (oD ek ev v)))) (bnd nxt h) (u v) e q) : Bx p (bnd (odputK i (ev x) (ek y) (kvs.map fun p => (ek p.1, ev p.2))) h) ((putO kvs y x).bind u) e q := fun r hr ds a => by
  unfold putO at hr
  split at hr
  · rename_i hl
    unfold odputK
    rw [K.of]
    dsimp only
    rw [List.length_map, if_pos hl, putE K]
    exact k (putT kvs y x) r hr (ds.set i (some (.own (oD ek ev (putT kvs y x))))) (a.set i (Pv.oke rfl))
  · cases hr
def updK (i : Nat) (c : Cn) (kvs : KvL) : M PD := match c with
  | .dic more => if kvs.length + more.length ≤ lim then bnd (setC i (.dic (mergeD kvs more))) fun _ => DL.ret .none else stuck
  | _ => stuck
theorem c_updM {i : Nat} {fe : M Cn} {h : PD → M γ} (k : Bx p (bnd (getDc i) fun _ => bnd fe fun c => bnd (getDc i) fun kvs => bnd (updK i c kvs) h) T e q) : Bx p (bnd (updM i fe) h) T e q := k.eq (by unfold updM; simp only [bnd_assoc]; rfl)
def updT (kvs more : List (κ × ν)) : Option (List (κ × ν)) := if kvs.length + more.length ≤ lim then some (mergeT kvs more) else none
theorem c_updK (K : EncK ek key) {i : Nat} {kvs more : List (κ × ν)} {h : PD → M γ} {u : List (κ × ν) → Option ρ} (k : ∀ v, Bx (p.set i (.is (.own (oD ek ev v)))) (h .none) (u v) e q) : Bx p (bnd (updK i (oD ek ev more) (kvs.map fun p => (ek p.1, ev p.2))) h) ((updT kvs more).bind u) e q := fun r hr ds a => by
  unfold updT at hr
  split at hr
  · rename_i hl
    show ∃ ds', bnd (if (kvs.map fun p => (ek p.1, ev p.2)).length + (more.map fun p => (ek p.1, ev p.2)).length ≤ lim then bnd (setC i (.dic (mergeD (kvs.map fun p => (ek p.1, ev p.2)) (more.map fun p => (ek p.1, ev p.2))))) fun _ => DL.ret .none else stuck) h ds = _ ∧ _
    rw [List.length_map, List.length_map, if_pos hl, mergeE K]
    exact k (mergeT kvs more) r hr (ds.set i (some (.own (oD ek ev (mergeT kvs more))))) (a.set i (Pv.oke rfl))
  · cases hr
theorem c_dnew1 {fk fv : M PD} {h : Cn → M γ} (k : Bx p (bnd fk fun k => bnd fv fun v => bnd (ofO ((keyOf k).map fun k => Cn.dic [(keyD k, v)])) h) T e q) : Bx p (bnd (dnew1 fk fv) h) T e q := k.eq (by unfold dnew1; simp only [bnd_assoc])
theorem dnew1E (K : EncK ek key) (k : κ) (v : ν) : ((keyOf (ek k)).map fun k => Cn.dic [(keyD k, ev v)]) = some (oD ek ev [(k, v)]) := by
  rw [K.of]
  show some (Cn.dic [(keyD (key k), ev v)]) = _
  rw [K.to]; rfl
/-! a frozen dict, walked -/
theorem c_lock {i : Nat} {f : M δ} {h : δ → M γ} {kvs : KvL} {t : Option τ} {e' : τ → δ} {u : τ → Option ρ} (hi : p[i]? = some (.is (.dat (.dict kvs)))) (hn : ∀ ds, At p ds → noLck ds = true) (hb : Bx (p.set i (.is (.lck kvs))) f t e' (fun _ => p.set i (.is (.lck kvs)))) (k : ∀ v, Bx p (h (e' v)) (u v) e q) : Bx p (bnd (lockM i f) h) (t.bind u) e q := by
  refine c_blk (e' := e') (q' := fun _ => p) (fun r hr ds a => ?_) k
  obtain ⟨d1, h1, a1⟩ := hb r hr (ds.set i (some (.lck kvs))) (a.set i (Pv.oke rfl))
  have a2 : At p (d1.set i (some (.dat (.dict kvs)))) := by
    have := a1.set (a := .is (.dat (.dict kvs))) (o := some (.dat (.dict kvs))) i (Pv.oke rfl)
    have e1 : (p.set i (.is (.lck kvs))).set i (.is (.dat (.dict kvs))) = p := by
      rw [List.set_set]
      refine List.ext_getElem? fun j => ?_
      rw [List.getElem?_set]
      by_cases c : i = j
      · subst c
        have := hi
        have hl : i < p.length := (List.getElem?_eq_some_iff.mp hi).1
        rw [hi]; simp [hl]
      · simp [c]
    rw [e1] at this
    exact this
  refine ⟨d1.set i (some (.dat (.dict kvs))), ?_, a2⟩
  unfold lockM
  rw [a.get hi]
  dsimp only
  rw [h1]
  dsimp only
  rw [if_pos (hn _ a2)]
theorem c_getLk {i : Nat} {kvs : KvL} {h : KvL → M γ} (hi : p[i]? = some (.is (.lck kvs))) (k : Bx p (h kvs) T e q) : Bx p (bnd (getLk i) h) T e q := c_step (fun ds a => ⟨ds, by unfold getLk; rw [a.get hi], a⟩) k
theorem c_keysM {i : Nat} {h : List PD → M γ} (k : Bx p (bnd (getLk i) fun kvs => bnd (ofO (keysL kvs)) h) T e q) : Bx p (bnd (keysM i) h) T e q := k.eq (by unfold keysM; simp only [bnd_assoc])
theorem keysE (K : EncK ek key) (kvs : List (κ × ν)) : keysL (kvs.map fun p => (ek p.1, ev p.2)) = some ((kvs.map Prod.fst).map ek) := by
  unfold keysL
  rw [if_pos]
  · rw [List.map_map, List.map_map]; rfl
  · rw [List.all_map]
    exact List.all_eq_true.mpr fun p _ => by show (keyOf (ek p.1)).isSome = true; rw [K.of]; rfl
end
/-- no dict is walked -/
def nlP (p : Pt) : Bool := p.all fun a => match a with | .any => false | .is (.lck _) => false | _ => true
theorem At.noLck : ∀ {p : Pt} {ds : DS}, nlP p = true → At p ds → noLck ds = true
  | [], [], _, _ => rfl
  | a :: p, o :: ds, h, ha => by
    unfold nlP at h
    rw [List.all_cons, Bool.and_eq_true] at h
    have h2 := At.noLck (p := p) h.2 ha.2
    unfold DL.noLck at h2 ⊢
    rw [List.all_cons, h2, Bool.and_true]
    have h1 := ha.1
    cases a with
    | any => cases h.1
    | pl =>
      cases o with
      | none => rfl
      | some r => cases r <;> first | rfl | exact h1.elim
    | is r =>
      cases (show o = some r from h1)
      cases r with
      | lck _ => cases h.1
      | _ => rfl
  | [], _ :: _, _, h => h.elim
  | _ :: _, [], _, h => h.elim
end DL
namespace DL
open PySem PySem.Spec PyProof.Rows L2
theorem wk_n : Wk [] [] := trivial
theorem wk_c {a b : Pv} {p q : Pt} (h1 : a.le b) (h2 : Wk p q) : Wk (a :: p) (b :: q) := ⟨h1, h2⟩
theorem le_any {a : Pv} : a.le .any := trivial
theorem le_plP : Pv.le .pl .pl := trivial
theorem le_plD {d : PD} : Pv.le (.is (.dat d)) .pl := trivial
theorem le_is {r : RV} : Pv.le (.is r) (.is r) := rfl
theorem at_n : At [] [] := trivial
theorem at_c {a : Pv} {o : Option RV} {p : Pt} {ds : DS} (h1 : a.ok o) (h2 : At p ds) : At (a :: p) (o :: ds) := ⟨h1, h2⟩
theorem ok_is {r : RV} : Pv.ok (.is r) (some r) := rfl
theorem ok_pl : Pv.ok .pl none := trivial
section
variable {γ ρ α : Type} {p : Pt} {T : Option ρ} {e : ρ → γ} {q : ρ → Pt}
/-- a list's length -/
theorem c_olenT {i : Nat} {en : α → PD} {xs : List α} {h : PD → M γ} (hi : p[i]? = some (.is (.own (.lst (xs.map en))))) (k : Bx p (h (.int xs.length)) T e q) : Bx p (bnd (olen i) h) T e q := c_olen (c_getL hi (by rw [List.length_map]; exact k))
end
section
variable {γ ρ α : Type} {p : Pt} {T : Option ρ} {e : ρ → γ} {q : ρ → Pt}
theorem c_slen {i : Nat} {h : PD → M γ} (k : Bx p (bnd (getS i) fun ns => h (.int ns.length)) T e q) : Bx p (bnd (slen i) h) T e q := k.eq (by unfold slen; simp only [bnd_assoc]; rfl)
end
/-! answers of defs read by hand -/
theorem intsOf_inv : ∀ {xs : List PD} {ns : List Int}, intsOf xs = some ns → xs = ns.map eI
  | [], ns, h => by cases h; rfl
  | d :: xs, ns, h => by
    cases d with
    | int i =>
      have h : (intsOf xs).map (i :: ·) = some ns := h
      cases e : intsOf xs with
      | none => rw [e] at h; cases h
      | some ms => rw [e] at h; cases h; rw [intsOf_inv e]; rfl
    | _ => cases h
def ioI : Option (RV × Cn) → Option (Int × List Int)
  | some (.dat (.int v), .lst xs) => (intsOf xs).map fun ns => (v, ns)
  | _ => none
theorem ioI_some {r : Option (RV × Cn)} {v : Int × List Int} (h : ioI r = some v) : r = some (.dat (.int v.1), oL eI v.2) := by
  unfold ioI at h
  split at h
  · rename_i w xs
    cases e : intsOf xs with
    | none => rw [e] at h; cases h
    | some ns => rw [e] at h; cases h; rw [intsOf_inv e]
  · cases h
def owI : Option (RV × Cn) → Option (List Int)
  | some (.own (.lst xs), .lst []) => intsOf xs
  | _ => none
theorem owI_some {r : Option (RV × Cn)} {v : List Int} (h : owI r = some v) : r = some (.own (oL eI v), noCn) := by
  unfold owI at h
  split at h
  · rw [intsOf_inv h]; rfl
  · cases h
/-- an answer under a condition -/
theorem cond_some {α : Type} {c : Prop} [Decidable c] {a v : α} (h : (if c then some a else none) = some v) : c ∧ a = v := by
  split at h
  · exact ⟨by assumption, Option.some.inj h⟩
  · cases h
section
variable {γ δ ρ τ : Type} {p : Pt} {e : ρ → γ} {q : ρ → Pt}
/-- an answer that is not None -/
theorem c_ofO {o : Option PD} {en : τ → PD} {x : Option τ} {g : PD → M γ} {u : τ → Option ρ} (h : o = some (eO en x)) (k : ∀ v, Bx p (g (en v)) (u v) e q) : Bx p (bnd (ofO o) g) (x.bind u) e q := by
  subst h
  cases x with
  | none => exact x_none
  | some v => exact k v
theorem c_ofpO {o : Option PD} {en : τ → PD} {t : Option (Option τ)} {g : PD → M γ} {u : τ → Option ρ} (h : ∀ v, t = some v → o = some (eO en v)) (k : ∀ v, Bx p (g (en v)) (u v) e q) : Bx p (bnd (ofO o) g) ((t.bind fun v => v).bind u) e q := by
  cases ht : t with
  | none => exact x_none
  | some v => exact c_ofO (h v ht) k
end
theorem c_nm {γ ρ : Type} {p : Pt} {T : Option ρ} {e : ρ → γ} {q : ρ → Pt} {f : M γ} (p' : Pt) (h : p = p') (k : Bx p' f T e q) : Bx p f T e q := h ▸ k
end DL

namespace DL
open PySem PySem.Spec PyProof.Rows L2
section
variable {γ δ ρ τ σ α β κ ν : Type} {p : Pt} {T : Option ρ} {e : ρ → γ} {q : ρ → Pt} [DecidableEq κ]
/-! dict comprehensions with two fors -/
def dcI (kv : β → Option (Option (κ × ν))) : List β → List (κ × ν) → Option (List (κ × ν))
  | [], acc => some acc
  | y :: ys, acc => (kv y).bind fun r => match r with
    | none => dcI kv ys acc
    | some z => if acc.length < lim then dcI kv ys (putT acc z.1 z.2) else none
def dcO (t : α → Option Bool) (its : α → Option (List β)) (kv : α → β → Option (Option (κ × ν))) : List α → List (κ × ν) → Option (List (κ × ν))
  | [], acc => some acc
  | x :: xs, acc => (t x).bind fun b => if b = true then (its x).bind fun ys => (dcI (kv x) ys acc).bind (dcO t its kv xs) else dcO t its kv xs acc
abbrev kvE (ek : κ → PD) (ev : ν → PD) (kvs : List (κ × ν)) : KvL := kvs.map fun p => (ek p.1, ev p.2)
variable {ek : κ → PD} {key : κ → Key} {ev : ν → PD} {en : α → PD} {en1 : β → PD}
theorem x_dcIn (K : EncK ek key) {g1 : PD → M Unit} {tt1 : M Bool} {fk fv : M PD} {vs1 : List Nat} {P1 : Pt} {kv : β → Option (Option (κ × ν))}
    (h3 : ∀ y, Bx (wipeP P1 vs1) (bnd (turnKM g1 tt1 fk fv (en1 y)) DL.ret) (kv y) (fun r => r.map fun z => (key z.1, ev z.2)) (fun _ => anyAt P1 vs1)) :
    ∀ (ys : List β) (acc : List (κ × ν)) (ds : DS) (r : List (κ × ν)), At (anyAt P1 vs1) ds → dcI kv ys acc = some r → ∃ ds', dcIn g1 tt1 fk fv vs1 (kvE ek ev acc) (ys.map en1) ds = .ok (kvE ek ev r) ds' ∧ At (anyAt P1 vs1) ds'
  | [], acc, ds, r, a, h => by cases h; exact ⟨ds, rfl, a⟩
  | y :: ys, acc, ds, r, a, h => by
    unfold dcI at h
    cases e1 : kv y with
    | none => rw [e1] at h; cases h
    | some z =>
      rw [e1] at h
      have aw := a.wipe vs1
      rw [wipe_any] at aw
      obtain ⟨d1, h1, a1⟩ := h3 y z e1 _ aw
      rw [bnd_ret'] at h1
      rw [List.map_cons]
      unfold dcIn
      rw [h1]
      rcases z with _ | z
      · exact x_dcIn K h3 ys acc d1 r a1 h
      · dsimp only [Option.bind_some] at h
        split at h
        · rename_i hl
          obtain ⟨d2, h2, a2⟩ := x_dcIn K h3 ys (putT acc z.1 z.2) d1 r a1 h
          refine ⟨d2, ?_, a2⟩
          show (if (kvE ek ev acc).length < lim then dcIn g1 tt1 fk fv vs1 (putD (kvE ek ev acc) (key z.1) (ev z.2)) (ys.map en1) d1 else .err) = _
          rw [if_pos (by rw [List.length_map]; exact hl), putE K]
          exact h2
        · cases h
theorem x_dcOut (K : EncK ek key) {g : PD → M Unit} {tt : M Bool} {fi1 : M (List PD)} {g1 : PD → M Unit} {tt1 : M Bool} {fk fv : M PD} {vs vs1 : List Nat} {t : α → Option Bool} {its : α → Option (List β)} {kv : α → β → Option (Option (κ × ν))} (P1 : α → Pt)
    (h1 : ∀ x, Bx (wipeP p vs) (bnd (turn1M g tt (en x)) DL.ret) (t x) (fun b => b) fun _ => P1 x)
    (h2 : ∀ x, Bx (P1 x) (bnd fi1 DL.ret) (its x) (List.map en1) fun _ => P1 x)
    (h3 : ∀ x y, Bx (wipeP (P1 x) vs1) (bnd (turnKM g1 tt1 fk fv (en1 y)) DL.ret) (kv x y) (fun r => r.map fun z => (key z.1, ev z.2)) (fun _ => anyAt (P1 x) vs1))
    (w1 : ∀ x, Wk (P1 x) (anyAt p vs)) (w2 : ∀ x, Wk (anyAt (P1 x) vs1) (anyAt p vs)) :
    ∀ (xs : List α) (acc : List (κ × ν)) (ds : DS) (r : List (κ × ν)), At (anyAt p vs) ds → dcO t its kv xs acc = some r → ∃ ds', dcOut g tt fi1 g1 tt1 fk fv vs vs1 (kvE ek ev acc) (xs.map en) ds = .ok (kvE ek ev r) ds' ∧ At (anyAt p vs) ds'
  | [], acc, ds, r, a, h => by cases h; exact ⟨ds, rfl, a⟩
  | x :: xs, acc, ds, r, a, h => by
    unfold dcO at h
    cases e1 : t x with
    | none => rw [e1] at h; cases h
    | some b =>
      rw [e1] at h
      have aw := a.wipe vs
      rw [wipe_any] at aw
      obtain ⟨d1, g1', a1⟩ := h1 x b e1 _ aw
      rw [bnd_ret'] at g1'
      rw [List.map_cons]
      unfold dcOut
      rw [g1']
      cases b with
      | false => exact x_dcOut K P1 h1 h2 h3 w1 w2 xs acc d1 r (a1.wk (w1 x)) h
      | true =>
        have h : ((its x).bind fun ys => (dcI (kv x) ys acc).bind (dcO t its kv xs)) = some r := h
        cases e2 : its x with
        | none => rw [e2] at h; cases h
        | some ys =>
          rw [e2] at h
          have h : ((dcI (kv x) ys acc).bind (dcO t its kv xs)) = some r := h
          obtain ⟨d2, g2, a2⟩ := h2 x ys e2 _ a1
          rw [bnd_ret'] at g2
          dsimp only
          rw [g2]
          cases e3 : dcI (kv x) ys acc with
          | none => rw [e3] at h; cases h
          | some acc' =>
            rw [e3] at h
            have h : dcO t its kv xs acc' = some r := h
            obtain ⟨d3, g3, a3⟩ := x_dcIn K (h3 x) ys acc d2 acc' (a2.anyAt vs1) e3
            dsimp only
            rw [g3]
            exact x_dcOut K P1 h1 h2 h3 w1 w2 xs acc' d3 r (a3.wk (w2 x)) h
theorem c_dc2M {fi : M (List PD)} {g : PD → M Unit} {tt : M Bool} {fi1 : M (List PD)} {g1 : PD → M Unit} {tt1 : M Bool} {fk fv : M PD} {vs vs1 : List Nat} {h : Cn → M γ} (k : Bx p (bnd fi fun xs => bnd (dc2R g tt fi1 g1 tt1 fk fv vs vs1 xs) h) T e q) : Bx p (bnd (dc2M fi g tt fi1 g1 tt1 fk fv vs vs1) h) T e q := k.eq (by unfold dc2M; simp only [bnd_assoc])
theorem c_dc2 (K : EncK ek key) {g : PD → M Unit} {tt : M Bool} {fi1 : M (List PD)} {g1 : PD → M Unit} {tt1 : M Bool} {fk fv : M PD} {vs vs1 : List Nat} {t : α → Option Bool} {its : α → Option (List β)} {kv : α → β → Option (Option (κ × ν))} {xs : List α} {h : Cn → M γ} {u : List (κ × ν) → Option ρ} (P1 : α → Pt) (hp : plB p vs = true)
    (h1 : ∀ x, Bx (wipeP p vs) (bnd (turn1M g tt (en x)) DL.ret) (t x) (fun b => b) fun _ => P1 x)
    (h2 : ∀ x, Bx (P1 x) (bnd fi1 DL.ret) (its x) (List.map en1) fun _ => P1 x)
    (h3 : ∀ x y, Bx (wipeP (P1 x) vs1) (bnd (turnKM g1 tt1 fk fv (en1 y)) DL.ret) (kv x y) (fun r => r.map fun z => (key z.1, ev z.2)) (fun _ => anyAt (P1 x) vs1))
    (w1 : ∀ x, Wk (P1 x) (anyAt p vs)) (w2 : ∀ x, Wk (anyAt (P1 x) vs1) (anyAt p vs)) (k : ∀ r, Bx p (h (.dic (kvE ek ev r))) (u r) e q) : Bx p (bnd (dc2R g tt fi1 g1 tt1 fk fv vs vs1 (xs.map en)) h) ((dcO t its kv xs []).bind u) e q :=
  c_blk (e' := fun r => Cn.dic (kvE ek ev r)) (q' := fun _ => p) (fun r hr ds a => by
    obtain ⟨d1, g1', a1⟩ := x_dcOut K P1 h1 h2 h3 w1 w2 xs [] ds r (a.anyAt vs) hr
    refine ⟨restD ds d1 vs, ?_, ?_⟩
    · unfold dc2R
      have g1' : dcOut g tt fi1 g1 tt1 fk fv vs vs1 [] (xs.map en) ds = .ok (kvE ek ev r) d1 := g1'
      rw [if_pos (a.noOwn hp), g1']
    · have := a.rest a1 vs
      rw [rest_any] at this
      exact this) k
theorem c_turn1 {g : PD → M Unit} {tt : M Bool} {x : PD} {h : Bool → M γ} (k : Bx p (bnd (g x) fun _ => bnd tt h) T e q) : Bx p (bnd (turn1M g tt x) h) T e q := k.eq (by unfold turn1M; simp only [bnd_assoc])
theorem c_turnK {g : PD → M Unit} {tt : M Bool} {fk fv : M PD} {x : PD} {h : Option (Key × PD) → M γ} (k : Bx p (bnd (g x) fun _ => bnd tt fun b => bnd (if b = true then bnd fk fun y => bnd fv fun z => ofO ((keyOf y).map fun k => some (k, z)) else DL.ret none) h) T e q) : Bx p (bnd (turnKM g tt fk fv x) h) T e q := k.eq (by unfold turnKM; simp only [bnd_assoc])
theorem c_kv (K : EncK ek key) {y : κ} {z : ν} {h : Option (Key × PD) → M γ} (k : Bx p (h (some (key y, ev z))) T e q) : Bx p (bnd (ofO ((keyOf (ek y)).map fun k => some (k, ev z))) h) T e q := by rw [K.of]; exact k
end
end DL

namespace DL
open PySem PySem.Spec PyProof.Rows L2
section
variable {α β σ τ κ ν : Type}
/-- it answers, and so -/
def Gd (t : Option α) (P : α → Prop) : Prop := ∃ a, t = some a ∧ P a
theorem Gd.bind {t : Option α} {f : α → Option β} {P : α → Prop} {Q : β → Prop} (h : Gd t P) (k : ∀ a, P a → Gd (f a) Q) : Gd (t.bind f) Q := by
  obtain ⟨a, e, p⟩ := h
  rw [e]; exact k a p
theorem Gd.of {a : α} {P : α → Prop} (h : P a) : Gd (some a) P := ⟨a, rfl, h⟩
theorem Gd.mono {t : Option α} {P Q : α → Prop} (h : Gd t P) (k : ∀ a, P a → Q a) : Gd t Q := by
  obtain ⟨a, e, p⟩ := h
  exact ⟨a, e, k a p⟩
theorem Gd.eq {t : Option α} {a : α} (h : Gd t fun b => b = a) : t = some a := by
  obtain ⟨b, e, rfl⟩ := h; exact e
theorem gd_eq {t : Option α} {a : α} {P : α → Prop} (h : t = some a) (p : P a) : Gd t P := ⟨a, h, p⟩
/-- a step whose answer is known -/
theorem bind_eq {t : Option α} {f : α → Option β} {a : α} {b : Option β} (h : t = some a) (k : f a = b) : t.bind f = b := by rw [h]; exact k
theorem Gd.step {t : Option α} {f : α → Option β} {a : α} {Q : β → Prop} (h : t = some a) (k : Gd (f a) Q) : Gd (t.bind f) Q := by rw [h]; exact k
theorem Gd.for {f : α → σ → Option σ} (I : List α → σ → Prop) : ∀ (xs : List α) (s : σ), I [] s → (∀ pre x post s, xs = pre ++ x :: post → I pre s → Gd (f x s) (I (pre ++ [x]))) → Gd (forT f xs s) (I xs) := by
  intro xs s h0 hs
  have key : ∀ (post pre : List α) (s : σ), xs = pre ++ post → I pre s → Gd (forT f post s) (I xs) := by
    intro post
    induction post with
    | nil => intro pre s e h; rw [List.append_nil] at e; subst e; exact Gd.of h
    | cons x post ih =>
      intro pre s e h
      exact (hs pre x post s e h).bind fun s' h' => ih (pre ++ [x]) s' (by rw [e, List.append_assoc]; rfl) h'
  exact key xs [] s rfl h0
theorem forT_nil (f : α → σ → Option σ) (s : σ) : forT f [] s = some s := rfl
theorem forT_cons (f : α → σ → Option σ) (x : α) (xs : List α) (s : σ) : forT f (x :: xs) s = (f x s).bind (forT f xs) := rfl
theorem forT_fold {f : α → σ → Option σ} (g : σ → α → σ) (J : List α → σ → Prop) : ∀ (xs pre : List α) (s : σ), J pre s → (∀ pre' x post s, pre ++ xs = pre' ++ x :: post → J pre' s → f x s = some (g s x) ∧ J (pre' ++ [x]) (g s x)) → forT f xs s = some (xs.foldl g s) ∧ J (pre ++ xs) (xs.foldl g s)
  | [], pre, s, h, _ => ⟨rfl, by rw [List.append_nil]; exact h⟩
  | x :: xs, pre, s, h, k => by
    obtain ⟨e, h'⟩ := k pre x xs s rfl h
    rw [forT_cons, e]
    have := forT_fold g J xs (pre ++ [x]) (g s x) h' (fun pre' y post s e => k pre' y post s (by rw [← e, List.append_assoc]; rfl))
    rw [List.append_assoc] at this
    exact this
/-- a loop with returns: never -/
theorem forR_all {f : α → σ → Option (σ ⊕ β)} (I : List α → σ → Prop) (xs : List α) (s : σ) (h0 : I [] s) (hs : ∀ pre x post s, xs = pre ++ x :: post → I pre s → Gd (f x s) fun r => ∃ s', r = .inl s' ∧ I (pre ++ [x]) s') : Gd (forR f xs s) fun r => ∃ s', r = .inl s' ∧ I xs s' := by
  have key : ∀ (post pre : List α) (s : σ), xs = pre ++ post → I pre s → Gd (forR f post s) fun r => ∃ s', r = .inl s' ∧ I xs s' := by
    intro post
    induction post with
    | nil => intro pre s e h; rw [List.append_nil] at e; subst e; exact Gd.of ⟨s, rfl, h⟩
    | cons x post ih =>
      intro pre s e h
      refine (hs pre x post s e h).bind fun r h' => ?_
      obtain ⟨s', rfl, h'⟩ := h'
      exact ih (pre ++ [x]) s' (by rw [e, List.append_assoc]; rfl) h'
  exact key xs [] s rfl h0
/-! comprehensions -/
theorem mapF_ok {c : α → Bool} {v : α → β} {xs : List α} (h : xs.length ≤ lim) : mapF c v xs = some ((xs.filter c).map v) := by
  unfold mapF; rw [if_pos h]
theorem mapT_ok {v : α → β} {xs : List α} (h : xs.length ≤ lim) : mapF (fun _ => true) v xs = some (xs.map v) := by
  rw [mapF_ok h, List.filter_eq_self.mpr fun _ _ => rfl]
theorem compT_eq {f : α → Option (Option β)} {g : α → Option β} : ∀ {xs : List α}, (∀ x ∈ xs, f x = some (g x)) → compT f xs = some (xs.filterMap g)
  | [], _ => rfl
  | x :: xs, h => by
    unfold compT
    rw [h x (List.mem_cons_self ..), compT_eq (xs := xs) fun y hy => h y (List.mem_cons_of_mem _ hy)]
    cases e : g x <;> simp [e]
theorem lcT_eq {f : α → Option (Option β)} {g : α → Option β} {xs : List α} (hl : xs.length ≤ lim) (h : ∀ x ∈ xs, f x = some (g x)) : lcT f xs = some (xs.filterMap g) := by
  unfold lcT; rw [if_pos hl, compT_eq h]
theorem lcT_map {f : α → Option (Option β)} {g : α → β} {xs : List α} (hl : xs.length ≤ lim) (h : ∀ x ∈ xs, f x = some (some (g x))) : lcT f xs = some (xs.map g) := by
  rw [lcT_eq (g := fun x => some (g x)) hl h, List.filterMap_eq_map']
theorem lcT_filter {f : α → Option (Option α)} {c : α → Bool} {xs : List α} (hl : xs.length ≤ lim) (h : ∀ x ∈ xs, f x = some (if c x = true then some x else none)) : lcT f xs = some (xs.filter c) := by
  rw [lcT_eq (g := fun x => if c x = true then some x else none) hl h]
  congr 1
  clear h hl
  induction xs with
  | nil => rfl
  | cons x xs ih =>
    by_cases q : c x = true
    · simp [q, ih]
    · simp [q, ih]
/-- draws: each takes of the fuel -/
theorem lcST_draw {f : α → σ → Option (Option β × σ)} (I : Nat → σ → Prop) (P : β → Prop) : ∀ (xs : List α) (s : σ) (k : Nat), xs.length ≤ lim → I (xs.length + k) s → (∀ x ∈ xs, ∀ k s, I (k + 1) s → Gd (f x s) fun r => (∃ b, r.1 = some b ∧ P b) ∧ I k r.2) → Gd (lcST f xs s) fun r => (r.1.length = xs.length ∧ ∀ b ∈ r.1, P b) ∧ I k r.2 := by
  intro xs s k hl hI hs
  unfold lcST
  rw [if_pos hl]
  clear hl
  induction xs generalizing s k with
  | nil => exact Gd.of ⟨⟨rfl, fun b h => nomatch h⟩, by simpa using hI⟩
  | cons x xs ih =>
    unfold compS
    rw [List.length_cons] at hI
    refine (hs x (List.mem_cons_self ..) (xs.length + k) s (by rw [show xs.length + k + 1 = xs.length + 1 + k by omega]; exact hI)).bind fun r hr => ?_
    obtain ⟨⟨b, eb, hb⟩, hI'⟩ := hr
    refine (ih r.2 k hI' fun y hy => hs y (List.mem_cons_of_mem _ hy)).bind fun z hz => Gd.of ?_
    rw [eb]
    refine ⟨⟨by simp [hz.1.1], fun c hc => ?_⟩, hz.2⟩
    rcases List.mem_cons.mp hc with rfl | hc
    · exact hb
    · exact hz.1.2 c hc
/-! lists -/
theorem appT_ok {xs : List α} {x : α} (h : xs.length < lim) : appT xs x = some (xs ++ [x]) := by unfold appT; rw [if_pos h]
theorem extT_ok {xs ys : List α} (h : xs.length + ys.length ≤ lim) : extT xs ys = some (xs ++ ys) := by unfold extT; rw [if_pos h]
theorem addTT_ok {xs ys : List α} (h : xs.length + ys.length ≤ lim) : addTT xs ys = some (xs ++ ys) := by unfold addTT; rw [if_pos h]
theorem okL_ok {xs : List α} (h : xs.length ≤ lim) : okL xs = some xs := by unfold okL; rw [if_pos h]
theorem sortT_ok {l : α → α → Bool} {xs : List α} (h : xs.length ≤ lim) : sortT l xs = some (xs.mergeSort fun a b => !l b a) := by unfold sortT; rw [if_pos h]
theorem atI_nat (xs : List α) (i : Nat) : atI xs (i : Int) = xs[i]? := atI_nat' xs i
theorem atI_some {xs : List α} {i : Nat} (h : i < xs.length) : atI xs (i : Int) = some xs[i] := by rw [atI_nat, List.getElem?_eq_getElem h]
theorem atI_last {xs : List α} (x : α) : atI (xs ++ [x]) (-1) = some x := atI_last' xs x
theorem setT_last {xs : List α} (x y : α) : setT (xs ++ [x]) (-1) y = some (xs ++ [y]) := by
  unfold setT ixN
  rw [if_neg (by omega), if_pos (by simp; omega)]
  have : (-1 + ((xs ++ [x]).length : Int)).toNat = xs.length := by simp; omega
  rw [this]
  simp
theorem mulT_l {a b : Int} (h : -(2 ^ 64) < a) (h2 : a < 2 ^ 64) : mulT a b = some (a * b) := by unfold mulT; rw [if_pos (mulOk_l h h2)]
theorem mulT_r {a b : Int} (h : -(2 ^ 64) < b) (h2 : b < 2 ^ 64) : mulT a b = some (a * b) := by unfold mulT; rw [if_pos (mulOk_r h h2)]
theorem big62_ok {i : Int} (h : -(2 ^ 62) ≤ i) (h2 : i < 2 ^ 62) : big62 i = true := by unfold big62; rw [decide_eq_true h, decide_eq_true h2]; rfl
theorem rng1T_ok {n : Int} (h : -(2 ^ 62) ≤ n) (h2 : n < 2 ^ 62) : rng1T n = some (rngI 0 n.toNat) := by unfold rng1T; rw [if_pos (big62_ok h h2)]
theorem rng2T_ok {a b : Int} (h : -(2 ^ 62) ≤ a) (h2 : a < 2 ^ 62) (h3 : -(2 ^ 62) ≤ b) (h4 : b < 2 ^ 62) : rng2T a b = some (rngI a (b - a).toNat) := by unfold rng2T; rw [big62_ok h h2, big62_ok h3 h4]; rfl
theorem rng3T_dn {a b : Int} (h : -(2 ^ 62) ≤ a) (h2 : a < 2 ^ 62) (h3 : -(2 ^ 62) ≤ b) (h4 : b < 2 ^ 62) : rng3T a b (-1) = some (rngDI a (a - b).toNat) := by unfold rng3T; rw [big62_ok h h2, big62_ok h3 h4]; rfl
theorem rngI_zero (a : Int) : rngI a 0 = [] := rfl
theorem rngI_succ (a : Int) (n : Nat) : rngI a (n + 1) = a :: rngI (a + 1) n := by
  unfold rngI
  rw [List.range_succ_eq_map, List.map_cons, List.map_map]
  simp only [Int.natCast_zero, Int.add_zero]
  congr 1
  apply List.map_congr_left
  intro i _
  show a + ((i + 1 : Nat) : Int) = a + 1 + i
  omega
theorem rngI_snoc (a : Int) (n : Nat) : rngI a (n + 1) = rngI a n ++ [a + n] := by
  unfold rngI
  rw [List.range_succ, List.map_append]; rfl
theorem mem_rngI {a x : Int} {n : Nat} : x ∈ rngI a n ↔ a ≤ x ∧ x < a + n := by
  unfold rngI
  rw [List.mem_map]
  constructor
  · rintro ⟨i, hi, rfl⟩
    have := List.mem_range.mp hi
    omega
  · rintro ⟨h1, h2⟩
    exact ⟨(x - a).toNat, List.mem_range.mpr (by omega), by omega⟩
theorem rngDI_zero (a : Int) : rngDI a 0 = [] := rfl
theorem rngDI_succ (a : Int) (n : Nat) : rngDI a (n + 1) = a :: rngDI (a - 1) n := by
  unfold rngDI
  rw [List.range_succ_eq_map, List.map_cons, List.map_map]
  simp only [Int.natCast_zero, Int.sub_zero]
  congr 1
  apply List.map_congr_left
  intro i _
  show a - ((i + 1 : Nat) : Int) = a - 1 - i
  omega
theorem rngDI_len (a : Int) (n : Nat) : (rngDI a n).length = n := by unfold rngDI; simp
theorem minT_cons (l : α → α → Bool) (x : α) (xs : List α) : minT l (x :: xs) = some (xs.foldl (fun a y => if l y a = true then y else a) x) := rfl
/-! dicts -/
variable [DecidableEq κ]
theorem lookT_put (kvs : List (κ × ν)) (k j : κ) (d : ν) : lookT (putT kvs k d) j = if k = j then some d else lookT kvs j := by
  unfold putT
  split
  · rename_i h
    induction kvs with
    | nil => cases h
    | cons a r ih =>
      rcases a with ⟨a, x⟩
      rw [List.map_cons]
      by_cases c : a = k
      · subst c
        rw [if_pos rfl]
        show (if a = j then some d else lookT _ j) = if a = j then some d else (if a = j then some x else lookT r j)
        by_cases q : a = j
        · rw [if_pos q, if_pos q]
        · rw [if_neg q, if_neg q, if_neg q]
          have : ∀ r : List (κ × ν), lookT (r.map fun p => if p.1 = a then (p.1, d) else p) j = lookT r j := by
            intro r
            induction r with
            | nil => rfl
            | cons b r ih =>
              rcases b with ⟨b, y⟩
              rw [List.map_cons]
              by_cases w : b = a
              · subst w
                rw [if_pos rfl]
                show (if b = j then some d else lookT _ j) = (if b = j then some y else lookT r j)
                rw [if_neg q, if_neg q, ih]
              · rw [if_neg w]
                show (if b = j then some y else lookT _ j) = (if b = j then some y else lookT r j)
                rw [ih]
          exact this r
      · rw [if_neg c]
        have h' : (lookT r k).isSome = true := by
          have : lookT ((a, x) :: r) k = lookT r k := by
            show (if a = k then some x else lookT r k) = _
            rw [if_neg c]
          rw [this] at h; exact h
        show (if a = j then some x else lookT _ j) = if k = j then some d else (if a = j then some x else lookT r j)
        rw [ih h']
        by_cases q : a = j
        · have : ¬ k = j := fun z => c (q.trans z.symm)
          rw [if_pos q, if_neg this, if_pos q]
        · rw [if_neg q, if_neg q]
  · rename_i h
    have hn : lookT kvs k = none := by
      cases e : lookT kvs k with
      | none => rfl
      | some v => rw [e] at h; exact absurd rfl h
    clear h
    induction kvs with
    | nil => rfl
    | cons a r ih =>
      rcases a with ⟨a, x⟩
      have hn0 : (if a = k then some x else lookT r k) = none := hn
      have c : ¬ a = k := fun z => by rw [if_pos z] at hn0; cases hn0
      rw [if_neg c] at hn0
      show (if a = j then some x else lookT (r ++ [(k, d)]) j) = if k = j then some d else (if a = j then some x else lookT r j)
      rw [ih hn0]
      by_cases q : a = j
      · have : ¬ k = j := fun z => c (q.trans z.symm)
        rw [if_pos q, if_neg this, if_pos q]
      · rw [if_neg q, if_neg q]
theorem putT_len (kvs : List (κ × ν)) (k : κ) (d : ν) : (putT kvs k d).length ≤ kvs.length + 1 := by
  unfold putT
  split
  · simp
  · simp
theorem putO_ok {kvs : List (κ × ν)} {k : κ} {d : ν} (h : kvs.length < lim) : putO kvs k d = some (putT kvs k d) := by unfold putO; rw [if_pos h]
end
end DL

set_option maxHeartbeats 1000000
namespace K78
open PySem PySem.Spec PyProof.Rows L2 DL
def topS (i : Nat) : Stmt := PySem.Challenge.pw_nearestkeeps_k78_whole_leases_by_own_day.main.body.getD i (.Pass ⟨0, 0, 0, 0⟩)
abbrev s__law_places : Stmt := topS 36
abbrev s__law_pot : Stmt := topS 33
abbrev s__law_take : Stmt := topS 34
abbrev s_is_rising : Stmt := topS 4
abbrev s_is_tuple : Stmt := topS 1
abbrev s_is_whole : Stmt := topS 2
abbrev s_is_integer : Stmt := topS 3
abbrev s_is_beats : Stmt := topS 14
abbrev s_check_reads : Stmt := topS 15
abbrev s_check_length : Stmt := topS 17
abbrev s_asked_of : Stmt := topS 18
abbrev s_asked : Stmt := topS 19
abbrev s_check_writes : Stmt := topS 16
abbrev s_waits_by : Stmt := topS 28
abbrev s_least_of : Stmt := topS 29
abbrev s_least_cost : Stmt := topS 27
abbrev s__law_of : Stmt := topS 35
abbrev s__law_day : Stmt := topS 37
abbrev s_done_of : Stmt := topS 25
abbrev s_done : Stmt := topS 26
abbrev s_fresh_of : Stmt := topS 23
abbrev s_fewest_asked : Stmt := topS 24
abbrev s_wrong_of : Stmt := topS 20
abbrev s_lengths_right : Stmt := topS 22
abbrev s_wrong : Stmt := topS 21
abbrev s__law_waits : Stmt := topS 38
abbrev s__law_least : Stmt := topS 39
abbrev s__law_cost : Stmt := topS 40
abbrev s_cost_of : Stmt := topS 30
abbrev s_shows_cost : Stmt := topS 31
abbrev s__law_right : Stmt := topS 41
abbrev s_law : Stmt := topS 42
theorem sc__law_places : FnScope ["script", "most"] ["script", "most"] (defScope s__law_places) := ⟨rfl, rfl, rfl, by decide +kernel, rfl, by decide +kernel, by decide +kernel⟩
theorem sc__law_pot : FnScope ["script", "place", "cell", "own", "small"] ["script", "place"] (defScope s__law_pot) := ⟨rfl, rfl, rfl, by decide +kernel, rfl, by decide +kernel, by decide +kernel⟩
theorem sc__law_take : FnScope ["pot", "upto", "digit", "prime", "blend"] ["pot", "upto"] (defScope s__law_take) := ⟨rfl, rfl, rfl, by decide +kernel, rfl, by decide +kernel, by decide +kernel⟩
theorem sc_is_rising : FnScope ["values", "one", "other"] ["values"] (defScope s_is_rising) := ⟨rfl, rfl, rfl, by decide +kernel, rfl, by decide +kernel, by decide +kernel⟩
theorem sc_is_tuple : FnScope ["value", "least", "most"] ["value", "least", "most"] (defScope s_is_tuple) := ⟨rfl, rfl, rfl, by decide +kernel, rfl, by decide +kernel, by decide +kernel⟩
theorem sc_is_whole : FnScope ["value"] ["value"] (defScope s_is_whole) := ⟨rfl, rfl, rfl, by decide +kernel, rfl, by decide +kernel, by decide +kernel⟩
theorem sc_is_integer : FnScope ["value", "low", "high"] ["value", "low", "high"] (defScope s_is_integer) := ⟨rfl, rfl, rfl, by decide +kernel, rfl, by decide +kernel, by decide +kernel⟩
theorem sc_is_beats : FnScope ["value", "one"] ["value"] (defScope s_is_beats) := ⟨rfl, rfl, rfl, by decide +kernel, rfl, by decide +kernel, by decide +kernel⟩
theorem sc_check_reads : FnScope ["value"] ["value"] (defScope s_check_reads) := ⟨rfl, rfl, rfl, by decide +kernel, rfl, by decide +kernel, by decide +kernel⟩
theorem sc_check_length : FnScope ["value"] ["value"] (defScope s_check_length) := ⟨rfl, rfl, rfl, by decide +kernel, rfl, by decide +kernel, by decide +kernel⟩
theorem sc_asked_of : FnScope ["reads", "length", "found", "beat"] ["reads", "length"] (defScope s_asked_of) := ⟨rfl, rfl, rfl, by decide +kernel, rfl, by decide +kernel, by decide +kernel⟩
theorem sc_asked : FnScope ["reads", "length"] ["reads", "length"] (defScope s_asked) := ⟨rfl, rfl, rfl, by decide +kernel, rfl, by decide +kernel, by decide +kernel⟩
theorem sc_check_writes : FnScope ["value"] ["value"] (defScope s_check_writes) := ⟨rfl, rfl, rfl, by decide +kernel, rfl, by decide +kernel, by decide +kernel⟩
theorem sc_waits_by : FnScope ["beat", "later", "writes", "length", "some", "write"] ["beat", "later", "writes", "length"] (defScope s_waits_by) := ⟨rfl, rfl, rfl, by decide +kernel, rfl, by decide +kernel, by decide +kernel⟩
theorem sc_least_of : FnScope ["reads", "writes", "length", "price", "many", "best", "at", "some", "to", "later", "cost", "row", "one"] ["reads", "writes", "length", "price"] (defScope s_least_of) := ⟨rfl, rfl, rfl, by decide +kernel, rfl, by decide +kernel, by decide +kernel⟩
theorem sc_least_cost : FnScope ["reads", "writes", "length", "price"] ["reads", "writes", "length", "price"] (defScope s_least_cost) := ⟨rfl, rfl, rfl, by decide +kernel, rfl, by decide +kernel, by decide +kernel⟩
theorem sc__law_of : FnScope ["pot", "some"] ["pot", "some"] (defScope s__law_of) := ⟨rfl, rfl, rfl, by decide +kernel, rfl, by decide +kernel, by decide +kernel⟩
theorem sc__law_day : FnScope ["reads", "writes", "length", "begun", "stale", "asks", "bad", "beat", "word"] ["reads", "writes", "length"] (defScope s__law_day) := ⟨rfl, rfl, rfl, by decide +kernel, rfl, by decide +kernel, by decide +kernel⟩
theorem sc_done_of : FnScope ["writes", "given", "length", "found", "write", "beat"] ["writes", "given", "length"] (defScope s_done_of) := ⟨rfl, rfl, rfl, by decide +kernel, rfl, by decide +kernel, by decide +kernel⟩
theorem sc_done : FnScope ["writes", "given", "length"] ["writes", "given", "length"] (defScope s_done) := ⟨rfl, rfl, rfl, by decide +kernel, rfl, by decide +kernel, by decide +kernel⟩
theorem sc_fresh_of : FnScope ["reads", "writes", "found", "last", "beat", "write"] ["reads", "writes"] (defScope s_fresh_of) := ⟨rfl, rfl, rfl, by decide +kernel, rfl, by decide +kernel, by decide +kernel⟩
theorem sc_fewest_asked : FnScope ["reads", "writes"] ["reads", "writes"] (defScope s_fewest_asked) := ⟨rfl, rfl, rfl, by decide +kernel, rfl, by decide +kernel, by decide +kernel⟩
theorem sc_wrong_of : FnScope ["reads", "writes", "some", "found", "last", "beat", "write"] ["reads", "writes", "some"] (defScope s_wrong_of) := ⟨rfl, rfl, rfl, by decide +kernel, rfl, by decide +kernel, by decide +kernel⟩
theorem sc_lengths_right : FnScope ["reads", "writes", "steps", "found", "one", "rows", "at", "length", "last", "other", "more", "step"] ["reads", "writes"] (defScope s_lengths_right) := ⟨rfl, rfl, rfl, by decide +kernel, rfl, by decide +kernel, by decide +kernel⟩
theorem sc_wrong : FnScope ["reads", "writes", "length"] ["reads", "writes", "length"] (defScope s_wrong) := ⟨rfl, rfl, rfl, by decide +kernel, rfl, by decide +kernel, by decide +kernel⟩
theorem sc__law_waits : FnScope ["asks", "writes", "length", "found", "write", "ends", "one", "end"] ["asks", "writes", "length"] (defScope s__law_waits) := ⟨rfl, rfl, rfl, by decide +kernel, rfl, by decide +kernel, by decide +kernel⟩
theorem sc__law_least : FnScope ["reads", "writes", "length", "price", "found", "at", "costs", "to", "end", "some", "write"] ["reads", "writes", "length", "price"] (defScope s__law_least) := ⟨rfl, rfl, rfl, by decide +kernel, rfl, by decide +kernel, by decide +kernel⟩
theorem sc__law_cost : FnScope ["reads", "writes", "length", "price", "asks", "beat", "one"] ["reads", "writes", "length", "price", "asks"] (defScope s__law_cost) := ⟨rfl, rfl, rfl, by decide +kernel, rfl, by decide +kernel, by decide +kernel⟩
theorem sc_cost_of : FnScope ["reads", "writes", "length", "price", "some", "last", "total", "at", "beat", "later"] ["reads", "writes", "length", "price", "some"] (defScope s_cost_of) := ⟨rfl, rfl, rfl, by decide +kernel, rfl, by decide +kernel, by decide +kernel⟩
theorem sc_shows_cost : FnScope ["reads", "writes", "length", "price", "value", "due", "one"] ["reads", "writes", "length", "price", "value"] (defScope s_shows_cost) := ⟨rfl, rfl, rfl, by decide +kernel, rfl, by decide +kernel, by decide +kernel⟩
theorem sc__law_right : FnScope ["pot", "wide", "reads", "writes", "length", "price", "asks", "bad", "due", "cost", "row", "some", "at", "value", "is_row", "is_so", "few", "open_to", "beat", "good", "spans", "told", "last", "lap", "write", "wait", "one", "least", "most"] ["pot"] (defScope s__law_right) := ⟨rfl, rfl, rfl, by decide +kernel, rfl, by decide +kernel, by decide +kernel⟩
theorem sc_law : FnScope ["script", "place", "pot", "step", "many", "even", "lap", "at"] ["script"] (defScope s_law) := ⟨rfl, rfl, rfl, by decide +kernel, rfl, by decide +kernel, by decide +kernel⟩
/-! ### the readings -/
def B__law_places : M Out := (retM .dat (fz (lrngM (ap2 max2 (ret (.int 1)) (ap2 min2 (gv 1) (slen 0))))))
def D__law_places : Den := den false 2 B__law_places
def B__law_pot : M Out := (seqM (stM 2 .dat (ifD (tbin ltB (gv 1) (slen 0)) (six 0 (gv 1)) (frzV (bin addV (frzV (bin addV (bin modI (ap1 sumD (fz (ssl 0 (ret none) (intO (ret (.int 1)))))) (ret (.int 1000003))) (frzV (bin mulV (ret (.int 11977)) (gv 1))))) (ret (.int 509)))))) (seqM (stM 3 .dat (frzV (bin mulV (bin modI (ap1 intD (ap1 absD (gv 2))) (bin powI (bin powI (ret (.int 10)) (ret (.int 60))) (ret (.int 5)))) (ap1 intD (bin (bD geB) (ap1 absD (gv 2)) (bin powI (ret (.int 10)) (ret (.int 18)))))))) (seqM (stM 4 .dat (bin modI (ap1 intD (gv 2)) (ret (.int 2305843009213693951)))) (retM .own (mkLst (consA (gv 3) (consA (bin modI (ap1 intD (frzV (bin addV (frzV (bin addV (frzV (bin mulV (gv 4) (ret (.int 99907)))) (frzV (bin mulV (frzV (bin mulV (ret (.int 16535)) (gv 1))) (gv 1))))) (ret (.int 916))))) (ret (.int 2305843009213693921))) (consA (ret (.int 0)) nilA))))))))
def D__law_pot : Den := den false 5 B__law_pot
def B__law_take : M Out := (seqM (iteM (tbin gtB (oix 0 (ret (.int 0))) (ret (.int 0))) (seqM (stM 2 .dat (bin modI (ap1 intD (oix 0 (ret (.int 0)))) (gv 1))) (seqM (asgM (gOix 0 (ret (.int 0))) (bin fdivI (oix 0 (ret (.int 0))) (gv 1))) (retM .dat (gv 2)))) nxt) (seqM (asgM (gOix 0 (ret (.int 2))) (frzV (bin addV (oix 0 (ret (.int 2))) (ret (.int 1))))) (seqM (stM 3 .dat (bin ixD (fz (mkLst (consA (ret (.int 2147483647)) (consA (ret (.int 2147483629)) (consA (ret (.int 2147483587)) (consA (ret (.int 2147483579)) (consA (ret (.int 2147483563)) nilA))))))) (bin modI (ap1 intD (oix 0 (ret (.int 2)))) (ret (.int 5))))) (seqM (stM 4 .dat (bin modI (ap1 intD (bin powI (ap1 intD (frzV (bin addV (frzV (bin addV (oix 0 (ret (.int 1))) (frzV (bin mulV (frzV (bin mulV (ret (.int 96436)) (oix 0 (ret (.int 2))))) (oix 0 (ret (.int 2))))))) (ret (.int 716))))) (ret (.int 3)))) (gv 3))) (seqM (stM 4 .dat (bin modI (ap1 intD (frzV (bin mulV (gv 4) (frzV (bin addV (bin modI (ap1 intD (gv 4)) (ret (.int 10259))) (frzV (bin mulV (ret (.int 122)) (oix 0 (ret (.int 2)))))))))) (ret (.int 2305843009213693907)))) (retM .dat (bin modI (ap1 intD (bin fdivI (gv 4) (ret (.int 152)))) (gv 1))))))))
def D__law_take : Den := den true 5 B__law_take
def B_is_rising : M Out := (retM .dat (ap1 allD (fz (lcM (zipM (gv 0) (frzV (slM (gv 0) (intO (ret (.int 1))) (ret none)))) (gTupM 2 (gConsM (setD 1) (gConsM (setD 2) gNilM))) yesT (bin (bD ltB) (gv 1) (gv 2)) [1, 2]))))
def D_is_rising : Den := den false 3 B_is_rising
def B_is_tuple : M Out := (retM .dat (andD (isiM "tuple" (gv 0)) (chain leB leB (gv 1) (ap1 lenD (gv 0)) (gv 2))))
def D_is_tuple : Den := den false 3 B_is_tuple
def B_is_whole : M Out := (retM .dat (andD (isiM "int" (gv 0)) (notD (isiM "bool" (gv 0)))))
def D_is_whole : Den := den false 1 B_is_whole
def B_is_integer : M Out := (retM .dat (andD (frzV (callN 1 D_is_whole (consR .dat (gv 0) (ret [])))) (chain leB leB (gv 1) (gv 0) (gv 2))))
def D_is_integer : Den := den false 3 B_is_integer
def B_is_beats : M Out := (seqM (iteM (orT (notT (bnd (frzV (callN 3 D_is_tuple (consR .dat (gv 0) (consR .dat (ret (.int 0)) (consR .dat (ret (.int 30)) (ret [])))))) boolOf)) (notT (bnd (ap1 allD (fz (lcM (itM (gv 0)) (setD 1) yesT (frzV (callN 3 D_is_integer (consR .dat (gv 1) (consR .dat (ret (.int 0)) (consR .dat (ret (.int 1000000)) (ret [])))))) [1]))) boolOf))) (retM .dat (ret (.bool false))) nxt) (retM .dat (frzV (callN 1 D_is_rising (consR .dat (gv 0) (ret []))))))
def D_is_beats : Den := den false 2 B_is_beats
def B_check_reads : M Out := (iteM (notT (bnd (frzV (callN 1 D_is_beats (consR .dat (gv 0) (ret [])))) boolOf)) stuck nxt)
def D_check_reads : Den := den false 1 B_check_reads
def B_check_length : M Out := (iteM (notT (bnd (frzV (callN 3 D_is_integer (consR .dat (gv 0) (consR .dat (ret (.int 1)) (consR .dat (ret (.int 1000000)) (ret [])))))) boolOf)) stuck nxt)
def D_check_length : Den := den false 1 B_check_length
def B_asked_of : M Out := (seqM (stM 2 .own (mkLst nilA)) (seqM (bnd (itM (gv 0)) (forM (setD 3) (iteM (orT (tocmp eqB 2 (fz (mkLst nilA))) (tbin geB (gv 3) (frzV (bin addV (oix 2 (una negI (ret (.int 1)))) (gv 1))))) (bnd (appM 2 (gv 3)) fun _ => nxt) nxt))) (seqM (frzM 2) (retM .dat (ap1 tupleD (gv 2))))))
def D_asked_of : Den := den false 4 B_asked_of
def B_asked : M Out := (seqM (bnd (callN 1 D_check_reads (consR .dat (gv 0) (ret []))) fun _ => nxt) (seqM (bnd (callN 1 D_check_length (consR .dat (gv 1) (ret []))) fun _ => nxt) (retM .dat (frzV (callN 2 D_asked_of (consR .dat (gv 0) (consR .dat (gv 1) (ret []))))))))
def D_asked : Den := den false 2 B_asked
def B_check_writes : M Out := (iteM (notT (bnd (frzV (callN 1 D_is_beats (consR .dat (gv 0) (ret [])))) boolOf)) stuck nxt)
def D_check_writes : Den := den false 1 B_check_writes
def B_waits_by : M Out := (seqM (stM 4 .own (lcM (itM (gv 2)) (setD 5) (andT (tchain leB ltB (gv 0) (gv 5) (frzV (bin addV (gv 0) (gv 3)))) (orT (tbin isB (gv 1) (ret .none)) (tbin ltB (gv 5) (gv 1)))) (gv 5) [5])) (seqM (frzM 4) (retM .dat (ap1 sumD (fz (lcM (itM (gv 4)) (setD 5) yesT (bin subI (frzV (bin addV (gv 0) (gv 3))) (gv 5)) [5]))))))
def D_waits_by : Den := den false 6 B_waits_by
def B_least_of : M Out := (seqM (stM 4 .dat (ap1 lenD (gv 0))) (seqM (stM 5 .own (dnew1 (gv 4) (mkTup (consA (ret (.int 0)) (consA (mkTup nilA) nilA))))) (seqM (bnd (rngM3 (bin subI (gv 4) (ret (.int 1))) (una negI (ret (.int 1))) (una negI (ret (.int 1)))) (forM (setD 6) (seqM (stM 7 .own (mkLst nilA)) (seqM (bnd (rngM2 (frzV (bin addV (gv 6) (ret (.int 1)))) (frzV (bin addV (gv 4) (ret (.int 1))))) (forM (setD 8) (iteM (bnd (ap1 allD (fz (lcM (rngM2 (frzV (bin addV (gv 6) (ret (.int 1)))) (gv 8)) (setD 12) yesT (bin (bD ltB) (bin ixD (gv 0) (gv 12)) (frzV (bin addV (bin ixD (gv 0) (gv 6)) (gv 2)))) [12]))) boolOf) (seqM (stM 9 .dat (ifD (tbin ltB (gv 8) (gv 4)) (bin ixD (gv 0) (gv 8)) (ret .none))) (seqM (asgM (gTupM 2 (gConsM (setD 10) (gConsM (setD 11) gNilM))) (odget 5 (gv 8))) (bnd (appM 7 (mkTup (consA (frzV (bin addV (frzV (bin addV (ret (.int 1)) (frzV (bin mulV (gv 3) (frzV (callN 4 D_waits_by (consR .dat (bin ixD (gv 0) (gv 6)) (consR .dat (gv 9) (consR .dat (gv 1) (consR .dat (gv 2) (ret []))))))))))) (gv 10))) (consA (mkTup (consA (bin ixD (gv 0) (gv 6)) (starA (gv 11) nilA))) nilA)))) fun _ => nxt))) nxt))) (seqM (frzM 7) (odput 5 (gv 6) (ap1 (mmO minL) (gv 7)))))))) (retM .dat (odget 5 (ret (.int 0)))))))
def D_least_of : Den := den false 13 B_least_of
def B_least_cost : M Out := (seqM (bnd (callN 1 D_check_reads (consR .dat (gv 0) (ret []))) fun _ => nxt) (seqM (bnd (callN 1 D_check_writes (consR .dat (gv 1) (ret []))) fun _ => nxt) (seqM (bnd (callN 1 D_check_length (consR .dat (gv 2) (ret []))) fun _ => nxt) (seqM (iteM (notT (bnd (frzV (callN 3 D_is_integer (consR .dat (gv 3) (consR .dat (ret (.int 0)) (consR .dat (ret (.int 1000000)) (ret [])))))) boolOf)) stuck nxt) (retM .dat (frzV (callN 4 D_least_of (consR .dat (gv 0) (consR .dat (gv 1) (consR .dat (gv 2) (consR .dat (gv 3) (ret []))))))))))))
def D_least_cost : Den := den false 4 B_least_cost
def B__law_of : M Out := (retM .dat (bin ixD (gv 1) (frzV (callIO 0 2 D__law_take (consR .dat (ap1 lenD (gv 1)) (ret []))))))
def D__law_of : Den := den true 2 B__law_of
def B__law_day : M Out := (seqM (parM [3, 4, 5, 6] (consR .dat (ret .none) (consR .dat (ret (.bool false)) (consR .own (mkLst nilA) (consR .own (mkLst nilA) (ret [])))))) (seqM (bnd (itM (fz (sortM (frzV (bin addV (fz (lcM (itM (gv 1)) (setD 7) yesT (mkTup (consA (gv 7) (consA (ret (.int 0)) nilA))) [7])) (fz (lcM (itM (gv 0)) (setD 7) yesT (mkTup (consA (gv 7) (consA (ret (.int 1)) nilA))) [7]))))))) (forM (gTupM 2 (gConsM (setD 7) (gConsM (setD 8) gNilM))) (iteM (tbin eqB (gv 8) (ret (.int 0))) (stM 4 .dat (ret (.bool true))) (seqM (iteM (orT (tbin isB (gv 3) (ret .none)) (tbin geB (bin subI (gv 7) (gv 3)) (gv 2))) (seqM (parM [3, 4] (consR .dat (gv 7) (consR .dat (ret (.bool false)) (ret [])))) (bnd (appM 5 (gv 7)) fun _ => nxt)) nxt) (bnd (extM 6 (anyV .own (ifD (bnd (gv 4) boolOf) (mkLst (consA (gv 7) nilA)) (mkLst nilA)))) fun _ => nxt))))) (seqM (frzM 5) (seqM (frzM 6) (retM .dat (mkTup (consA (ap1 tupleD (gv 5)) (consA (ap1 tupleD (gv 6)) nilA))))))))
def D__law_day : Den := den false 9 B__law_day
def B_done_of : M Out := (seqM (stM 3 .own (mkLst nilA)) (seqM (bnd (itM (gv 0)) (forM (setD 4) (bnd (appM 3 (ap1 (mmO maxL) (fz (mkLst (consA (gv 4) (starA (fz (lcM (itM (gv 1)) (setD 5) (tbin leB (gv 5) (gv 4)) (frzV (bin addV (gv 5) (gv 2))) [5])) nilA)))))) fun _ => nxt))) (seqM (frzM 3) (retM .dat (ap1 tupleD (gv 3))))))
def D_done_of : Den := den false 6 B_done_of
def B_done : M Out := (seqM (bnd (callN 1 D_check_writes (consR .dat (gv 0) (ret []))) fun _ => nxt) (seqM (bnd (callN 1 D_check_reads (consR .dat (gv 1) (ret []))) fun _ => nxt) (seqM (bnd (callN 1 D_check_length (consR .dat (gv 2) (ret []))) fun _ => nxt) (retM .dat (frzV (callN 3 D_done_of (consR .dat (gv 0) (consR .dat (gv 1) (consR .dat (gv 2) (ret []))))))))))
def D_done : Den := den false 3 B_done
def B_fresh_of : M Out := (seqM (parM [2, 3] (consR .own (mkLst nilA) (consR .dat (ret .none) (ret [])))) (seqM (bnd (itM (gv 0)) (forM (setD 4) (seqM (iteM (orT (tbin isB (gv 3) (ret .none)) (bnd (ap1 anyD (fz (lcM (itM (gv 1)) (setD 5) yesT (chain ltB leB (gv 3) (gv 5) (gv 4)) [5]))) boolOf)) (bnd (appM 2 (gv 4)) fun _ => nxt) nxt) (stM 3 .dat (gv 4))))) (seqM (frzM 2) (retM .dat (ap1 tupleD (gv 2))))))
def D_fresh_of : Den := den false 6 B_fresh_of
def B_fewest_asked : M Out := (seqM (bnd (callN 1 D_check_reads (consR .dat (gv 0) (ret []))) fun _ => nxt) (seqM (bnd (callN 1 D_check_writes (consR .dat (gv 1) (ret []))) fun _ => nxt) (retM .dat (frzV (callN 2 D_fresh_of (consR .dat (gv 0) (consR .dat (gv 1) (ret []))))))))
def D_fewest_asked : Den := den false 2 B_fewest_asked
def B_wrong_of : M Out := (seqM (parM [3, 4] (consR .own (mkLst nilA) (consR .dat (ret .none) (ret [])))) (seqM (bnd (itM (gv 0)) (forM (setD 5) (seqM (stM 4 .dat (ifD (tbin inB (gv 5) (gv 2)) (gv 5) (gv 4))) (iteM (andT (tbin isNotB (gv 4) (ret .none)) (bnd (ap1 anyD (fz (lcM (itM (gv 1)) (setD 6) yesT (chain ltB leB (gv 4) (gv 6) (gv 5)) [6]))) boolOf)) (bnd (appM 3 (gv 5)) fun _ => nxt) nxt)))) (seqM (frzM 3) (retM .dat (ap1 tupleD (gv 3))))))
def D_wrong_of : Den := den false 7 B_wrong_of
def B_lengths_right : M Out := (seqM (bnd (callN 1 D_check_reads (consR .dat (gv 0) (ret []))) fun _ => nxt) (seqM (bnd (callN 1 D_check_writes (consR .dat (gv 1) (ret []))) fun _ => nxt) (seqM (parM [2, 3] (consR .own (dnew1 (ret (.int 1)) (ret (.bool true))) (consR .own (mkLst nilA) (ret [])))) (seqM (bnd (itM (gv 0)) (forM (setD 4) (bnd (updM 2 (dc2M (itM (gv 0)) (setD 9) yesT (itM (mkTup (consA (ret (.int 0)) (consA (ret (.int 1)) nilA)))) (setD 10) (tbin gtB (gv 9) (gv 4)) (frzV (bin addV (bin subI (gv 9) (gv 4)) (gv 10))) (ret (.bool true)) [9, 10] [10])) fun _ => nxt))) (seqM (frzM 2) (seqM (stM 5 .dat (fz (sortM (fz (lockM 2 (lcM (keysM 2) (setD 11) (tbin leB (gv 11) (ret (.int 1000000))) (gv 11) [11])))))) (seqM (bnd (enumM (gv 5)) (forM (gTupM 2 (gConsM (setD 6) (gConsM (setD 7) gNilM))) (seqM (stM 8 .dat (ifD (tbin ltB (frzV (bin addV (gv 6) (ret (.int 1)))) (ap1 lenD (gv 5))) (bin subI (bin ixD (gv 5) (frzV (bin addV (gv 6) (ret (.int 1))))) (ret (.int 1))) (ret .none))) (iteM (tbin eqB (frzV (callN 3 D_wrong_of (consR .dat (gv 0) (consR .dat (gv 1) (consR .dat (frzV (callN 2 D_asked_of (consR .dat (gv 0) (consR .dat (gv 7) (ret []))))) (ret [])))))) (mkTup nilA)) (iteM (andT (tocmp neB 3 (fz (mkLst nilA))) (andT (tbin isNotB (bin ixD (oix 3 (una negI (ret (.int 1)))) (ret (.int 1))) (ret .none)) (tbin eqB (frzV (bin addV (bin ixD (oix 3 (una negI (ret (.int 1)))) (ret (.int 1))) (ret (.int 1)))) (gv 7)))) (asgM (gOix 3 (una negI (ret (.int 1)))) (mkTup (consA (bin ixD (oix 3 (una negI (ret (.int 1)))) (ret (.int 0))) (consA (gv 8) nilA)))) (bnd (appM 3 (mkTup (consA (gv 7) (consA (gv 8) nilA)))) fun _ => nxt)) nxt)))) (seqM (frzM 3) (retM .dat (ap1 tupleD (gv 3)))))))))))
def D_lengths_right : Den := den false 12 B_lengths_right
def B_wrong : M Out := (seqM (bnd (callN 1 D_check_reads (consR .dat (gv 0) (ret []))) fun _ => nxt) (seqM (bnd (callN 1 D_check_writes (consR .dat (gv 1) (ret []))) fun _ => nxt) (seqM (bnd (callN 1 D_check_length (consR .dat (gv 2) (ret []))) fun _ => nxt) (retM .dat (frzV (callN 3 D_wrong_of (consR .dat (gv 0) (consR .dat (gv 1) (consR .dat (frzV (callN 2 D_asked_of (consR .dat (gv 0) (consR .dat (gv 2) (ret []))))) (ret []))))))))))
def D_wrong : Den := den false 3 B_wrong
def B__law_waits : M Out := (seqM (stM 3 .own (mkLst nilA)) (seqM (bnd (itM (gv 1)) (forM (setD 4) (seqM (stM 5 .own (lcM (itM (gv 0)) (setD 6) (tbin leB (gv 6) (gv 4)) (frzV (bin addV (gv 6) (gv 2))) [6])) (seqM (frzM 5) (bnd (appM 3 (ap1 (mmO maxL) (frzV (bin addV (fz (mkLst (consA (ret (.int 0)) nilA))) (fz (lcM (itM (gv 5)) (setD 7) yesT (bin subI (gv 7) (gv 4)) [7])))))) fun _ => nxt))))) (seqM (frzM 3) (retM .dat (gv 3)))))
def D__law_waits : Den := den false 8 B__law_waits
def B__law_least : M Out := (seqM (stM 4 .own (dnew1 (ap1 lenD (gv 0)) (ret (.int 0)))) (seqM (bnd (rngM3 (bin subI (ap1 lenD (gv 0)) (ret (.int 1))) (una negI (ret (.int 1))) (una negI (ret (.int 1)))) (forM (setD 5) (seqM (stM 6 .own (mkLst nilA)) (seqM (bnd (rngM2 (frzV (bin addV (gv 5) (ret (.int 1)))) (frzV (bin addV (ap1 lenD (gv 0)) (ret (.int 1))))) (forM (setD 7) (iteM (orT (tbin eqB (gv 7) (frzV (bin addV (gv 5) (ret (.int 1))))) (tbin ltB (bin ixD (gv 0) (bin subI (gv 7) (ret (.int 1)))) (frzV (bin addV (bin ixD (gv 0) (gv 5)) (gv 2))))) (seqM (stM 8 .dat (ifD (tbin ltB (gv 7) (ap1 lenD (gv 0))) (bin ixD (gv 0) (gv 7)) (ret .none))) (seqM (stM 9 .own (lcM (itM (gv 1)) (setD 10) (andT (tbin leB (bin ixD (gv 0) (gv 5)) (gv 10)) (orT (tbin isB (gv 8) (ret .none)) (tbin ltB (gv 10) (gv 8)))) (gv 10) [10])) (seqM (frzM 9) (bnd (appM 6 (frzV (bin addV (frzV (bin addV (ret (.int 1)) (frzV (bin mulV (gv 3) (ap1 sumD (frzV (callN 3 D__law_waits (consR .dat (fz (mkLst (consA (bin ixD (gv 0) (gv 5)) nilA))) (consR .dat (gv 9) (consR .dat (gv 2) (ret []))))))))))) (odget 4 (gv 7))))) fun _ => nxt)))) nxt))) (seqM (frzM 6) (odput 4 (gv 5) (ap1 (mmO minL) (gv 6)))))))) (retM .dat (odget 4 (ret (.int 0))))))
def D__law_least : Den := den false 11 B__law_least
def B__law_cost : M Out := (seqM (iteM (tbin neB (frzV (slM (gv 4) (ret none) (intO (ret (.int 1))))) (frzV (slM (gv 0) (ret none) (intO (ret (.int 1)))))) (retM .dat (ret .none)) nxt) (seqM (bnd (itM (gv 0)) (forM (setD 5) (iteM (tbin geB (bin subI (gv 5) (ap1 (mmO maxL) (fz (lcM (itM (gv 4)) (setD 6) (tbin leB (gv 6) (gv 5)) (gv 6) [6])))) (gv 2)) (retM .dat (ret .none)) nxt))) (retM .dat (frzV (bin addV (ap1 lenD (gv 4)) (frzV (bin mulV (gv 3) (ap1 sumD (frzV (callN 3 D__law_waits (consR .dat (gv 4) (consR .dat (gv 1) (consR .dat (gv 2) (ret []))))))))))))))
def D__law_cost : Den := den false 7 B__law_cost
def B_cost_of : M Out := (seqM (parM [5, 6] (consR .dat (ret .none) (consR .dat (ret (.int 0)) (ret [])))) (seqM (bnd (enumM (gv 0)) (forM (gTupM 2 (gConsM (setD 7) (gConsM (setD 8) gNilM))) (iteM (tbin inB (gv 8) (gv 4)) (stM 5 .dat (gv 8)) (iteM (orT (tbin isB (gv 5) (ret .none)) (tbin geB (gv 8) (frzV (bin addV (gv 5) (gv 2))))) (retM .dat (ret .none)) nxt)))) (seqM (bnd (enumM (gv 4)) (forM (gTupM 2 (gConsM (setD 7) (gConsM (setD 8) gNilM))) (seqM (stM 9 .dat (ifD (tbin ltB (frzV (bin addV (gv 7) (ret (.int 1)))) (ap1 lenD (gv 4))) (bin ixD (gv 4) (frzV (bin addV (gv 7) (ret (.int 1))))) (ret .none))) (stM 6 .dat (frzV (bin addV (frzV (bin addV (gv 6) (ret (.int 1)))) (frzV (bin mulV (gv 3) (frzV (callN 4 D_waits_by (consR .dat (gv 8) (consR .dat (gv 9) (consR .dat (gv 1) (consR .dat (gv 2) (ret []))))))))))))))) (retM .dat (gv 6)))))
def D_cost_of : Den := den false 10 B_cost_of
def B_shows_cost : M Out := (seqM (stM 5 .dat (frzV (callN 4 D_least_cost (consR .dat (gv 0) (consR .dat (gv 1) (consR .dat (gv 2) (consR .dat (gv 3) (ret [])))))))) (seqM (iteM (orT (notT (bnd (frzV (callN 3 D_is_tuple (consR .dat (gv 4) (consR .dat (ret (.int 2)) (consR .dat (ret (.int 2)) (ret [])))))) boolOf)) (orT (notT (bnd (frzV (callN 3 D_is_integer (consR .dat (bin ixD (gv 4) (ret (.int 0))) (consR .dat (ret (.int 0)) (consR .dat (bin powI (ret (.int 10)) (ret (.int 14))) (ret [])))))) boolOf)) (notT (bnd (frzV (callN 1 D_is_beats (consR .dat (bin ixD (gv 4) (ret (.int 1))) (ret [])))) boolOf)))) (retM .dat (ret (.bool false))) nxt) (seqM (iteM (orT (tbin neB (bin ixD (gv 4) (ret (.int 0))) (bin ixD (gv 5) (ret (.int 0)))) (notT (bnd (ap1 allD (fz (lcM (itM (bin ixD (gv 4) (ret (.int 1)))) (setD 6) yesT (bin (bD inB) (gv 6) (gv 0)) [6]))) boolOf))) (retM .dat (ret (.bool false))) nxt) (retM .dat (bin (bD eqB) (frzV (callN 5 D_cost_of (consR .dat (gv 0) (consR .dat (gv 1) (consR .dat (gv 2) (consR .dat (gv 3) (consR .dat (bin ixD (gv 4) (ret (.int 1))) (ret [])))))))) (bin ixD (gv 5) (ret (.int 0))))))))
def D_shows_cost : Den := den false 7 B_shows_cost
def B__law_right : M Out := (seqM (stM 1 .dat (frzV (callIO 0 2 D__law_of (consR .dat (fz (mkLst (consA (ret (.int 60)) (consA (ret (.int 60)) (consA (bin powI (ret (.int 10)) (ret (.int 6))) nilA))))) (ret []))))) (seqM (stM 2 .dat (ap1 tupleD (fz (sortSetM (fz (lcM (rngM1 (frzV (callIO 0 2 D__law_take (consR .dat (ret (.int 31)) (ret []))))) (setD 23) yesT (frzV (callIO 0 2 D__law_take (consR .dat (gv 1) (ret [])))) [23])))))) (seqM (stM 3 .dat (ap1 tupleD (fz (sortSetM (fz (lcM (rngM1 (frzV (callIO 0 2 D__law_take (consR .dat (ret (.int 31)) (ret []))))) (setD 23) yesT (frzV (callIO 0 2 D__law_take (consR .dat (gv 1) (ret [])))) [23])))))) (seqM (parM [4, 5] (consR .dat (frzV (bin addV (ret (.int 1)) (frzV (callIO 0 2 D__law_take (consR .dat (bin fdivI (gv 1) (ret (.int 3))) (ret [])))))) (consR .dat (frzV (callIO 0 2 D__law_take (consR .dat (frzV (callIO 0 2 D__law_of (consR .dat (fz (mkLst (consA (ret (.int 2)) (consA (ret (.int 50)) nilA)))) (ret [])))) (ret [])))) (ret [])))) (seqM (asgM (gTupM 2 (gConsM (setD 6) (gConsM (setD 7) gNilM))) (frzV (callN 3 D__law_day (consR .dat (gv 2) (consR .dat (gv 3) (consR .dat (gv 4) (ret []))))))) (seqM (iteM (orT (tbin neB (frzV (callN 2 D_asked (consR .dat (gv 2) (consR .dat (gv 4) (ret []))))) (gv 6)) (tbin neB (frzV (callN 3 D_wrong (consR .dat (gv 2) (consR .dat (gv 3) (consR .dat (gv 4) (ret [])))))) (gv 7))) (retM .dat (ret (.bool false))) nxt) (seqM (stM 8 .dat (ap1 tupleD (fz (lcM (zipM (gv 3) (frzV (callN 3 D__law_waits (consR .dat (gv 2) (consR .dat (gv 3) (consR .dat (gv 4) (ret []))))))) (gTupM 2 (gConsM (setD 24) (gConsM (setD 25) gNilM))) yesT (frzV (bin addV (gv 24) (gv 25))) [24, 25])))) (seqM (iteM (tbin neB (frzV (callN 3 D_done (consR .dat (gv 3) (consR .dat (gv 2) (consR .dat (gv 4) (ret [])))))) (gv 8)) (retM .dat (ret (.bool false))) nxt) (seqM (iteM (tbin neB (gv 2) (mkTup nilA)) (seqM (asgM (gTupM 2 (gConsM (setD 9) (gConsM (setD 10) gNilM))) (frzV (callN 4 D_least_cost (consR .dat (gv 2) (consR .dat (gv 3) (consR .dat (gv 4) (consR .dat (gv 5) (ret [])))))))) (seqM (iteM (orT (tbin neB (gv 9) (frzV (callN 4 D__law_least (consR .dat (gv 2) (consR .dat (gv 3) (consR .dat (gv 4) (consR .dat (gv 5) (ret [])))))))) (tbin neB (frzV (callN 5 D__law_cost (consR .dat (gv 2) (consR .dat (gv 3) (consR .dat (gv 4) (consR .dat (gv 5) (consR .dat (gv 10) (ret [])))))))) (gv 9))) (retM .dat (ret (.bool false))) nxt) (seqM (stM 11 .own (mkLst (consA (mkTup (consA (gv 9) (consA (gv 10) nilA))) (consA (mkTup (consA (frzV (bin addV (gv 9) (ret (.int 1)))) (consA (gv 10) nilA))) (consA (mkTup (consA (gv 9) (consA (frzV (slM (gv 10) (intO (ret (.int 1))) (ret none))) nilA))) (consA (mkTup (consA (gv 9) (consA (bin stepD (gv 10) (una negI (ret (.int 1)))) nilA))) (consA (mkTup (consA (gv 9) (consA (gv 2) nilA))) (consA (mkTup (consA (gv 9) (consA (gv 6) nilA))) nilA)))))))) (seqM (stM 12 .dat (frzV (callIO 0 2 D__law_take (consR .dat (ap1 lenD (gv 2)) (ret []))))) (seqM (bnd (appM 11 (mkTup (consA (gv 9) (consA (ap1 tupleD (fz (sortSetM (frzV (bin addV (gv 10) (mkTup (consA (bin ixD (gv 2) (gv 12)) nilA))))))) nilA)))) fun _ => nxt) (seqM (bnd (appM 11 (mkTup (consA (gv 9) (consA (ap1 tupleD (fz (lcM (itM (gv 10)) (setD 26) (tbin neB (gv 26) (bin ixD (gv 2) (gv 12))) (gv 26) [26]))) nilA)))) fun _ => nxt) (seqM (frzM 11) (bnd (itM (gv 11)) (forM (setD 13) (seqM (stM 14 .dat (andD (bin (bD eqB) (fz (ap1 listD (bin ixD (gv 13) (ret (.int 1))))) (fz (sortSetM (bin ixD (gv 13) (ret (.int 1)))))) (bin (bD eqB) (bin ixD (gv 13) (ret (.int 0))) (gv 9)))) (seqM (stM 15 .dat (andD (gv 14) (bin (bD eqB) (frzV (callN 5 D__law_cost (consR .dat (gv 2) (consR .dat (gv 3) (consR .dat (gv 4) (consR .dat (gv 5) (consR .dat (bin ixD (gv 13) (ret (.int 1))) (ret [])))))))) (gv 9)))) (iteM (tbin neB (ap1 reprB (frzV (callN 5 D_shows_cost (consR .dat (gv 2) (consR .dat (gv 3) (consR .dat (gv 4) (consR .dat (gv 5) (consR .dat (gv 13) (ret []))))))))) (ap1 reprB (gv 15))) (retM .dat (ret (.bool false))) nxt)))))))))))) nxt) (seqM (parM [16, 17] (consR .own (mkLst nilA) (consR .dat (ret .none) (ret [])))) (seqM (bnd (itM (gv 2)) (forM (setD 18) (iteM (orT (tbin isB (gv 17) (ret .none)) (bnd (ap1 anyD (fz (lcM (itM (gv 3)) (setD 24) yesT (chain ltB leB (gv 17) (gv 24) (gv 18)) [24]))) boolOf)) (seqM (bnd (appM 16 (gv 18)) fun _ => nxt) (stM 17 .dat (gv 18))) nxt))) (seqM (frzM 16) (seqM (iteM (tbin neB (frzV (callN 2 D_fewest_asked (consR .dat (gv 2) (consR .dat (gv 3) (ret []))))) (ap1 tupleD (gv 16))) (retM .dat (ret (.bool false))) nxt) (seqM (iteM (tbin eqB (gv 1) (ret (.int 60))) (seqM (stM 19 .own (lcM (rngM2 (ret (.int 1)) (ret (.int 70))) (setD 4) (tbin eqB (bin ixD (frzV (callN 3 D__law_day (consR .dat (gv 2) (consR .dat (gv 3) (consR .dat (gv 4) (ret [])))))) (ret (.int 1))) (mkTup nilA)) (gv 4) [4])) (seqM (frzM 19) (seqM (stM 20 .own (mkLst nilA)) (seqM (bnd (itM (gv 19)) (forM (setD 4) (iteM (andT (tocmp neB 20 (fz (mkLst nilA))) (tbin eqB (bin ixD (oix 20 (una negI (ret (.int 1)))) (ret (.int 1))) (bin subI (gv 4) (ret (.int 1))))) (asgM (gOix 20 (una negI (ret (.int 1)))) (mkTup (consA (bin ixD (oix 20 (una negI (ret (.int 1)))) (ret (.int 0))) (consA (gv 4) nilA)))) (bnd (appM 20 (mkTup (consA (gv 4) (consA (gv 4) nilA)))) fun _ => nxt)))) (seqM (stM 21 .dat (frzV (callN 2 D_lengths_right (consR .dat (gv 2) (consR .dat (gv 3) (ret [])))))) (seqM (stM 22 .own (lcM (itM (gv 21)) (gTupM 2 (gConsM (setD 27) (gConsM (setD 28) gNilM))) yesT (mkTup (consA (gv 27) (consA (ifD (tbin isB (gv 28) (ret .none)) (ret (.int 69)) (gv 28)) nilA))) [27, 28])) (seqM (frzM 22) (seqM (frzM 20) (iteM (orT (tbin neB (gv 22) (gv 20)) (bnd (ap1 anyD (fz (lcM (itM (frzV (slM (gv 21) (ret none) (intO (una negI (ret (.int 1))))))) (gTupM 2 (gConsM (setD 27) (gConsM (setD 28) gNilM))) yesT (bin (bD isB) (gv 28) (ret .none)) [27, 28]))) boolOf)) (retM .dat (ret (.bool false))) nxt))))))))) nxt) (retM .dat (ret (.bool true)))))))))))))))))
def D__law_right : Den := den true 29 B__law_right
def B_law : M Out := (seqM (bnd (itM (frzV (callN 2 D__law_places (consR id (gsV 0) (consR .dat (ret (.int 3)) (ret [])))))) (forM (setD 1) (seqM (stM 2 .own (ownV (callN 2 D__law_pot (consR id (gsV 0) (consR .dat (gv 1) (ret [])))))) (seqM (iteM (notT (bnd (ap1 allD (fz (lcM (rngM1 (ret (.int 2))) (setD 6) yesT (frzV (callIO 2 1 D__law_right (ret []))) [6]))) boolOf)) (retM .dat (ret (.bool false))) nxt) (seqM (parM [3, 4] (consR .dat (frzV (bin addV (ret (.int 1)) (frzV (callIO 2 2 D__law_take (consR .dat (ret (.int 9)) (ret [])))))) (consR .dat (frzV (bin addV (ret (.int 1)) (frzV (callIO 2 2 D__law_take (consR .dat (ret (.int 6)) (ret [])))))) (ret [])))) (seqM (stM 5 .dat (ap1 tupleD (fz (lcM (rngM1 (ret (.int 30))) (setD 7) yesT (frzV (bin mulV (gv 3) (gv 7))) [7])))) (seqM (iteM (orT (tbin neB (frzV (callN 2 D_asked (consR .dat (gv 5) (consR .dat (frzV (bin mulV (gv 3) (gv 4))) (ret []))))) (bin stepD (gv 5) (gv 4))) (tbin neB (bin ixD (frzV (callN 4 D_least_cost (consR .dat (gv 5) (consR .dat (mkTup nilA) (consR .dat (frzV (bin mulV (gv 3) (gv 4))) (consR .dat (ret (.int 5)) (ret []))))))) (ret (.int 0))) (bin fdivI (frzV (bin addV (ret (.int 29)) (gv 4))) (gv 4)))) (retM .dat (ret (.bool false))) nxt) (iteM (tbin neB (bin ixD (frzV (callN 4 D_least_cost (consR .dat (gv 5) (consR .dat (mkTup (consA (frzV (bin addV (frzV (bin mulV (gv 3) (ret (.int 29)))) (frzV (bin mulV (gv 3) (gv 4))))) nilA)) (consR .dat (frzV (bin mulV (gv 3) (gv 4))) (consR .dat (ret (.int 9)) (ret []))))))) (ret (.int 0))) (bin fdivI (frzV (bin addV (ret (.int 29)) (gv 4))) (gv 4))) (retM .dat (ret (.bool false))) nxt)))))))) (retM .dat (ret (.bool true))))
def D_law : Den := den false 8 B_law
/-! ### what the top has made -/
structure Tp (K : Fg) (mg : Str → Option Value) where
  f__law_places : Addr
  fd__law_places : FuncData
  F__law_places : Fun K "_law_places" "_law_places" s__law_places f__law_places fd__law_places
  g__law_places : mg "_law_places" = some (.ref f__law_places)
  b__law_places : Binds K fd__law_places ["script", "most"] []
  f__law_pot : Addr
  fd__law_pot : FuncData
  F__law_pot : Fun K "_law_pot" "_law_pot" s__law_pot f__law_pot fd__law_pot
  g__law_pot : mg "_law_pot" = some (.ref f__law_pot)
  b__law_pot : Binds K fd__law_pot ["script", "place"] []
  f__law_take : Addr
  fd__law_take : FuncData
  F__law_take : Fun K "_law_take" "_law_take" s__law_take f__law_take fd__law_take
  g__law_take : mg "_law_take" = some (.ref f__law_take)
  b__law_take : Binds K fd__law_take ["pot", "upto"] []
  f_is_rising : Addr
  fd_is_rising : FuncData
  F_is_rising : Fun K "is_rising" "is_rising" s_is_rising f_is_rising fd_is_rising
  g_is_rising : mg "is_rising" = some (.ref f_is_rising)
  b_is_rising : Binds K fd_is_rising ["values"] []
  f_is_tuple : Addr
  fd_is_tuple : FuncData
  F_is_tuple : Fun K "is_tuple" "is_tuple" s_is_tuple f_is_tuple fd_is_tuple
  g_is_tuple : mg "is_tuple" = some (.ref f_is_tuple)
  b_is_tuple : Binds K fd_is_tuple ["value", "least", "most"] []
  f_is_whole : Addr
  fd_is_whole : FuncData
  F_is_whole : Fun K "is_whole" "is_whole" s_is_whole f_is_whole fd_is_whole
  g_is_whole : mg "is_whole" = some (.ref f_is_whole)
  b_is_whole : Binds K fd_is_whole ["value"] []
  f_is_integer : Addr
  fd_is_integer : FuncData
  F_is_integer : Fun K "is_integer" "is_integer" s_is_integer f_is_integer fd_is_integer
  g_is_integer : mg "is_integer" = some (.ref f_is_integer)
  b_is_integer : Binds K fd_is_integer ["value", "low", "high"] []
  f_is_beats : Addr
  fd_is_beats : FuncData
  F_is_beats : Fun K "is_beats" "is_beats" s_is_beats f_is_beats fd_is_beats
  g_is_beats : mg "is_beats" = some (.ref f_is_beats)
  b_is_beats : Binds K fd_is_beats ["value"] []
  f_check_reads : Addr
  fd_check_reads : FuncData
  F_check_reads : Fun K "check_reads" "check_reads" s_check_reads f_check_reads fd_check_reads
  g_check_reads : mg "check_reads" = some (.ref f_check_reads)
  b_check_reads : Binds K fd_check_reads ["value"] []
  f_check_length : Addr
  fd_check_length : FuncData
  F_check_length : Fun K "check_length" "check_length" s_check_length f_check_length fd_check_length
  g_check_length : mg "check_length" = some (.ref f_check_length)
  b_check_length : Binds K fd_check_length ["value"] []
  f_asked_of : Addr
  fd_asked_of : FuncData
  F_asked_of : Fun K "asked_of" "asked_of" s_asked_of f_asked_of fd_asked_of
  g_asked_of : mg "asked_of" = some (.ref f_asked_of)
  b_asked_of : Binds K fd_asked_of ["reads", "length"] []
  f_asked : Addr
  fd_asked : FuncData
  F_asked : Fun K "asked" "asked" s_asked f_asked fd_asked
  g_asked : mg "asked" = some (.ref f_asked)
  b_asked : Binds K fd_asked ["reads", "length"] []
  f_check_writes : Addr
  fd_check_writes : FuncData
  F_check_writes : Fun K "check_writes" "check_writes" s_check_writes f_check_writes fd_check_writes
  g_check_writes : mg "check_writes" = some (.ref f_check_writes)
  b_check_writes : Binds K fd_check_writes ["value"] []
  f_waits_by : Addr
  fd_waits_by : FuncData
  F_waits_by : Fun K "waits_by" "waits_by" s_waits_by f_waits_by fd_waits_by
  g_waits_by : mg "waits_by" = some (.ref f_waits_by)
  b_waits_by : Binds K fd_waits_by ["beat", "later", "writes", "length"] []
  f_least_of : Addr
  fd_least_of : FuncData
  F_least_of : Fun K "least_of" "least_of" s_least_of f_least_of fd_least_of
  g_least_of : mg "least_of" = some (.ref f_least_of)
  b_least_of : Binds K fd_least_of ["reads", "writes", "length", "price"] []
  f_least_cost : Addr
  fd_least_cost : FuncData
  F_least_cost : Fun K "least_cost" "least_cost" s_least_cost f_least_cost fd_least_cost
  g_least_cost : mg "least_cost" = some (.ref f_least_cost)
  b_least_cost : Binds K fd_least_cost ["reads", "writes", "length", "price"] []
  f__law_of : Addr
  fd__law_of : FuncData
  F__law_of : Fun K "_law_of" "_law_of" s__law_of f__law_of fd__law_of
  g__law_of : mg "_law_of" = some (.ref f__law_of)
  b__law_of : Binds K fd__law_of ["pot", "some"] []
  f__law_day : Addr
  fd__law_day : FuncData
  F__law_day : Fun K "_law_day" "_law_day" s__law_day f__law_day fd__law_day
  g__law_day : mg "_law_day" = some (.ref f__law_day)
  b__law_day : Binds K fd__law_day ["reads", "writes", "length"] []
  f_done_of : Addr
  fd_done_of : FuncData
  F_done_of : Fun K "done_of" "done_of" s_done_of f_done_of fd_done_of
  g_done_of : mg "done_of" = some (.ref f_done_of)
  b_done_of : Binds K fd_done_of ["writes", "given", "length"] []
  f_done : Addr
  fd_done : FuncData
  F_done : Fun K "done" "done" s_done f_done fd_done
  g_done : mg "done" = some (.ref f_done)
  b_done : Binds K fd_done ["writes", "given", "length"] []
  f_fresh_of : Addr
  fd_fresh_of : FuncData
  F_fresh_of : Fun K "fresh_of" "fresh_of" s_fresh_of f_fresh_of fd_fresh_of
  g_fresh_of : mg "fresh_of" = some (.ref f_fresh_of)
  b_fresh_of : Binds K fd_fresh_of ["reads", "writes"] []
  f_fewest_asked : Addr
  fd_fewest_asked : FuncData
  F_fewest_asked : Fun K "fewest_asked" "fewest_asked" s_fewest_asked f_fewest_asked fd_fewest_asked
  g_fewest_asked : mg "fewest_asked" = some (.ref f_fewest_asked)
  b_fewest_asked : Binds K fd_fewest_asked ["reads", "writes"] []
  f_wrong_of : Addr
  fd_wrong_of : FuncData
  F_wrong_of : Fun K "wrong_of" "wrong_of" s_wrong_of f_wrong_of fd_wrong_of
  g_wrong_of : mg "wrong_of" = some (.ref f_wrong_of)
  b_wrong_of : Binds K fd_wrong_of ["reads", "writes", "some"] []
  f_lengths_right : Addr
  fd_lengths_right : FuncData
  F_lengths_right : Fun K "lengths_right" "lengths_right" s_lengths_right f_lengths_right fd_lengths_right
  g_lengths_right : mg "lengths_right" = some (.ref f_lengths_right)
  b_lengths_right : Binds K fd_lengths_right ["reads", "writes"] []
  f_wrong : Addr
  fd_wrong : FuncData
  F_wrong : Fun K "wrong" "wrong" s_wrong f_wrong fd_wrong
  g_wrong : mg "wrong" = some (.ref f_wrong)
  b_wrong : Binds K fd_wrong ["reads", "writes", "length"] []
  f__law_waits : Addr
  fd__law_waits : FuncData
  F__law_waits : Fun K "_law_waits" "_law_waits" s__law_waits f__law_waits fd__law_waits
  g__law_waits : mg "_law_waits" = some (.ref f__law_waits)
  b__law_waits : Binds K fd__law_waits ["asks", "writes", "length"] []
  f__law_least : Addr
  fd__law_least : FuncData
  F__law_least : Fun K "_law_least" "_law_least" s__law_least f__law_least fd__law_least
  g__law_least : mg "_law_least" = some (.ref f__law_least)
  b__law_least : Binds K fd__law_least ["reads", "writes", "length", "price"] []
  f__law_cost : Addr
  fd__law_cost : FuncData
  F__law_cost : Fun K "_law_cost" "_law_cost" s__law_cost f__law_cost fd__law_cost
  g__law_cost : mg "_law_cost" = some (.ref f__law_cost)
  b__law_cost : Binds K fd__law_cost ["reads", "writes", "length", "price", "asks"] []
  f_cost_of : Addr
  fd_cost_of : FuncData
  F_cost_of : Fun K "cost_of" "cost_of" s_cost_of f_cost_of fd_cost_of
  g_cost_of : mg "cost_of" = some (.ref f_cost_of)
  b_cost_of : Binds K fd_cost_of ["reads", "writes", "length", "price", "some"] []
  f_shows_cost : Addr
  fd_shows_cost : FuncData
  F_shows_cost : Fun K "shows_cost" "shows_cost" s_shows_cost f_shows_cost fd_shows_cost
  g_shows_cost : mg "shows_cost" = some (.ref f_shows_cost)
  b_shows_cost : Binds K fd_shows_cost ["reads", "writes", "length", "price", "value"] []
  f__law_right : Addr
  fd__law_right : FuncData
  F__law_right : Fun K "_law_right" "_law_right" s__law_right f__law_right fd__law_right
  g__law_right : mg "_law_right" = some (.ref f__law_right)
  b__law_right : Binds K fd__law_right ["pot"] []
  f_law : Addr
  fd_law : FuncData
  F_law : Fun K "law" "law" s_law f_law fd_law
  g_law : mg "law" = some (.ref f_law)
  b_law : Binds K fd_law ["script"] []
  v_MOST_READS : Value
  g_MOST_READS : mg "MOST_READS" = some v_MOST_READS
  r_MOST_READS : RelV (.int 30) v_MOST_READS
  v_MOST_BEAT : Value
  g_MOST_BEAT : mg "MOST_BEAT" = some v_MOST_BEAT
  r_MOST_BEAT : RelV (.int 1000000) v_MOST_BEAT
  v_PAIR : Value
  g_PAIR : mg "PAIR" = some v_PAIR
  r_PAIR : RelV (.int 2) v_PAIR
  n_abs : mg "abs" = none
  n_all : mg "all" = none
  n_any : mg "any" = none
  n_bool : mg "bool" = none
  n_enumerate : mg "enumerate" = none
  n_int : mg "int" = none
  n_isinstance : mg "isinstance" = none
  n_len : mg "len" = none
  n_list : mg "list" = none
  n_max : mg "max" = none
  n_min : mg "min" = none
  n_range : mg "range" = none
  n_repr : mg "repr" = none
  n_set : mg "set" = none
  n_sorted : mg "sorted" = none
  n_sum : mg "sum" = none
  n_tuple : mg "tuple" = none
  n_zip : mg "zip" = none
  bl : ∀ (s : Shared) (v : Value), BindsTo s fd_law ⟨[v], []⟩ [("script", v)]
section
variable {P : Program} {w : World} {K : Fg} {mg : Str → Option Value} {base : Heap}
theorem ok__law_places (T : Tp K mg) : FnOk P w K mg base CX0 1 T.f__law_places T.fd__law_places ["script", "most"] (spD K false 2 D__law_places) :=
  fn_d (N := ["script", "most"]) (ps := ["script", "most"]) false B__law_places T.F__law_places sc__law_places fun cdv A outer s H E hr => (db_one (ds_ret (tr := .dat) (de_fz (oe_listRange rfl rfl T.n_list rfl T.n_range (de_max2 rfl rfl T.n_max de_int (de_min2 rfl rfl T.n_min (de_var (pv 1)) (de_slen rfl T.n_len (pv 0))))))))
theorem ok__law_pot (T : Tp K mg) : FnOk P w K mg base CX0 1 T.f__law_pot T.fd__law_pot ["script", "place"] (spD K false 2 D__law_pot) :=
  fn_d (N := ["script", "place", "cell", "own", "small"]) (ps := ["script", "place"]) false B__law_pot T.F__law_pot sc__law_pot fun cdv A outer s H E hr => (db_cons (xs_set (tr := .dat) (i := 2) (fun h => ps_set (i := 2) sc__law_pot.nd rfl (.inl rfl) h) (xe_if (tr := .dat) (dt_cmp' (od_lt (Hu4 hr)) rfl (de_var (pv 1)) (de_slen rfl T.n_len (pv 0))) (de_six (pv 0) (de_var (pv 1))) (de_v (ve_add (de_v (ve_add (de_mod (de_sum rfl rfl T.n_sum (de_fz (oe_ssl (pv 0) do_none (do_some de_int)))) de_int) (de_v (ve_mul de_int (de_var (pv 1)))))) de_int)))) (db_cons (xs_set (tr := .dat) (i := 3) (fun h => ps_set (i := 3) sc__law_pot.nd rfl (.inl rfl) h) (de_v (ve_mul (de_mod (de_intc rfl T.n_int (de_abs rfl T.n_abs (de_var (pv 2)))) (de_pow (de_pow de_int de_int) de_int)) (de_intc rfl T.n_int (de_cmp (od_ge (Hu4 hr)) rfl (de_abs rfl T.n_abs (de_var (pv 2))) (de_pow de_int de_int)))))) (db_cons (xs_set (tr := .dat) (i := 4) (fun h => ps_set (i := 4) sc__law_pot.nd rfl (.inl rfl) h) (de_mod (de_intc rfl T.n_int (de_var (pv 2))) de_int)) (db_one (ds_ret (tr := .own) (oe_lst (aC (de_var (pv 3)) (aC (de_mod (de_intc rfl T.n_int (de_v (ve_add (de_v (ve_add (de_v (ve_mul (de_var (pv 4)) de_int)) (de_v (ve_mul (de_v (ve_mul de_int (de_var (pv 1)))) (de_var (pv 1)))))) de_int))) de_int) (aC de_int aN)))))))))
theorem ok__law_take (T : Tp K mg) : FnOk P w K mg base CX0 1 T.f__law_take T.fd__law_take ["pot", "upto"] (spD K true 2 D__law_take) :=
  fn_d (N := ["pot", "upto", "digit", "prime", "blend"]) (ps := ["pot", "upto"]) true B__law_take T.F__law_take sc__law_take fun cdv A outer s H E hr => (db_cons (ds_if (dt_cmp' (od_gt (Hu4 hr)) rfl (de_oix (pv 0) de_int) de_int) (db_cons (xs_set (tr := .dat) (i := 2) (fun h => ps_set (i := 2) sc__law_take.nd rfl (.inl rfl) h) (de_mod (de_intc rfl T.n_int (de_oix (pv 0) de_int)) (de_var (pv 1)))) (db_cons (ds_asg (fun h hg => ps_asg h hg) (de_fdiv (de_oix (pv 0) de_int) (de_var (pv 1))) (dg_oix (pv 0) de_int)) (db_one (ds_ret (tr := .dat) (de_var (pv 2)))))) db_nil) (db_cons (ds_asg (fun h hg => ps_asg h hg) (de_v (ve_add (de_oix (pv 0) de_int) de_int)) (dg_oix (pv 0) de_int)) (db_cons (xs_set (tr := .dat) (i := 3) (fun h => ps_set (i := 3) sc__law_take.nd rfl (.inl rfl) h) (de_ix (de_fz (oe_lst (aC de_int (aC de_int (aC de_int (aC de_int (aC de_int aN))))))) (de_mod (de_intc rfl T.n_int (de_oix (pv 0) de_int)) de_int))) (db_cons (xs_set (tr := .dat) (i := 4) (fun h => ps_set (i := 4) sc__law_take.nd rfl (.inl rfl) h) (de_mod (de_intc rfl T.n_int (de_pow (de_intc rfl T.n_int (de_v (ve_add (de_v (ve_add (de_oix (pv 0) de_int) (de_v (ve_mul (de_v (ve_mul de_int (de_oix (pv 0) de_int))) (de_oix (pv 0) de_int))))) de_int))) de_int)) (de_var (pv 3)))) (db_cons (xs_set (tr := .dat) (i := 4) (fun h => ps_set (i := 4) sc__law_take.nd rfl (.inl rfl) h) (de_mod (de_intc rfl T.n_int (de_v (ve_mul (de_var (pv 4)) (de_v (ve_add (de_mod (de_intc rfl T.n_int (de_var (pv 4))) de_int) (de_v (ve_mul de_int (de_oix (pv 0) de_int)))))))) de_int)) (db_one (ds_ret (tr := .dat) (de_mod (de_intc rfl T.n_int (de_fdiv (de_var (pv 4)) de_int)) (de_var (pv 1))))))))))
theorem ok_is_rising (T : Tp K mg) : FnOk P w K mg base CX0 1 T.f_is_rising T.fd_is_rising ["values"] (spD K false 1 D_is_rising) :=
  fn_d (N := ["values", "one", "other"]) (ps := ["values"]) false B_is_rising T.F_is_rising sc_is_rising fun cdv A outer s H E hr => (db_one (ds_ret (tr := .dat) (de_all rfl rfl T.n_all (de_fz (oe_lc (own := [("one", 1), ("other", 2)]) rfl sc_is_rising.nd (di_zip rfl T.n_zip (de_var (pv 0)) (de_v (ve_sl (de_var (pv 0)) (do_some de_int) do_none))) (blkOk_by (by kernel_rfl)) (fun _ _ _ _ _ => (dg_tup rfl (dgs_cons (dg_name (pg_name (i := 1) sc_is_rising.nd rfl (.inl rfl))) (dgs_cons (dg_name (pg_name (i := 2) sc_is_rising.nd rfl (.inl rfl))) dgs_nil)))) (fun _ _ _ _ _ => dts_nil) (fun _ _ _ _ _ => (de_cmp (od_lt (Hu4 hr)) rfl (de_var (pv 1)) (de_var (pv 2)))))))))
theorem ok_is_tuple (T : Tp K mg) : FnOk P w K mg base CX0 1 T.f_is_tuple T.fd_is_tuple ["value", "least", "most"] (spD K false 3 D_is_tuple) :=
  fn_d (N := ["value", "least", "most"]) (ps := ["value", "least", "most"]) false B_is_tuple T.F_is_tuple sc_is_tuple fun cdv A outer s H E hr => (db_one (ds_ret (tr := .dat) (de_and (de_isi tab_tuple rfl T.n_isinstance rfl T.n_tuple (by decide +kernel) (de_var (pv 0))) (de_one (de_chain (od_le (Hu4 hr)) (od_le (Hu4 hr)) (de_var (pv 1)) (de_len rfl T.n_len (de_var (pv 0))) (de_var (pv 2)))))))
theorem ok_is_whole (T : Tp K mg) : FnOk P w K mg base CX0 1 T.f_is_whole T.fd_is_whole ["value"] (spD K false 1 D_is_whole) :=
  fn_d (N := ["value"]) (ps := ["value"]) false B_is_whole T.F_is_whole sc_is_whole fun cdv A outer s H E hr => (db_one (ds_ret (tr := .dat) (de_and (de_isi tab_int rfl T.n_isinstance rfl T.n_int (by decide +kernel) (de_var (pv 0))) (de_one (de_not (de_isi tab_bool rfl T.n_isinstance rfl T.n_bool (by decide +kernel) (de_var (pv 0))))))))
theorem ok_is_integer (T : Tp K mg) : FnOk P w K mg base CX0 2 T.f_is_integer T.fd_is_integer ["value", "low", "high"] (spD K false 3 D_is_integer) :=
  fn_d (N := ["value", "low", "high"]) (ps := ["value", "low", "high"]) false B_is_integer T.F_is_integer sc_is_integer fun cdv A outer s H E hr => (db_one (ds_ret (tr := .dat) (de_and (de_v (ve_callN (ok_is_whole T) hr (by decide) T.g_is_whole T.F_is_whole.kp T.b_is_whole (dr_cons (tr := .dat) (de_var (pv 0)) dr_nil))) (de_one (de_chain (od_le (Hu4 hr)) (od_le (Hu4 hr)) (de_var (pv 1)) (de_var (pv 0)) (de_var (pv 2)))))))
theorem ok_is_beats (T : Tp K mg) : FnOk P w K mg base CX0 3 T.f_is_beats T.fd_is_beats ["value"] (spD K false 1 D_is_beats) :=
  fn_d (N := ["value", "one"]) (ps := ["value"]) false B_is_beats T.F_is_beats sc_is_beats fun cdv A outer s H E hr => (db_cons (ds_if (dt_w (dw_or (dt_not (dt_val (de_v (ve_callN (ok_is_tuple T) hr (by decide) T.g_is_tuple T.F_is_tuple.kp T.b_is_tuple (dr_cons (tr := .dat) (de_var (pv 0)) (dr_cons (tr := .dat) de_int (dr_cons (tr := .dat) (de_gi (i := 30) rfl T.g_MOST_READS T.r_MOST_READS) dr_nil))))))) (dw_or1 (dt_not (dt_val (de_all rfl rfl T.n_all (de_fz (oe_lc (own := [("one", 1)]) rfl sc_is_beats.nd (di_seq (de_var (pv 0))) (blkOk_by (by kernel_rfl)) (fun _ _ _ _ _ => (dg_name (pg_name (i := 1) sc_is_beats.nd rfl (.inl rfl)))) (fun _ _ _ _ _ => dts_nil) (fun _ _ _ _ _ => (de_v (ve_callN (ok_is_integer T) hr (by decide) T.g_is_integer T.F_is_integer.kp T.b_is_integer (dr_cons (tr := .dat) (de_var (pv 1)) (dr_cons (tr := .dat) de_int (dr_cons (tr := .dat) (de_gi (i := 1000000) rfl T.g_MOST_BEAT T.r_MOST_BEAT) dr_nil)))))))))))))) (db_one (ds_ret (tr := .dat) de_bl)) db_nil) (db_one (ds_ret (tr := .dat) (de_v (ve_callN (ok_is_rising T) hr (by decide) T.g_is_rising T.F_is_rising.kp T.b_is_rising (dr_cons (tr := .dat) (de_var (pv 0)) dr_nil))))))
theorem ok_check_reads (T : Tp K mg) : FnOk P w K mg base CX0 4 T.f_check_reads T.fd_check_reads ["value"] (spD K false 1 D_check_reads) :=
  fn_d (N := ["value"]) (ps := ["value"]) false B_check_reads T.F_check_reads sc_check_reads fun cdv A outer s H E hr => (db_one (ds_if (dt_not (dt_val (de_v (ve_callN (ok_is_beats T) hr (by decide) T.g_is_beats T.F_is_beats.kp T.b_is_beats (dr_cons (tr := .dat) (de_var (pv 0)) dr_nil))))) (db_one ds_no) db_nil))
theorem ok_check_length (T : Tp K mg) : FnOk P w K mg base CX0 3 T.f_check_length T.fd_check_length ["value"] (spD K false 1 D_check_length) :=
  fn_d (N := ["value"]) (ps := ["value"]) false B_check_length T.F_check_length sc_check_length fun cdv A outer s H E hr => (db_one (ds_if (dt_not (dt_val (de_v (ve_callN (ok_is_integer T) hr (by decide) T.g_is_integer T.F_is_integer.kp T.b_is_integer (dr_cons (tr := .dat) (de_var (pv 0)) (dr_cons (tr := .dat) de_int (dr_cons (tr := .dat) (de_gi (i := 1000000) rfl T.g_MOST_BEAT T.r_MOST_BEAT) dr_nil))))))) (db_one ds_no) db_nil))
theorem ok_asked_of (T : Tp K mg) : FnOk P w K mg base CX0 1 T.f_asked_of T.fd_asked_of ["reads", "length"] (spD K false 2 D_asked_of) :=
  fn_d (N := ["reads", "length", "found", "beat"]) (ps := ["reads", "length"]) false B_asked_of T.F_asked_of sc_asked_of fun cdv A outer s H E hr => (db_cons (xs_set (tr := .own) (i := 2) (fun h => ps_set (i := 2) sc_asked_of.nd rfl (.inl rfl) h) (oe_lst aN)) (db_cons (ds_for PassesOwn.never rfl (di_seq (de_var (pv 0))) (dg_name (pg_name (i := 3) sc_asked_of.nd rfl (.inl rfl))) (db_one (ds_if (dt_w (dw_or (dt_ocmp (od_eq (Hu4 hr)) rfl (pv 2) (de_fz (oe_lst aN))) (dw_or1 (dt_cmp' (od_ge (Hu4 hr)) rfl (de_var (pv 3)) (de_v (ve_add (de_oix (pv 2) (de_neg de_int)) (de_var (pv 1)))))))) (db_one (ds_expr (tr := .dat) (de_append (pv 2) (de_var (pv 3))))) db_nil))) (db_frz 2 (db_one (ds_ret (tr := .dat) (de_tuple rfl T.n_tuple (de_var (pv 2))))))))
theorem ok_asked (T : Tp K mg) : FnOk P w K mg base CX0 5 T.f_asked T.fd_asked ["reads", "length"] (spD K false 2 D_asked) :=
  fn_d (N := ["reads", "length"]) (ps := ["reads", "length"]) false B_asked T.F_asked sc_asked fun cdv A outer s H E hr => (db_cons (ds_expr (tr := id) (ve_callN (ok_check_reads T) hr (by decide) T.g_check_reads T.F_check_reads.kp T.b_check_reads (dr_cons (tr := .dat) (de_var (pv 0)) dr_nil))) (db_cons (ds_expr (tr := id) (ve_callN (ok_check_length T) hr (by decide) T.g_check_length T.F_check_length.kp T.b_check_length (dr_cons (tr := .dat) (de_var (pv 1)) dr_nil))) (db_one (ds_ret (tr := .dat) (de_v (ve_callN (ok_asked_of T) hr (by decide) T.g_asked_of T.F_asked_of.kp T.b_asked_of (dr_cons (tr := .dat) (de_var (pv 0)) (dr_cons (tr := .dat) (de_var (pv 1)) dr_nil))))))))
theorem ok_check_writes (T : Tp K mg) : FnOk P w K mg base CX0 4 T.f_check_writes T.fd_check_writes ["value"] (spD K false 1 D_check_writes) :=
  fn_d (N := ["value"]) (ps := ["value"]) false B_check_writes T.F_check_writes sc_check_writes fun cdv A outer s H E hr => (db_one (ds_if (dt_not (dt_val (de_v (ve_callN (ok_is_beats T) hr (by decide) T.g_is_beats T.F_is_beats.kp T.b_is_beats (dr_cons (tr := .dat) (de_var (pv 0)) dr_nil))))) (db_one ds_no) db_nil))
theorem ok_waits_by (T : Tp K mg) : FnOk P w K mg base CX0 1 T.f_waits_by T.fd_waits_by ["beat", "later", "writes", "length"] (spD K false 4 D_waits_by) :=
  fn_d (N := ["beat", "later", "writes", "length", "some", "write"]) (ps := ["beat", "later", "writes", "length"]) false B_waits_by T.F_waits_by sc_waits_by fun cdv A outer s H E hr => (db_cons (ds_setLc (i := 4) (own := [("write", 5)]) rfl sc_waits_by.nd rfl rfl (sw_true rfl rfl rfl rfl) (di_seq (de_var (pv 2))) (blkOk_by (by kernel_rfl)) (fun _ _ _ _ _ => (dg_name (pg_name (i := 5) sc_waits_by.nd rfl (.inl rfl)))) (fun _ _ _ _ _ => (dts_one (dt_w (dw_and (dt_chain (od_le (Hu4 hr)) (od_lt (Hu4 hr)) (de_var (pv 0)) (de_var (pv 5)) (de_v (ve_add (de_var (pv 0)) (de_var (pv 3))))) (dw_and1 (dt_w (dw_or (dt_cmp' (od_is) rfl (de_var (pv 1)) de_non) (dw_or1 (dt_cmp' (od_lt (Hu4 hr)) rfl (de_var (pv 5)) (de_var (pv 1))))))))))) (fun _ _ _ _ _ => (de_var (pv 5)))) (db_frz 4 (db_one (ds_ret (tr := .dat) (de_sum rfl rfl T.n_sum (de_fz (oe_lc (own := [("write", 5)]) rfl sc_waits_by.nd (di_seq (de_var (pv 4))) (blkOk_by (by kernel_rfl)) (fun _ _ _ _ _ => (dg_name (pg_name (i := 5) sc_waits_by.nd rfl (.inl rfl)))) (fun _ _ _ _ _ => dts_nil) (fun _ _ _ _ _ => (de_sub (de_v (ve_add (de_var (pv 0)) (de_var (pv 3)))) (de_var (pv 5)))))))))))
theorem ok_least_of (T : Tp K mg) : FnOk P w K mg base CX0 2 T.f_least_of T.fd_least_of ["reads", "writes", "length", "price"] (spD K false 4 D_least_of) :=
  fn_d (N := ["reads", "writes", "length", "price", "many", "best", "at", "some", "to", "later", "cost", "row", "one"]) (ps := ["reads", "writes", "length", "price"]) false B_least_of T.F_least_of sc_least_of fun cdv A outer s H E hr => (db_cons (xs_set (tr := .dat) (i := 4) (fun h => ps_set (i := 4) sc_least_of.nd rfl (.inl rfl) h) (de_len rfl T.n_len (de_var (pv 0)))) (db_cons (xs_set (tr := .own) (i := 5) (fun h => ps_set (i := 5) sc_least_of.nd rfl (.inl rfl) h) (oe_dnew1 (de_var (pv 4)) (de_tup (aC de_int (aC (de_tup aN) aN))))) (db_cons (ds_for PassesOwn.never rfl (di_range3 rfl T.n_range (de_sub (de_var (pv 4)) de_int) (de_neg de_int) (de_neg de_int)) (dg_name (pg_name (i := 6) sc_least_of.nd rfl (.inr rfl))) (db_cons (xs_set (tr := .own) (i := 7) (fun h => ps_set (i := 7) sc_least_of.nd rfl (.inl rfl) h) (oe_lst aN)) (db_cons (ds_for PassesOwn.never rfl (di_range2 rfl T.n_range (de_v (ve_add (de_var (pv 6)) de_int)) (de_v (ve_add (de_var (pv 4)) de_int))) (dg_name (pg_name (i := 8) sc_least_of.nd rfl (.inl rfl))) (db_one (ds_if (dt_val (de_all rfl rfl T.n_all (de_fz (oe_lc (own := [("one", 12)]) rfl sc_least_of.nd (di_range2 rfl T.n_range (de_v (ve_add (de_var (pv 6)) de_int)) (de_var (pv 8))) (blkOk_by (by kernel_rfl)) (fun _ _ _ _ _ => (dg_name (pg_name (i := 12) sc_least_of.nd rfl (.inl rfl)))) (fun _ _ _ _ _ => dts_nil) (fun _ _ _ _ _ => (de_cmp (od_lt (Hu4 hr)) rfl (de_ix (de_var (pv 0)) (de_var (pv 12))) (de_v (ve_add (de_ix (de_var (pv 0)) (de_var (pv 6))) (de_var (pv 2)))))))))) (db_cons (xs_set (tr := .dat) (i := 9) (fun h => ps_set (i := 9) sc_least_of.nd rfl (.inl rfl) h) (xe_if (tr := .dat) (dt_cmp' (od_lt (Hu4 hr)) rfl (de_var (pv 8)) (de_var (pv 4))) (de_ix (de_var (pv 0)) (de_var (pv 8))) de_non)) (db_cons (ds_asg (fun h hg => ps_asg h hg) (de_odget (Hu5 hr) (pv 5) (de_var (pv 8))) (dg_tup rfl (dgs_cons (dg_name (pg_name (i := 10) sc_least_of.nd rfl (.inl rfl))) (dgs_cons (dg_name (pg_name (i := 11) sc_least_of.nd rfl (.inl rfl))) dgs_nil)))) (db_one (ds_expr (tr := .dat) (de_append (pv 7) (de_tup (aC (de_v (ve_add (de_v (ve_add de_int (de_v (ve_mul (de_var (pv 3)) (de_v (ve_callN (ok_waits_by T) hr (by decide) T.g_waits_by T.F_waits_by.kp T.b_waits_by (dr_cons (tr := .dat) (de_ix (de_var (pv 0)) (de_var (pv 6))) (dr_cons (tr := .dat) (de_var (pv 9)) (dr_cons (tr := .dat) (de_var (pv 1)) (dr_cons (tr := .dat) (de_var (pv 2)) dr_nil)))))))))) (de_var (pv 10)))) (aC (de_tup (aC (de_ix (de_var (pv 0)) (de_var (pv 6))) (aS (de_var (pv 11)) aN))) aN)))))))) db_nil))) (db_frz 7 (db_one (ds_odput (Hu5 hr) (pv 5) (de_var (pv 6)) (de_minL rfl (Hu hr) rfl T.n_min (de_var (pv 7))))))))) (db_one (ds_ret (tr := .dat) (de_odget (Hu5 hr) (pv 5) de_int))))))
theorem ok_least_cost (T : Tp K mg) : FnOk P w K mg base CX0 5 T.f_least_cost T.fd_least_cost ["reads", "writes", "length", "price"] (spD K false 4 D_least_cost) :=
  fn_d (N := ["reads", "writes", "length", "price"]) (ps := ["reads", "writes", "length", "price"]) false B_least_cost T.F_least_cost sc_least_cost fun cdv A outer s H E hr => (db_cons (ds_expr (tr := id) (ve_callN (ok_check_reads T) hr (by decide) T.g_check_reads T.F_check_reads.kp T.b_check_reads (dr_cons (tr := .dat) (de_var (pv 0)) dr_nil))) (db_cons (ds_expr (tr := id) (ve_callN (ok_check_writes T) hr (by decide) T.g_check_writes T.F_check_writes.kp T.b_check_writes (dr_cons (tr := .dat) (de_var (pv 1)) dr_nil))) (db_cons (ds_expr (tr := id) (ve_callN (ok_check_length T) hr (by decide) T.g_check_length T.F_check_length.kp T.b_check_length (dr_cons (tr := .dat) (de_var (pv 2)) dr_nil))) (db_cons (ds_if (dt_not (dt_val (de_v (ve_callN (ok_is_integer T) hr (by decide) T.g_is_integer T.F_is_integer.kp T.b_is_integer (dr_cons (tr := .dat) (de_var (pv 3)) (dr_cons (tr := .dat) de_int (dr_cons (tr := .dat) (de_gi (i := 1000000) rfl T.g_MOST_BEAT T.r_MOST_BEAT) dr_nil))))))) (db_one ds_no) db_nil) (db_one (ds_ret (tr := .dat) (de_v (ve_callN (ok_least_of T) hr (by decide) T.g_least_of T.F_least_of.kp T.b_least_of (dr_cons (tr := .dat) (de_var (pv 0)) (dr_cons (tr := .dat) (de_var (pv 1)) (dr_cons (tr := .dat) (de_var (pv 2)) (dr_cons (tr := .dat) (de_var (pv 3)) dr_nil))))))))))))
theorem ok__law_of (T : Tp K mg) : FnOk P w K mg base CX0 2 T.f__law_of T.fd__law_of ["pot", "some"] (spD K true 2 D__law_of) :=
  fn_d (N := ["pot", "some"]) (ps := ["pot", "some"]) true B__law_of T.F__law_of sc__law_of fun cdv A outer s H E hr => (db_one (ds_ret (tr := .dat) (de_ix (de_var (pv 1)) (de_v (ve_callI (ok__law_take T) hr (by decide) T.g__law_take T.F__law_take.kp T.b__law_take (pv 0) (dr_cons (tr := .dat) (de_len rfl T.n_len (de_var (pv 1))) dr_nil))))))
theorem ok__law_day (T : Tp K mg) : FnOk P w K mg base CX0 1 T.f__law_day T.fd__law_day ["reads", "writes", "length"] (spD K false 3 D__law_day) :=
  fn_d (N := ["reads", "writes", "length", "begun", "stale", "asks", "bad", "beat", "word"]) (ps := ["reads", "writes", "length"]) false B__law_day T.F__law_day sc__law_day fun cdv A outer s H E hr => (db_cons (ds_parN (is := [3, 4, 5, 6]) (n := 4) (fun h => ps_asg (pe_tup h) (pg_tup rfl (pgs_cons (pg_name (i := 3) sc__law_day.nd rfl (.inl rfl)) (pgs_cons (pg_name (i := 4) sc__law_day.nd rfl (.inl rfl)) (pgs_cons (pg_name (i := 5) sc__law_day.nd rfl (.inl rfl)) (pgs_cons (pg_name (i := 6) sc__law_day.nd rfl (.inl rfl)) pgs_nil)))))) (dr_cons (tr := .dat) de_non (dr_cons (tr := .dat) de_bl (dr_cons (tr := .own) (oe_lst aN) (dr_cons (tr := .own) (oe_lst aN) dr_nil)))) rfl (by decide)) (db_cons (ds_for PassesOwn.never rfl (di_seq (de_fz (oe_sorted (Hu hr) rfl T.n_sorted (de_v (ve_add (de_fz (oe_lc (own := [("beat", 7)]) rfl sc__law_day.nd (di_seq (de_var (pv 1))) (blkOk_by (by kernel_rfl)) (fun _ _ _ _ _ => (dg_name (pg_name (i := 7) sc__law_day.nd rfl (.inl rfl)))) (fun _ _ _ _ _ => dts_nil) (fun _ _ _ _ _ => (de_tup (aC (de_var (pv 7)) (aC de_int aN)))))) (de_fz (oe_lc (own := [("beat", 7)]) rfl sc__law_day.nd (di_seq (de_var (pv 0))) (blkOk_by (by kernel_rfl)) (fun _ _ _ _ _ => (dg_name (pg_name (i := 7) sc__law_day.nd rfl (.inl rfl)))) (fun _ _ _ _ _ => dts_nil) (fun _ _ _ _ _ => (de_tup (aC (de_var (pv 7)) (aC de_int aN))))))))))) (dg_tup rfl (dgs_cons (dg_name (pg_name (i := 7) sc__law_day.nd rfl (.inl rfl))) (dgs_cons (dg_name (pg_name (i := 8) sc__law_day.nd rfl (.inl rfl))) dgs_nil))) (db_one (ds_if (dt_cmp' (od_eq (Hu4 hr)) rfl (de_var (pv 8)) de_int) (db_one (xs_set (tr := .dat) (i := 4) (fun h => ps_set (i := 4) sc__law_day.nd rfl (.inl rfl) h) de_bl)) (db_cons (ds_if (dt_w (dw_or (dt_cmp' (od_is) rfl (de_var (pv 3)) de_non) (dw_or1 (dt_cmp' (od_ge (Hu4 hr)) rfl (de_sub (de_var (pv 7)) (de_var (pv 3))) (de_var (pv 2)))))) (db_cons (ds_par2 (i := 3) (j := 4) (fun h => ps_par (i := 3) (j := 4) rfl sc__law_day.nd rfl rfl (by decide) rfl rfl h rfl) (dr_cons (tr := .dat) (de_var (pv 7)) (dr_cons (tr := .dat) de_bl dr_nil))) (db_one (ds_expr (tr := .dat) (de_append (pv 5) (de_var (pv 7)))))) db_nil) (db_one (ds_expr (tr := .dat) (de_extend (pv 6) (ve_of (xe_if (tr := .own) (dt_val (de_var (pv 4))) (oe_lst (aC (de_var (pv 7)) aN)) (oe_lst aN)))))))))) (db_frz 5 (db_frz 6 (db_one (ds_ret (tr := .dat) (de_tup (aC (de_tuple rfl T.n_tuple (de_var (pv 5))) (aC (de_tuple rfl T.n_tuple (de_var (pv 6))) aN)))))))))
theorem ok_done_of (T : Tp K mg) : FnOk P w K mg base CX0 1 T.f_done_of T.fd_done_of ["writes", "given", "length"] (spD K false 3 D_done_of) :=
  fn_d (N := ["writes", "given", "length", "found", "write", "beat"]) (ps := ["writes", "given", "length"]) false B_done_of T.F_done_of sc_done_of fun cdv A outer s H E hr => (db_cons (xs_set (tr := .own) (i := 3) (fun h => ps_set (i := 3) sc_done_of.nd rfl (.inl rfl) h) (oe_lst aN)) (db_cons (ds_for PassesOwn.never rfl (di_seq (de_var (pv 0))) (dg_name (pg_name (i := 4) sc_done_of.nd rfl (.inr rfl))) (db_one (ds_expr (tr := .dat) (de_append (pv 3) (de_maxL rfl (Hu hr) rfl T.n_max (de_fz (oe_lst (aC (de_var (pv 4)) (aS (de_fz (oe_lc (own := [("beat", 5)]) rfl sc_done_of.nd (di_seq (de_var (pv 1))) (blkOk_by (by kernel_rfl)) (fun _ _ _ _ _ => (dg_name (pg_name (i := 5) sc_done_of.nd rfl (.inl rfl)))) (fun _ _ _ _ _ => (dts_one (dt_cmp' (od_le (Hu4 hr)) rfl (de_var (pv 5)) (de_var (pv 4))))) (fun _ _ _ _ _ => (de_v (ve_add (de_var (pv 5)) (de_var (pv 2))))))) aN))))))))) (db_frz 3 (db_one (ds_ret (tr := .dat) (de_tuple rfl T.n_tuple (de_var (pv 3))))))))
theorem ok_done (T : Tp K mg) : FnOk P w K mg base CX0 5 T.f_done T.fd_done ["writes", "given", "length"] (spD K false 3 D_done) :=
  fn_d (N := ["writes", "given", "length"]) (ps := ["writes", "given", "length"]) false B_done T.F_done sc_done fun cdv A outer s H E hr => (db_cons (ds_expr (tr := id) (ve_callN (ok_check_writes T) hr (by decide) T.g_check_writes T.F_check_writes.kp T.b_check_writes (dr_cons (tr := .dat) (de_var (pv 0)) dr_nil))) (db_cons (ds_expr (tr := id) (ve_callN (ok_check_reads T) hr (by decide) T.g_check_reads T.F_check_reads.kp T.b_check_reads (dr_cons (tr := .dat) (de_var (pv 1)) dr_nil))) (db_cons (ds_expr (tr := id) (ve_callN (ok_check_length T) hr (by decide) T.g_check_length T.F_check_length.kp T.b_check_length (dr_cons (tr := .dat) (de_var (pv 2)) dr_nil))) (db_one (ds_ret (tr := .dat) (de_v (ve_callN (ok_done_of T) hr (by decide) T.g_done_of T.F_done_of.kp T.b_done_of (dr_cons (tr := .dat) (de_var (pv 0)) (dr_cons (tr := .dat) (de_var (pv 1)) (dr_cons (tr := .dat) (de_var (pv 2)) dr_nil))))))))))
theorem ok_fresh_of (T : Tp K mg) : FnOk P w K mg base CX0 1 T.f_fresh_of T.fd_fresh_of ["reads", "writes"] (spD K false 2 D_fresh_of) :=
  fn_d (N := ["reads", "writes", "found", "last", "beat", "write"]) (ps := ["reads", "writes"]) false B_fresh_of T.F_fresh_of sc_fresh_of fun cdv A outer s H E hr => (db_cons (ds_parN (is := [2, 3]) (n := 2) (fun h => ps_asg (pe_tup h) (pg_tup rfl (pgs_cons (pg_name (i := 2) sc_fresh_of.nd rfl (.inl rfl)) (pgs_cons (pg_name (i := 3) sc_fresh_of.nd rfl (.inr rfl)) pgs_nil)))) (dr_cons (tr := .own) (oe_lst aN) (dr_cons (tr := .dat) de_non dr_nil)) rfl (by decide)) (db_cons (ds_for PassesOwn.never rfl (di_seq (de_var (pv 0))) (dg_name (pg_name (i := 4) sc_fresh_of.nd rfl (.inr rfl))) (db_cons (ds_if (dt_w (dw_or (dt_cmp' (od_is) rfl (de_var (pv 3)) de_non) (dw_or1 (dt_val (de_any rfl rfl T.n_any (de_fz (oe_lc (own := [("write", 5)]) rfl sc_fresh_of.nd (di_seq (de_var (pv 1))) (blkOk_by (by kernel_rfl)) (fun _ _ _ _ _ => (dg_name (pg_name (i := 5) sc_fresh_of.nd rfl (.inl rfl)))) (fun _ _ _ _ _ => dts_nil) (fun _ _ _ _ _ => (de_chain (od_lt (Hu4 hr)) (od_le (Hu4 hr)) (de_var (pv 3)) (de_var (pv 5)) (de_var (pv 4))))))))))) (db_one (ds_expr (tr := .dat) (de_append (pv 2) (de_var (pv 4))))) db_nil) (db_one (xs_set (tr := .dat) (i := 3) (fun h => ps_set (i := 3) sc_fresh_of.nd rfl (.inr rfl) h) (de_var (pv 4)))))) (db_frz 2 (db_one (ds_ret (tr := .dat) (de_tuple rfl T.n_tuple (de_var (pv 2))))))))
theorem ok_fewest_asked (T : Tp K mg) : FnOk P w K mg base CX0 5 T.f_fewest_asked T.fd_fewest_asked ["reads", "writes"] (spD K false 2 D_fewest_asked) :=
  fn_d (N := ["reads", "writes"]) (ps := ["reads", "writes"]) false B_fewest_asked T.F_fewest_asked sc_fewest_asked fun cdv A outer s H E hr => (db_cons (ds_expr (tr := id) (ve_callN (ok_check_reads T) hr (by decide) T.g_check_reads T.F_check_reads.kp T.b_check_reads (dr_cons (tr := .dat) (de_var (pv 0)) dr_nil))) (db_cons (ds_expr (tr := id) (ve_callN (ok_check_writes T) hr (by decide) T.g_check_writes T.F_check_writes.kp T.b_check_writes (dr_cons (tr := .dat) (de_var (pv 1)) dr_nil))) (db_one (ds_ret (tr := .dat) (de_v (ve_callN (ok_fresh_of T) hr (by decide) T.g_fresh_of T.F_fresh_of.kp T.b_fresh_of (dr_cons (tr := .dat) (de_var (pv 0)) (dr_cons (tr := .dat) (de_var (pv 1)) dr_nil))))))))
theorem ok_wrong_of (T : Tp K mg) : FnOk P w K mg base CX0 1 T.f_wrong_of T.fd_wrong_of ["reads", "writes", "some"] (spD K false 3 D_wrong_of) :=
  fn_d (N := ["reads", "writes", "some", "found", "last", "beat", "write"]) (ps := ["reads", "writes", "some"]) false B_wrong_of T.F_wrong_of sc_wrong_of fun cdv A outer s H E hr => (db_cons (ds_parN (is := [3, 4]) (n := 2) (fun h => ps_asg (pe_tup h) (pg_tup rfl (pgs_cons (pg_name (i := 3) sc_wrong_of.nd rfl (.inl rfl)) (pgs_cons (pg_name (i := 4) sc_wrong_of.nd rfl (.inr rfl)) pgs_nil)))) (dr_cons (tr := .own) (oe_lst aN) (dr_cons (tr := .dat) de_non dr_nil)) rfl (by decide)) (db_cons (ds_for PassesOwn.never rfl (di_seq (de_var (pv 0))) (dg_name (pg_name (i := 5) sc_wrong_of.nd rfl (.inr rfl))) (db_cons (xs_set (tr := .dat) (i := 4) (fun h => ps_set (i := 4) sc_wrong_of.nd rfl (.inr rfl) h) (xe_if (tr := .dat) (dt_cmp' (od_in (Hu5 hr)) rfl (de_var (pv 5)) (de_var (pv 2))) (de_var (pv 5)) (de_var (pv 4)))) (db_one (ds_if (dt_w (dw_and (dt_cmp' (od_isNot) rfl (de_var (pv 4)) de_non) (dw_and1 (dt_val (de_any rfl rfl T.n_any (de_fz (oe_lc (own := [("write", 6)]) rfl sc_wrong_of.nd (di_seq (de_var (pv 1))) (blkOk_by (by kernel_rfl)) (fun _ _ _ _ _ => (dg_name (pg_name (i := 6) sc_wrong_of.nd rfl (.inl rfl)))) (fun _ _ _ _ _ => dts_nil) (fun _ _ _ _ _ => (de_chain (od_lt (Hu4 hr)) (od_le (Hu4 hr)) (de_var (pv 4)) (de_var (pv 6)) (de_var (pv 5))))))))))) (db_one (ds_expr (tr := .dat) (de_append (pv 3) (de_var (pv 5))))) db_nil)))) (db_frz 3 (db_one (ds_ret (tr := .dat) (de_tuple rfl T.n_tuple (de_var (pv 3))))))))
theorem ok_lengths_right (T : Tp K mg) : FnOk P w K mg base CX0 5 T.f_lengths_right T.fd_lengths_right ["reads", "writes"] (spD K false 2 D_lengths_right) :=
  fn_d (N := ["reads", "writes", "steps", "found", "one", "rows", "at", "length", "last", "other", "more", "step"]) (ps := ["reads", "writes"]) false B_lengths_right T.F_lengths_right sc_lengths_right fun cdv A outer s H E hr => (db_cons (ds_expr (tr := id) (ve_callN (ok_check_reads T) hr (by decide) T.g_check_reads T.F_check_reads.kp T.b_check_reads (dr_cons (tr := .dat) (de_var (pv 0)) dr_nil))) (db_cons (ds_expr (tr := id) (ve_callN (ok_check_writes T) hr (by decide) T.g_check_writes T.F_check_writes.kp T.b_check_writes (dr_cons (tr := .dat) (de_var (pv 1)) dr_nil))) (db_cons (ds_par2 (i := 2) (j := 3) (fun h => ps_par (i := 2) (j := 3) rfl sc_lengths_right.nd rfl rfl (by decide) rfl rfl h rfl) (dr_cons (tr := .own) (oe_dnew1 de_int de_bl) (dr_cons (tr := .own) (oe_lst aN) dr_nil))) (db_cons (ds_for PassesOwn.never rfl (di_seq (de_var (pv 0))) (dg_name (pg_name (i := 4) sc_lengths_right.nd rfl (.inr rfl))) (db_one (ds_expr (tr := .dat) (de_update (pv 2) (oe_dc2 (own := [("other", 9), ("more", 10)]) (vs1 := [10]) rfl sc_lengths_right.nd (di_seq (de_var (pv 0))) (blkOk_by (by kernel_rfl)) (by decide) (fun _ _ _ _ _ => (dg_name (pg_name (i := 9) sc_lengths_right.nd rfl (.inl rfl)))) (fun _ _ _ _ _ => dts_nil) (fun _ _ _ _ _ => (di_seq (de_tup (aC de_int (aC de_int aN))))) (fun _ _ _ _ _ => (dg_name (pg_name (i := 10) sc_lengths_right.nd rfl (.inl rfl)))) (fun _ _ _ _ _ => (dts_one (dt_cmp' (od_gt (Hu4 hr)) rfl (de_var (pv 9)) (de_var (pv 4))))) (fun _ _ _ _ _ => (de_v (ve_add (de_sub (de_var (pv 9)) (de_var (pv 4))) (de_var (pv 10))))) (fun _ _ _ _ _ => de_bl)))))) (db_frz 2 (db_cons (xs_set (tr := .dat) (i := 5) (fun h => ps_set (i := 5) sc_lengths_right.nd rfl (.inl rfl) h) (de_fz (oe_sorted (Hu hr) rfl T.n_sorted (de_fz (pe_lockM (i := 2) (oe_lc (own := [("step", 11)]) rfl sc_lengths_right.nd (di_keys (pv 2)) (blkOk_by (by kernel_rfl)) (fun _ _ _ _ _ => (dg_name (pg_name (i := 11) sc_lengths_right.nd rfl (.inl rfl)))) (fun _ _ _ _ _ => (dts_one (dt_cmp' (od_le (Hu4 hr)) rfl (de_var (pv 11)) (de_gi (i := 1000000) rfl T.g_MOST_BEAT T.r_MOST_BEAT)))) (fun _ _ _ _ _ => (de_var (pv 11))))))))) (db_cons (ds_for PassesOwn.never rfl (di_enum rfl T.n_enumerate (de_var (pv 5))) (dg_tup rfl (dgs_cons (dg_name (pg_name (i := 6) sc_lengths_right.nd rfl (.inl rfl))) (dgs_cons (dg_name (pg_name (i := 7) sc_lengths_right.nd rfl (.inl rfl))) dgs_nil))) (db_cons (xs_set (tr := .dat) (i := 8) (fun h => ps_set (i := 8) sc_lengths_right.nd rfl (.inl rfl) h) (xe_if (tr := .dat) (dt_cmp' (od_lt (Hu4 hr)) rfl (de_v (ve_add (de_var (pv 6)) de_int)) (de_len rfl T.n_len (de_var (pv 5)))) (de_sub (de_ix (de_var (pv 5)) (de_v (ve_add (de_var (pv 6)) de_int))) de_int) de_non)) (db_one (ds_if (dt_cmp' (od_eq (Hu4 hr)) rfl (de_v (ve_callN (ok_wrong_of T) hr (by decide) T.g_wrong_of T.F_wrong_of.kp T.b_wrong_of (dr_cons (tr := .dat) (de_var (pv 0)) (dr_cons (tr := .dat) (de_var (pv 1)) (dr_cons (tr := .dat) (de_v (ve_callN (ok_asked_of T) hr (by decide) T.g_asked_of T.F_asked_of.kp T.b_asked_of (dr_cons (tr := .dat) (de_var (pv 0)) (dr_cons (tr := .dat) (de_var (pv 7)) dr_nil)))) dr_nil))))) (de_tup aN)) (db_one (ds_if (dt_w (dw_and (dt_ocmp (od_ne (Hu4 hr)) rfl (pv 3) (de_fz (oe_lst aN))) (dw_and (dt_cmp' (od_isNot) rfl (de_ix (de_oix (pv 3) (de_neg de_int)) de_int) de_non) (dw_and1 (dt_cmp' (od_eq (Hu4 hr)) rfl (de_v (ve_add (de_ix (de_oix (pv 3) (de_neg de_int)) de_int) de_int)) (de_var (pv 7))))))) (db_one (ds_asg (fun h hg => ps_asg h hg) (de_tup (aC (de_ix (de_oix (pv 3) (de_neg de_int)) de_int) (aC (de_var (pv 8)) aN))) (dg_oix (pv 3) (de_neg de_int)))) (db_one (ds_expr (tr := .dat) (de_append (pv 3) (de_tup (aC (de_var (pv 7)) (aC (de_var (pv 8)) aN)))))))) db_nil)))) (db_frz 3 (db_one (ds_ret (tr := .dat) (de_tuple rfl T.n_tuple (de_var (pv 3)))))))))))))
theorem ok_wrong (T : Tp K mg) : FnOk P w K mg base CX0 5 T.f_wrong T.fd_wrong ["reads", "writes", "length"] (spD K false 3 D_wrong) :=
  fn_d (N := ["reads", "writes", "length"]) (ps := ["reads", "writes", "length"]) false B_wrong T.F_wrong sc_wrong fun cdv A outer s H E hr => (db_cons (ds_expr (tr := id) (ve_callN (ok_check_reads T) hr (by decide) T.g_check_reads T.F_check_reads.kp T.b_check_reads (dr_cons (tr := .dat) (de_var (pv 0)) dr_nil))) (db_cons (ds_expr (tr := id) (ve_callN (ok_check_writes T) hr (by decide) T.g_check_writes T.F_check_writes.kp T.b_check_writes (dr_cons (tr := .dat) (de_var (pv 1)) dr_nil))) (db_cons (ds_expr (tr := id) (ve_callN (ok_check_length T) hr (by decide) T.g_check_length T.F_check_length.kp T.b_check_length (dr_cons (tr := .dat) (de_var (pv 2)) dr_nil))) (db_one (ds_ret (tr := .dat) (de_v (ve_callN (ok_wrong_of T) hr (by decide) T.g_wrong_of T.F_wrong_of.kp T.b_wrong_of (dr_cons (tr := .dat) (de_var (pv 0)) (dr_cons (tr := .dat) (de_var (pv 1)) (dr_cons (tr := .dat) (de_v (ve_callN (ok_asked_of T) hr (by decide) T.g_asked_of T.F_asked_of.kp T.b_asked_of (dr_cons (tr := .dat) (de_var (pv 0)) (dr_cons (tr := .dat) (de_var (pv 2)) dr_nil)))) dr_nil))))))))))
theorem ok__law_waits (T : Tp K mg) : FnOk P w K mg base CX0 1 T.f__law_waits T.fd__law_waits ["asks", "writes", "length"] (spD K false 3 D__law_waits) :=
  fn_d (N := ["asks", "writes", "length", "found", "write", "ends", "one", "end"]) (ps := ["asks", "writes", "length"]) false B__law_waits T.F__law_waits sc__law_waits fun cdv A outer s H E hr => (db_cons (xs_set (tr := .own) (i := 3) (fun h => ps_set (i := 3) sc__law_waits.nd rfl (.inl rfl) h) (oe_lst aN)) (db_cons (ds_for PassesOwn.never rfl (di_seq (de_var (pv 1))) (dg_name (pg_name (i := 4) sc__law_waits.nd rfl (.inr rfl))) (db_cons (ds_setLc (i := 5) (own := [("one", 6)]) rfl sc__law_waits.nd rfl rfl (sw_true rfl rfl rfl rfl) (di_seq (de_var (pv 0))) (blkOk_by (by kernel_rfl)) (fun _ _ _ _ _ => (dg_name (pg_name (i := 6) sc__law_waits.nd rfl (.inl rfl)))) (fun _ _ _ _ _ => (dts_one (dt_cmp' (od_le (Hu4 hr)) rfl (de_var (pv 6)) (de_var (pv 4))))) (fun _ _ _ _ _ => (de_v (ve_add (de_var (pv 6)) (de_var (pv 2)))))) (db_frz 5 (db_one (ds_expr (tr := .dat) (de_append (pv 3) (de_maxL rfl (Hu hr) rfl T.n_max (de_v (ve_add (de_fz (oe_lst (aC de_int aN))) (de_fz (oe_lc (own := [("end", 7)]) rfl sc__law_waits.nd (di_seq (de_var (pv 5))) (blkOk_by (by kernel_rfl)) (fun _ _ _ _ _ => (dg_name (pg_name (i := 7) sc__law_waits.nd rfl (.inl rfl)))) (fun _ _ _ _ _ => dts_nil) (fun _ _ _ _ _ => (de_sub (de_var (pv 7)) (de_var (pv 4))))))))))))))) (db_frz 3 (db_one (ds_ret (tr := .dat) (de_var (pv 3)))))))
theorem ok__law_least (T : Tp K mg) : FnOk P w K mg base CX0 2 T.f__law_least T.fd__law_least ["reads", "writes", "length", "price"] (spD K false 4 D__law_least) :=
  fn_d (N := ["reads", "writes", "length", "price", "found", "at", "costs", "to", "end", "some", "write"]) (ps := ["reads", "writes", "length", "price"]) false B__law_least T.F__law_least sc__law_least fun cdv A outer s H E hr => (db_cons (xs_set (tr := .own) (i := 4) (fun h => ps_set (i := 4) sc__law_least.nd rfl (.inl rfl) h) (oe_dnew1 (de_len rfl T.n_len (de_var (pv 0))) de_int)) (db_cons (ds_for PassesOwn.never rfl (di_range3 rfl T.n_range (de_sub (de_len rfl T.n_len (de_var (pv 0))) de_int) (de_neg de_int) (de_neg de_int)) (dg_name (pg_name (i := 5) sc__law_least.nd rfl (.inr rfl))) (db_cons (xs_set (tr := .own) (i := 6) (fun h => ps_set (i := 6) sc__law_least.nd rfl (.inl rfl) h) (oe_lst aN)) (db_cons (ds_for PassesOwn.never rfl (di_range2 rfl T.n_range (de_v (ve_add (de_var (pv 5)) de_int)) (de_v (ve_add (de_len rfl T.n_len (de_var (pv 0))) de_int))) (dg_name (pg_name (i := 7) sc__law_least.nd rfl (.inl rfl))) (db_one (ds_if (dt_w (dw_or (dt_cmp' (od_eq (Hu4 hr)) rfl (de_var (pv 7)) (de_v (ve_add (de_var (pv 5)) de_int))) (dw_or1 (dt_cmp' (od_lt (Hu4 hr)) rfl (de_ix (de_var (pv 0)) (de_sub (de_var (pv 7)) de_int)) (de_v (ve_add (de_ix (de_var (pv 0)) (de_var (pv 5))) (de_var (pv 2)))))))) (db_cons (xs_set (tr := .dat) (i := 8) (fun h => ps_set (i := 8) sc__law_least.nd rfl (.inr rfl) h) (xe_if (tr := .dat) (dt_cmp' (od_lt (Hu4 hr)) rfl (de_var (pv 7)) (de_len rfl T.n_len (de_var (pv 0)))) (de_ix (de_var (pv 0)) (de_var (pv 7))) de_non)) (db_cons (ds_setLc (i := 9) (own := [("write", 10)]) rfl sc__law_least.nd rfl rfl (sw_true rfl rfl rfl rfl) (di_seq (de_var (pv 1))) (blkOk_by (by kernel_rfl)) (fun _ _ _ _ _ => (dg_name (pg_name (i := 10) sc__law_least.nd rfl (.inl rfl)))) (fun _ _ _ _ _ => (dts_one (dt_w (dw_and (dt_cmp' (od_le (Hu4 hr)) rfl (de_ix (de_var (pv 0)) (de_var (pv 5))) (de_var (pv 10))) (dw_and1 (dt_w (dw_or (dt_cmp' (od_is) rfl (de_var (pv 8)) de_non) (dw_or1 (dt_cmp' (od_lt (Hu4 hr)) rfl (de_var (pv 10)) (de_var (pv 8))))))))))) (fun _ _ _ _ _ => (de_var (pv 10)))) (db_frz 9 (db_one (ds_expr (tr := .dat) (de_append (pv 6) (de_v (ve_add (de_v (ve_add de_int (de_v (ve_mul (de_var (pv 3)) (de_sum rfl rfl T.n_sum (de_v (ve_callN (ok__law_waits T) hr (by decide) T.g__law_waits T.F__law_waits.kp T.b__law_waits (dr_cons (tr := .dat) (de_fz (oe_lst (aC (de_ix (de_var (pv 0)) (de_var (pv 5))) aN))) (dr_cons (tr := .dat) (de_var (pv 9)) (dr_cons (tr := .dat) (de_var (pv 2)) dr_nil)))))))))) (de_odget (Hu5 hr) (pv 4) (de_var (pv 7))))))))))) db_nil))) (db_frz 6 (db_one (ds_odput (Hu5 hr) (pv 4) (de_var (pv 5)) (de_minL rfl (Hu hr) rfl T.n_min (de_var (pv 6))))))))) (db_one (ds_ret (tr := .dat) (de_odget (Hu5 hr) (pv 4) de_int)))))
theorem ok__law_cost (T : Tp K mg) : FnOk P w K mg base CX0 2 T.f__law_cost T.fd__law_cost ["reads", "writes", "length", "price", "asks"] (spD K false 5 D__law_cost) :=
  fn_d (N := ["reads", "writes", "length", "price", "asks", "beat", "one"]) (ps := ["reads", "writes", "length", "price", "asks"]) false B__law_cost T.F__law_cost sc__law_cost fun cdv A outer s H E hr => (db_cons (ds_if (dt_cmp' (od_ne (Hu4 hr)) rfl (de_v (ve_sl (de_var (pv 4)) do_none (do_some de_int))) (de_v (ve_sl (de_var (pv 0)) do_none (do_some de_int)))) (db_one (ds_ret (tr := .dat) de_non)) db_nil) (db_cons (ds_for PassesOwn.never rfl (di_seq (de_var (pv 0))) (dg_name (pg_name (i := 5) sc__law_cost.nd rfl (.inr rfl))) (db_one (ds_if (dt_cmp' (od_ge (Hu4 hr)) rfl (de_sub (de_var (pv 5)) (de_maxL rfl (Hu hr) rfl T.n_max (de_fz (oe_lc (own := [("one", 6)]) rfl sc__law_cost.nd (di_seq (de_var (pv 4))) (blkOk_by (by kernel_rfl)) (fun _ _ _ _ _ => (dg_name (pg_name (i := 6) sc__law_cost.nd rfl (.inl rfl)))) (fun _ _ _ _ _ => (dts_one (dt_cmp' (od_le (Hu4 hr)) rfl (de_var (pv 6)) (de_var (pv 5))))) (fun _ _ _ _ _ => (de_var (pv 6))))))) (de_var (pv 2))) (db_one (ds_ret (tr := .dat) de_non)) db_nil))) (db_one (ds_ret (tr := .dat) (de_v (ve_add (de_len rfl T.n_len (de_var (pv 4))) (de_v (ve_mul (de_var (pv 3)) (de_sum rfl rfl T.n_sum (de_v (ve_callN (ok__law_waits T) hr (by decide) T.g__law_waits T.F__law_waits.kp T.b__law_waits (dr_cons (tr := .dat) (de_var (pv 4)) (dr_cons (tr := .dat) (de_var (pv 1)) (dr_cons (tr := .dat) (de_var (pv 2)) dr_nil))))))))))))))
theorem ok_cost_of (T : Tp K mg) : FnOk P w K mg base CX0 2 T.f_cost_of T.fd_cost_of ["reads", "writes", "length", "price", "some"] (spD K false 5 D_cost_of) :=
  fn_d (N := ["reads", "writes", "length", "price", "some", "last", "total", "at", "beat", "later"]) (ps := ["reads", "writes", "length", "price", "some"]) false B_cost_of T.F_cost_of sc_cost_of fun cdv A outer s H E hr => (db_cons (ds_parN (is := [5, 6]) (n := 2) (fun h => ps_asg (pe_tup h) (pg_tup rfl (pgs_cons (pg_name (i := 5) sc_cost_of.nd rfl (.inl rfl)) (pgs_cons (pg_name (i := 6) sc_cost_of.nd rfl (.inl rfl)) pgs_nil)))) (dr_cons (tr := .dat) de_non (dr_cons (tr := .dat) de_int dr_nil)) rfl (by decide)) (db_cons (ds_for PassesOwn.never rfl (di_enum rfl T.n_enumerate (de_var (pv 0))) (dg_tup rfl (dgs_cons (dg_name (pg_name (i := 7) sc_cost_of.nd rfl (.inl rfl))) (dgs_cons (dg_name (pg_name (i := 8) sc_cost_of.nd rfl (.inl rfl))) dgs_nil))) (db_one (ds_if (dt_cmp' (od_in (Hu5 hr)) rfl (de_var (pv 8)) (de_var (pv 4))) (db_one (xs_set (tr := .dat) (i := 5) (fun h => ps_set (i := 5) sc_cost_of.nd rfl (.inl rfl) h) (de_var (pv 8)))) (db_one (ds_if (dt_w (dw_or (dt_cmp' (od_is) rfl (de_var (pv 5)) de_non) (dw_or1 (dt_cmp' (od_ge (Hu4 hr)) rfl (de_var (pv 8)) (de_v (ve_add (de_var (pv 5)) (de_var (pv 2)))))))) (db_one (ds_ret (tr := .dat) de_non)) db_nil))))) (db_cons (ds_for PassesOwn.never rfl (di_enum rfl T.n_enumerate (de_var (pv 4))) (dg_tup rfl (dgs_cons (dg_name (pg_name (i := 7) sc_cost_of.nd rfl (.inl rfl))) (dgs_cons (dg_name (pg_name (i := 8) sc_cost_of.nd rfl (.inl rfl))) dgs_nil))) (db_cons (xs_set (tr := .dat) (i := 9) (fun h => ps_set (i := 9) sc_cost_of.nd rfl (.inl rfl) h) (xe_if (tr := .dat) (dt_cmp' (od_lt (Hu4 hr)) rfl (de_v (ve_add (de_var (pv 7)) de_int)) (de_len rfl T.n_len (de_var (pv 4)))) (de_ix (de_var (pv 4)) (de_v (ve_add (de_var (pv 7)) de_int))) de_non)) (db_one (xs_set (tr := .dat) (i := 6) (fun h => ps_set (i := 6) sc_cost_of.nd rfl (.inl rfl) h) (de_v (ve_add (de_v (ve_add (de_var (pv 6)) de_int)) (de_v (ve_mul (de_var (pv 3)) (de_v (ve_callN (ok_waits_by T) hr (by decide) T.g_waits_by T.F_waits_by.kp T.b_waits_by (dr_cons (tr := .dat) (de_var (pv 8)) (dr_cons (tr := .dat) (de_var (pv 9)) (dr_cons (tr := .dat) (de_var (pv 1)) (dr_cons (tr := .dat) (de_var (pv 2)) dr_nil)))))))))))))) (db_one (ds_ret (tr := .dat) (de_var (pv 6)))))))
theorem ok_shows_cost (T : Tp K mg) : FnOk P w K mg base CX0 6 T.f_shows_cost T.fd_shows_cost ["reads", "writes", "length", "price", "value"] (spD K false 5 D_shows_cost) :=
  fn_d (N := ["reads", "writes", "length", "price", "value", "due", "one"]) (ps := ["reads", "writes", "length", "price", "value"]) false B_shows_cost T.F_shows_cost sc_shows_cost fun cdv A outer s H E hr => (db_cons (xs_set (tr := .dat) (i := 5) (fun h => ps_set (i := 5) sc_shows_cost.nd rfl (.inl rfl) h) (de_v (ve_callN (ok_least_cost T) hr (by decide) T.g_least_cost T.F_least_cost.kp T.b_least_cost (dr_cons (tr := .dat) (de_var (pv 0)) (dr_cons (tr := .dat) (de_var (pv 1)) (dr_cons (tr := .dat) (de_var (pv 2)) (dr_cons (tr := .dat) (de_var (pv 3)) dr_nil))))))) (db_cons (ds_if (dt_w (dw_or (dt_not (dt_val (de_v (ve_callN (ok_is_tuple T) hr (by decide) T.g_is_tuple T.F_is_tuple.kp T.b_is_tuple (dr_cons (tr := .dat) (de_var (pv 4)) (dr_cons (tr := .dat) (de_gi (i := 2) rfl T.g_PAIR T.r_PAIR) (dr_cons (tr := .dat) (de_gi (i := 2) rfl T.g_PAIR T.r_PAIR) dr_nil))))))) (dw_or (dt_not (dt_val (de_v (ve_callN (ok_is_integer T) hr (by decide) T.g_is_integer T.F_is_integer.kp T.b_is_integer (dr_cons (tr := .dat) (de_ix (de_var (pv 4)) de_int) (dr_cons (tr := .dat) de_int (dr_cons (tr := .dat) (de_pow de_int de_int) dr_nil))))))) (dw_or1 (dt_not (dt_val (de_v (ve_callN (ok_is_beats T) hr (by decide) T.g_is_beats T.F_is_beats.kp T.b_is_beats (dr_cons (tr := .dat) (de_ix (de_var (pv 4)) de_int) dr_nil))))))))) (db_one (ds_ret (tr := .dat) de_bl)) db_nil) (db_cons (ds_if (dt_w (dw_or (dt_cmp' (od_ne (Hu4 hr)) rfl (de_ix (de_var (pv 4)) de_int) (de_ix (de_var (pv 5)) de_int)) (dw_or1 (dt_not (dt_val (de_all rfl rfl T.n_all (de_fz (oe_lc (own := [("one", 6)]) rfl sc_shows_cost.nd (di_seq (de_ix (de_var (pv 4)) de_int)) (blkOk_by (by kernel_rfl)) (fun _ _ _ _ _ => (dg_name (pg_name (i := 6) sc_shows_cost.nd rfl (.inl rfl)))) (fun _ _ _ _ _ => dts_nil) (fun _ _ _ _ _ => (de_cmp (od_in (Hu5 hr)) rfl (de_var (pv 6)) (de_var (pv 0)))))))))))) (db_one (ds_ret (tr := .dat) de_bl)) db_nil) (db_one (ds_ret (tr := .dat) (de_cmp (od_eq (Hu4 hr)) rfl (de_v (ve_callN (ok_cost_of T) hr (by decide) T.g_cost_of T.F_cost_of.kp T.b_cost_of (dr_cons (tr := .dat) (de_var (pv 0)) (dr_cons (tr := .dat) (de_var (pv 1)) (dr_cons (tr := .dat) (de_var (pv 2)) (dr_cons (tr := .dat) (de_var (pv 3)) (dr_cons (tr := .dat) (de_ix (de_var (pv 4)) de_int) dr_nil))))))) (de_ix (de_var (pv 5)) de_int)))))))
theorem ok__law_right (T : Tp K mg) : FnOk P w K mg base CX0 7 T.f__law_right T.fd__law_right ["pot"] (spD K true 1 D__law_right) :=
  fn_d (N := ["pot", "wide", "reads", "writes", "length", "price", "asks", "bad", "due", "cost", "row", "some", "at", "value", "is_row", "is_so", "few", "open_to", "beat", "good", "spans", "told", "last", "lap", "write", "wait", "one", "least", "most"]) (ps := ["pot"]) true B__law_right T.F__law_right sc__law_right fun cdv A outer s H E hr => (db_cons (xs_set (tr := .dat) (i := 1) (fun h => ps_set (i := 1) sc__law_right.nd rfl (.inr rfl) h) (de_v (ve_callI (ok__law_of T) hr (by decide) T.g__law_of T.F__law_of.kp T.b__law_of (pv 0) (dr_cons (tr := .dat) (de_fz (oe_lst (aC de_int (aC de_int (aC (de_pow de_int de_int) aN))))) dr_nil)))) (db_cons (xs_set (tr := .dat) (i := 2) (fun h => ps_set (i := 2) sc__law_right.nd rfl (.inr rfl) h) (de_tuple rfl T.n_tuple (de_fz (oe_sortset rfl rfl T.n_sorted rfl T.n_set (de_fz (oe_lc (own := [("lap", 23)]) rfl sc__law_right.nd (di_range1 rfl T.n_range (de_v (ve_callI (ok__law_take T) hr (by decide) T.g__law_take T.F__law_take.kp T.b__law_take (pv 0) (dr_cons (tr := .dat) de_int dr_nil)))) (blkOk_by (by kernel_rfl)) (fun _ _ _ _ _ => (dg_name (pg_name (i := 23) sc__law_right.nd rfl (.inl rfl)))) (fun _ _ _ _ _ => dts_nil) (fun _ _ _ _ _ => (de_v (ve_callI (ok__law_take T) hr (by decide) T.g__law_take T.F__law_take.kp T.b__law_take (pv 0) (dr_cons (tr := .dat) (de_var (pv 1)) dr_nil)))))))))) (db_cons (xs_set (tr := .dat) (i := 3) (fun h => ps_set (i := 3) sc__law_right.nd rfl (.inr rfl) h) (de_tuple rfl T.n_tuple (de_fz (oe_sortset rfl rfl T.n_sorted rfl T.n_set (de_fz (oe_lc (own := [("lap", 23)]) rfl sc__law_right.nd (di_range1 rfl T.n_range (de_v (ve_callI (ok__law_take T) hr (by decide) T.g__law_take T.F__law_take.kp T.b__law_take (pv 0) (dr_cons (tr := .dat) de_int dr_nil)))) (blkOk_by (by kernel_rfl)) (fun _ _ _ _ _ => (dg_name (pg_name (i := 23) sc__law_right.nd rfl (.inl rfl)))) (fun _ _ _ _ _ => dts_nil) (fun _ _ _ _ _ => (de_v (ve_callI (ok__law_take T) hr (by decide) T.g__law_take T.F__law_take.kp T.b__law_take (pv 0) (dr_cons (tr := .dat) (de_var (pv 1)) dr_nil)))))))))) (db_cons (ds_par2 (i := 4) (j := 5) (fun h => ps_par (i := 4) (j := 5) rfl sc__law_right.nd rfl rfl (by decide) rfl rfl h rfl) (dr_cons (tr := .dat) (de_v (ve_add de_int (de_v (ve_callI (ok__law_take T) hr (by decide) T.g__law_take T.F__law_take.kp T.b__law_take (pv 0) (dr_cons (tr := .dat) (de_fdiv (de_var (pv 1)) de_int) dr_nil))))) (dr_cons (tr := .dat) (de_v (ve_callI (ok__law_take T) hr (by decide) T.g__law_take T.F__law_take.kp T.b__law_take (pv 0) (dr_cons (tr := .dat) (de_v (ve_callI (ok__law_of T) hr (by decide) T.g__law_of T.F__law_of.kp T.b__law_of (pv 0) (dr_cons (tr := .dat) (de_fz (oe_lst (aC de_int (aC de_int aN)))) dr_nil))) dr_nil))) dr_nil))) (db_cons (ds_asg (fun h hg => ps_asg h hg) (de_v (ve_callN (ok__law_day T) hr (by decide) T.g__law_day T.F__law_day.kp T.b__law_day (dr_cons (tr := .dat) (de_var (pv 2)) (dr_cons (tr := .dat) (de_var (pv 3)) (dr_cons (tr := .dat) (de_var (pv 4)) dr_nil))))) (dg_tup rfl (dgs_cons (dg_name (pg_name (i := 6) sc__law_right.nd rfl (.inl rfl))) (dgs_cons (dg_name (pg_name (i := 7) sc__law_right.nd rfl (.inl rfl))) dgs_nil)))) (db_cons (ds_if (dt_w (dw_or (dt_cmp' (od_ne (Hu4 hr)) rfl (de_v (ve_callN (ok_asked T) hr (by decide) T.g_asked T.F_asked.kp T.b_asked (dr_cons (tr := .dat) (de_var (pv 2)) (dr_cons (tr := .dat) (de_var (pv 4)) dr_nil)))) (de_var (pv 6))) (dw_or1 (dt_cmp' (od_ne (Hu4 hr)) rfl (de_v (ve_callN (ok_wrong T) hr (by decide) T.g_wrong T.F_wrong.kp T.b_wrong (dr_cons (tr := .dat) (de_var (pv 2)) (dr_cons (tr := .dat) (de_var (pv 3)) (dr_cons (tr := .dat) (de_var (pv 4)) dr_nil))))) (de_var (pv 7)))))) (db_one (ds_ret (tr := .dat) de_bl)) db_nil) (db_cons (xs_set (tr := .dat) (i := 8) (fun h => ps_set (i := 8) sc__law_right.nd rfl (.inl rfl) h) (de_tuple rfl T.n_tuple (de_fz (oe_lc (own := [("write", 24), ("wait", 25)]) rfl sc__law_right.nd (di_zip rfl T.n_zip (de_var (pv 3)) (de_v (ve_callN (ok__law_waits T) hr (by decide) T.g__law_waits T.F__law_waits.kp T.b__law_waits (dr_cons (tr := .dat) (de_var (pv 2)) (dr_cons (tr := .dat) (de_var (pv 3)) (dr_cons (tr := .dat) (de_var (pv 4)) dr_nil)))))) (blkOk_by (by kernel_rfl)) (fun _ _ _ _ _ => (dg_tup rfl (dgs_cons (dg_name (pg_name (i := 24) sc__law_right.nd rfl (.inl rfl))) (dgs_cons (dg_name (pg_name (i := 25) sc__law_right.nd rfl (.inl rfl))) dgs_nil)))) (fun _ _ _ _ _ => dts_nil) (fun _ _ _ _ _ => (de_v (ve_add (de_var (pv 24)) (de_var (pv 25))))))))) (db_cons (ds_if (dt_cmp' (od_ne (Hu4 hr)) rfl (de_v (ve_callN (ok_done T) hr (by decide) T.g_done T.F_done.kp T.b_done (dr_cons (tr := .dat) (de_var (pv 3)) (dr_cons (tr := .dat) (de_var (pv 2)) (dr_cons (tr := .dat) (de_var (pv 4)) dr_nil))))) (de_var (pv 8))) (db_one (ds_ret (tr := .dat) de_bl)) db_nil) (db_cons (ds_if (dt_cmp' (od_ne (Hu4 hr)) rfl (de_var (pv 2)) (de_tup aN)) (db_cons (ds_asg (fun h hg => ps_asg h hg) (de_v (ve_callN (ok_least_cost T) hr (by decide) T.g_least_cost T.F_least_cost.kp T.b_least_cost (dr_cons (tr := .dat) (de_var (pv 2)) (dr_cons (tr := .dat) (de_var (pv 3)) (dr_cons (tr := .dat) (de_var (pv 4)) (dr_cons (tr := .dat) (de_var (pv 5)) dr_nil)))))) (dg_tup rfl (dgs_cons (dg_name (pg_name (i := 9) sc__law_right.nd rfl (.inl rfl))) (dgs_cons (dg_name (pg_name (i := 10) sc__law_right.nd rfl (.inl rfl))) dgs_nil)))) (db_cons (ds_if (dt_w (dw_or (dt_cmp' (od_ne (Hu4 hr)) rfl (de_var (pv 9)) (de_v (ve_callN (ok__law_least T) hr (by decide) T.g__law_least T.F__law_least.kp T.b__law_least (dr_cons (tr := .dat) (de_var (pv 2)) (dr_cons (tr := .dat) (de_var (pv 3)) (dr_cons (tr := .dat) (de_var (pv 4)) (dr_cons (tr := .dat) (de_var (pv 5)) dr_nil))))))) (dw_or1 (dt_cmp' (od_ne (Hu4 hr)) rfl (de_v (ve_callN (ok__law_cost T) hr (by decide) T.g__law_cost T.F__law_cost.kp T.b__law_cost (dr_cons (tr := .dat) (de_var (pv 2)) (dr_cons (tr := .dat) (de_var (pv 3)) (dr_cons (tr := .dat) (de_var (pv 4)) (dr_cons (tr := .dat) (de_var (pv 5)) (dr_cons (tr := .dat) (de_var (pv 10)) dr_nil))))))) (de_var (pv 9)))))) (db_one (ds_ret (tr := .dat) de_bl)) db_nil) (db_cons (xs_set (tr := .own) (i := 11) (fun h => ps_set (i := 11) sc__law_right.nd rfl (.inl rfl) h) (oe_lst (aC (de_tup (aC (de_var (pv 9)) (aC (de_var (pv 10)) aN))) (aC (de_tup (aC (de_v (ve_add (de_var (pv 9)) de_int)) (aC (de_var (pv 10)) aN))) (aC (de_tup (aC (de_var (pv 9)) (aC (de_v (ve_sl (de_var (pv 10)) (do_some de_int) do_none)) aN))) (aC (de_tup (aC (de_var (pv 9)) (aC (de_step (de_var (pv 10)) (de_neg de_int)) aN))) (aC (de_tup (aC (de_var (pv 9)) (aC (de_var (pv 2)) aN))) (aC (de_tup (aC (de_var (pv 9)) (aC (de_var (pv 6)) aN))) aN)))))))) (db_cons (xs_set (tr := .dat) (i := 12) (fun h => ps_set (i := 12) sc__law_right.nd rfl (.inr rfl) h) (de_v (ve_callI (ok__law_take T) hr (by decide) T.g__law_take T.F__law_take.kp T.b__law_take (pv 0) (dr_cons (tr := .dat) (de_len rfl T.n_len (de_var (pv 2))) dr_nil)))) (db_cons (ds_expr (tr := .dat) (de_append (pv 11) (de_tup (aC (de_var (pv 9)) (aC (de_tuple rfl T.n_tuple (de_fz (oe_sortset rfl rfl T.n_sorted rfl T.n_set (de_v (ve_add (de_var (pv 10)) (de_tup (aC (de_ix (de_var (pv 2)) (de_var (pv 12))) aN))))))) aN))))) (db_cons (ds_expr (tr := .dat) (de_append (pv 11) (de_tup (aC (de_var (pv 9)) (aC (de_tuple rfl T.n_tuple (de_fz (oe_lc (own := [("one", 26)]) rfl sc__law_right.nd (di_seq (de_var (pv 10))) (blkOk_by (by kernel_rfl)) (fun _ _ _ _ _ => (dg_name (pg_name (i := 26) sc__law_right.nd rfl (.inl rfl)))) (fun _ _ _ _ _ => (dts_one (dt_cmp' (od_ne (Hu4 hr)) rfl (de_var (pv 26)) (de_ix (de_var (pv 2)) (de_var (pv 12)))))) (fun _ _ _ _ _ => (de_var (pv 26)))))) aN))))) (db_frz 11 (db_one (ds_for PassesOwn.never rfl (di_seq (de_var (pv 11))) (dg_name (pg_name (i := 13) sc__law_right.nd rfl (.inl rfl))) (db_cons (xs_set (tr := .dat) (i := 14) (fun h => ps_set (i := 14) sc__law_right.nd rfl (.inl rfl) h) (de_and (de_cmp (od_eq (Hu4 hr)) rfl (de_fz (oe_list rfl T.n_list (de_ix (de_var (pv 13)) de_int))) (de_fz (oe_sortset rfl rfl T.n_sorted rfl T.n_set (de_ix (de_var (pv 13)) de_int)))) (de_one (de_cmp (od_eq (Hu4 hr)) rfl (de_ix (de_var (pv 13)) de_int) (de_var (pv 9)))))) (db_cons (xs_set (tr := .dat) (i := 15) (fun h => ps_set (i := 15) sc__law_right.nd rfl (.inl rfl) h) (de_and (de_var (pv 14)) (de_one (de_cmp (od_eq (Hu4 hr)) rfl (de_v (ve_callN (ok__law_cost T) hr (by decide) T.g__law_cost T.F__law_cost.kp T.b__law_cost (dr_cons (tr := .dat) (de_var (pv 2)) (dr_cons (tr := .dat) (de_var (pv 3)) (dr_cons (tr := .dat) (de_var (pv 4)) (dr_cons (tr := .dat) (de_var (pv 5)) (dr_cons (tr := .dat) (de_ix (de_var (pv 13)) de_int) dr_nil))))))) (de_var (pv 9)))))) (db_one (ds_if (dt_cmp' (od_ne (Hu4 hr)) rfl (de_reprB rfl T.n_repr (de_v (ve_callN (ok_shows_cost T) hr (by decide) T.g_shows_cost T.F_shows_cost.kp T.b_shows_cost (dr_cons (tr := .dat) (de_var (pv 2)) (dr_cons (tr := .dat) (de_var (pv 3)) (dr_cons (tr := .dat) (de_var (pv 4)) (dr_cons (tr := .dat) (de_var (pv 5)) (dr_cons (tr := .dat) (de_var (pv 13)) dr_nil)))))))) (de_reprB rfl T.n_repr (de_var (pv 15)))) (db_one (ds_ret (tr := .dat) de_bl)) db_nil))))))))))))) db_nil) (db_cons (ds_parN (is := [16, 17]) (n := 2) (fun h => ps_asg (pe_tup h) (pg_tup rfl (pgs_cons (pg_name (i := 16) sc__law_right.nd rfl (.inl rfl)) (pgs_cons (pg_name (i := 17) sc__law_right.nd rfl (.inr rfl)) pgs_nil)))) (dr_cons (tr := .own) (oe_lst aN) (dr_cons (tr := .dat) de_non dr_nil)) rfl (by decide)) (db_cons (ds_for PassesOwn.never rfl (di_seq (de_var (pv 2))) (dg_name (pg_name (i := 18) sc__law_right.nd rfl (.inr rfl))) (db_one (ds_if (dt_w (dw_or (dt_cmp' (od_is) rfl (de_var (pv 17)) de_non) (dw_or1 (dt_val (de_any rfl rfl T.n_any (de_fz (oe_lc (own := [("write", 24)]) rfl sc__law_right.nd (di_seq (de_var (pv 3))) (blkOk_by (by kernel_rfl)) (fun _ _ _ _ _ => (dg_name (pg_name (i := 24) sc__law_right.nd rfl (.inl rfl)))) (fun _ _ _ _ _ => dts_nil) (fun _ _ _ _ _ => (de_chain (od_lt (Hu4 hr)) (od_le (Hu4 hr)) (de_var (pv 17)) (de_var (pv 24)) (de_var (pv 18))))))))))) (db_cons (ds_expr (tr := .dat) (de_append (pv 16) (de_var (pv 18)))) (db_one (xs_set (tr := .dat) (i := 17) (fun h => ps_set (i := 17) sc__law_right.nd rfl (.inr rfl) h) (de_var (pv 18))))) db_nil))) (db_frz 16 (db_cons (ds_if (dt_cmp' (od_ne (Hu4 hr)) rfl (de_v (ve_callN (ok_fewest_asked T) hr (by decide) T.g_fewest_asked T.F_fewest_asked.kp T.b_fewest_asked (dr_cons (tr := .dat) (de_var (pv 2)) (dr_cons (tr := .dat) (de_var (pv 3)) dr_nil)))) (de_tuple rfl T.n_tuple (de_var (pv 16)))) (db_one (ds_ret (tr := .dat) de_bl)) db_nil) (db_cons (ds_if (dt_cmp' (od_eq (Hu4 hr)) rfl (de_var (pv 1)) de_int) (db_cons (ds_setLc (i := 19) (own := [("length", 4)]) rfl sc__law_right.nd rfl rfl (sw_true rfl rfl rfl rfl) (di_range2 rfl T.n_range de_int de_int) (blkOk_by (by kernel_rfl)) (fun _ _ _ _ _ => (dg_name (pg_name (i := 4) sc__law_right.nd rfl (.inl rfl)))) (fun _ _ _ _ _ => (dts_one (dt_cmp' (od_eq (Hu4 hr)) rfl (de_ix (de_v (ve_callN (ok__law_day T) hr (by decide) T.g__law_day T.F__law_day.kp T.b__law_day (dr_cons (tr := .dat) (de_var (pv 2)) (dr_cons (tr := .dat) (de_var (pv 3)) (dr_cons (tr := .dat) (de_var (pv 4)) dr_nil))))) de_int) (de_tup aN)))) (fun _ _ _ _ _ => (de_var (pv 4)))) (db_frz 19 (db_cons (xs_set (tr := .own) (i := 20) (fun h => ps_set (i := 20) sc__law_right.nd rfl (.inl rfl) h) (oe_lst aN)) (db_cons (ds_for PassesOwn.never rfl (di_seq (de_var (pv 19))) (dg_name (pg_name (i := 4) sc__law_right.nd rfl (.inl rfl))) (db_one (ds_if (dt_w (dw_and (dt_ocmp (od_ne (Hu4 hr)) rfl (pv 20) (de_fz (oe_lst aN))) (dw_and1 (dt_cmp' (od_eq (Hu4 hr)) rfl (de_ix (de_oix (pv 20) (de_neg de_int)) de_int) (de_sub (de_var (pv 4)) de_int))))) (db_one (ds_asg (fun h hg => ps_asg h hg) (de_tup (aC (de_ix (de_oix (pv 20) (de_neg de_int)) de_int) (aC (de_var (pv 4)) aN))) (dg_oix (pv 20) (de_neg de_int)))) (db_one (ds_expr (tr := .dat) (de_append (pv 20) (de_tup (aC (de_var (pv 4)) (aC (de_var (pv 4)) aN))))))))) (db_cons (xs_set (tr := .dat) (i := 21) (fun h => ps_set (i := 21) sc__law_right.nd rfl (.inl rfl) h) (de_v (ve_callN (ok_lengths_right T) hr (by decide) T.g_lengths_right T.F_lengths_right.kp T.b_lengths_right (dr_cons (tr := .dat) (de_var (pv 2)) (dr_cons (tr := .dat) (de_var (pv 3)) dr_nil))))) (db_cons (ds_setLc (i := 22) (own := [("least", 27), ("most", 28)]) rfl sc__law_right.nd rfl rfl (sw_true rfl rfl rfl rfl) (di_seq (de_var (pv 21))) (blkOk_by (by kernel_rfl)) (fun _ _ _ _ _ => (dg_tup rfl (dgs_cons (dg_name (pg_name (i := 27) sc__law_right.nd rfl (.inl rfl))) (dgs_cons (dg_name (pg_name (i := 28) sc__law_right.nd rfl (.inl rfl))) dgs_nil)))) (fun _ _ _ _ _ => dts_nil) (fun _ _ _ _ _ => (de_tup (aC (de_var (pv 27)) (aC (xe_if (tr := .dat) (dt_cmp' (od_is) rfl (de_var (pv 28)) de_non) de_int (de_var (pv 28))) aN))))) (db_frz 22 (db_frz 20 (db_one (ds_if (dt_w (dw_or (dt_cmp' (od_ne (Hu4 hr)) rfl (de_var (pv 22)) (de_var (pv 20))) (dw_or1 (dt_val (de_any rfl rfl T.n_any (de_fz (oe_lc (own := [("least", 27), ("most", 28)]) rfl sc__law_right.nd (di_seq (de_v (ve_sl (de_var (pv 21)) do_none (do_some (de_neg de_int))))) (blkOk_by (by kernel_rfl)) (fun _ _ _ _ _ => (dg_tup rfl (dgs_cons (dg_name (pg_name (i := 27) sc__law_right.nd rfl (.inl rfl))) (dgs_cons (dg_name (pg_name (i := 28) sc__law_right.nd rfl (.inl rfl))) dgs_nil)))) (fun _ _ _ _ _ => dts_nil) (fun _ _ _ _ _ => (de_cmp (od_is) rfl (de_var (pv 28)) de_non))))))))) (db_one (ds_ret (tr := .dat) de_bl)) db_nil)))))))))) db_nil) (db_one (ds_ret (tr := .dat) de_bl))))))))))))))))
theorem ok_law (T : Tp K mg) : FnOk P w K mg base CX0 8 T.f_law T.fd_law ["script"] (spD K false 1 D_law) :=
  fn_d (N := ["script", "place", "pot", "step", "many", "even", "lap", "at"]) (ps := ["script"]) false B_law T.F_law sc_law fun cdv A outer s H E hr => (db_cons (ds_for PassesOwn.never rfl (di_seq (de_v (ve_callN (ok__law_places T) hr (by decide) T.g__law_places T.F__law_places.kp T.b__law_places (dr_cons (tr := id) (ve_scr (pv 0)) (dr_cons (tr := .dat) de_int dr_nil))))) (dg_name (pg_name (i := 1) sc_law.nd rfl (.inl rfl))) (db_cons (xs_set (tr := .own) (i := 2) (fun h => ps_set (i := 2) sc_law.nd rfl (.inr rfl) h) (oe_v (ve_callN (ok__law_pot T) hr (by decide) T.g__law_pot T.F__law_pot.kp T.b__law_pot (dr_cons (tr := id) (ve_scr (pv 0)) (dr_cons (tr := .dat) (de_var (pv 1)) dr_nil))))) (db_cons (ds_if (dt_not (dt_val (de_all rfl rfl T.n_all (de_fz (oe_lc (own := [("lap", 6)]) rfl sc_law.nd (di_range1 rfl T.n_range de_int) (blkOk_by (by kernel_rfl)) (fun _ _ _ _ _ => (dg_name (pg_name (i := 6) sc_law.nd rfl (.inl rfl)))) (fun _ _ _ _ _ => dts_nil) (fun _ _ _ _ _ => (de_v (ve_callI (ok__law_right T) hr (by decide) T.g__law_right T.F__law_right.kp T.b__law_right (pv 2) dr_nil)))))))) (db_one (ds_ret (tr := .dat) de_bl)) db_nil) (db_cons (ds_parN (is := [3, 4]) (n := 2) (fun h => ps_asg (pe_tup h) (pg_tup rfl (pgs_cons (pg_name (i := 3) sc_law.nd rfl (.inr rfl)) (pgs_cons (pg_name (i := 4) sc_law.nd rfl (.inl rfl)) pgs_nil)))) (dr_cons (tr := .dat) (de_v (ve_add de_int (de_v (ve_callI (ok__law_take T) hr (by decide) T.g__law_take T.F__law_take.kp T.b__law_take (pv 2) (dr_cons (tr := .dat) de_int dr_nil))))) (dr_cons (tr := .dat) (de_v (ve_add de_int (de_v (ve_callI (ok__law_take T) hr (by decide) T.g__law_take T.F__law_take.kp T.b__law_take (pv 2) (dr_cons (tr := .dat) de_int dr_nil))))) dr_nil)) rfl (by decide)) (db_cons (xs_set (tr := .dat) (i := 5) (fun h => ps_set (i := 5) sc_law.nd rfl (.inl rfl) h) (de_tuple rfl T.n_tuple (de_fz (oe_lc (own := [("at", 7)]) rfl sc_law.nd (di_range1 rfl T.n_range de_int) (blkOk_by (by kernel_rfl)) (fun _ _ _ _ _ => (dg_name (pg_name (i := 7) sc_law.nd rfl (.inl rfl)))) (fun _ _ _ _ _ => dts_nil) (fun _ _ _ _ _ => (de_v (ve_mul (de_var (pv 3)) (de_var (pv 7))))))))) (db_cons (ds_if (dt_w (dw_or (dt_cmp' (od_ne (Hu4 hr)) rfl (de_v (ve_callN (ok_asked T) hr (by decide) T.g_asked T.F_asked.kp T.b_asked (dr_cons (tr := .dat) (de_var (pv 5)) (dr_cons (tr := .dat) (de_v (ve_mul (de_var (pv 3)) (de_var (pv 4)))) dr_nil)))) (de_step (de_var (pv 5)) (de_var (pv 4)))) (dw_or1 (dt_cmp' (od_ne (Hu4 hr)) rfl (de_ix (de_v (ve_callN (ok_least_cost T) hr (by decide) T.g_least_cost T.F_least_cost.kp T.b_least_cost (dr_cons (tr := .dat) (de_var (pv 5)) (dr_cons (tr := .dat) (de_tup aN) (dr_cons (tr := .dat) (de_v (ve_mul (de_var (pv 3)) (de_var (pv 4)))) (dr_cons (tr := .dat) de_int dr_nil)))))) de_int) (de_fdiv (de_v (ve_add de_int (de_var (pv 4)))) (de_var (pv 4))))))) (db_one (ds_ret (tr := .dat) de_bl)) db_nil) (db_one (ds_if (dt_cmp' (od_ne (Hu4 hr)) rfl (de_ix (de_v (ve_callN (ok_least_cost T) hr (by decide) T.g_least_cost T.F_least_cost.kp T.b_least_cost (dr_cons (tr := .dat) (de_var (pv 5)) (dr_cons (tr := .dat) (de_tup (aC (de_v (ve_add (de_v (ve_mul (de_var (pv 3)) de_int)) (de_v (ve_mul (de_var (pv 3)) (de_var (pv 4)))))) aN)) (dr_cons (tr := .dat) (de_v (ve_mul (de_var (pv 3)) (de_var (pv 4)))) (dr_cons (tr := .dat) de_int dr_nil)))))) de_int) (de_fdiv (de_v (ve_add de_int (de_var (pv 4)))) (de_var (pv 4)))) (db_one (ds_ret (tr := .dat) de_bl)) db_nil)))))))) (db_one (ds_ret (tr := .dat) de_bl)))
end
/-! ### what the top has written -/
def mkT {K : Fg} {h : Heap} {mg : Str → Option Value} (X : K.In h) (G : h.Ns mainGlobals mg)
    {f0 : Addr} {od0 an0 : Option Addr} {sl0 : Array (Option Value)} {oc0 kV0 dc0 pm0 cd0 ct0 : Value} (a0 : PySem.W.nsIn K mainGlobals "_law_places" = some (some (.ref f0))) (l0 : K.lookup f0 = some ⟨oc0, od0, .func (PySem.W.fnOf "_law_places" "_law_places" (defArgs s__law_places) (defBody s__law_places) (defScope s__law_places) .none kV0 dc0 pm0 an0 cd0 ct0), sl0⟩) (c0 : PySem.W.codeIn K cd0 "_law_places" = true) (k0 : PySem.W.keepIn K (.ref f0) = true)
    {f1 : Addr} {od1 an1 : Option Addr} {sl1 : Array (Option Value)} {oc1 kV1 dc1 pm1 cd1 ct1 : Value} (a1 : PySem.W.nsIn K mainGlobals "_law_pot" = some (some (.ref f1))) (l1 : K.lookup f1 = some ⟨oc1, od1, .func (PySem.W.fnOf "_law_pot" "_law_pot" (defArgs s__law_pot) (defBody s__law_pot) (defScope s__law_pot) .none kV1 dc1 pm1 an1 cd1 ct1), sl1⟩) (c1 : PySem.W.codeIn K cd1 "_law_pot" = true) (k1 : PySem.W.keepIn K (.ref f1) = true)
    {f2 : Addr} {od2 an2 : Option Addr} {sl2 : Array (Option Value)} {oc2 kV2 dc2 pm2 cd2 ct2 : Value} (a2 : PySem.W.nsIn K mainGlobals "_law_take" = some (some (.ref f2))) (l2 : K.lookup f2 = some ⟨oc2, od2, .func (PySem.W.fnOf "_law_take" "_law_take" (defArgs s__law_take) (defBody s__law_take) (defScope s__law_take) .none kV2 dc2 pm2 an2 cd2 ct2), sl2⟩) (c2 : PySem.W.codeIn K cd2 "_law_take" = true) (k2 : PySem.W.keepIn K (.ref f2) = true)
    {f3 : Addr} {od3 an3 : Option Addr} {sl3 : Array (Option Value)} {oc3 kV3 dc3 pm3 cd3 ct3 : Value} (a3 : PySem.W.nsIn K mainGlobals "is_rising" = some (some (.ref f3))) (l3 : K.lookup f3 = some ⟨oc3, od3, .func (PySem.W.fnOf "is_rising" "is_rising" (defArgs s_is_rising) (defBody s_is_rising) (defScope s_is_rising) .none kV3 dc3 pm3 an3 cd3 ct3), sl3⟩) (c3 : PySem.W.codeIn K cd3 "is_rising" = true) (k3 : PySem.W.keepIn K (.ref f3) = true)
    {f4 : Addr} {od4 an4 : Option Addr} {sl4 : Array (Option Value)} {oc4 kV4 dc4 pm4 cd4 ct4 : Value} (a4 : PySem.W.nsIn K mainGlobals "is_tuple" = some (some (.ref f4))) (l4 : K.lookup f4 = some ⟨oc4, od4, .func (PySem.W.fnOf "is_tuple" "is_tuple" (defArgs s_is_tuple) (defBody s_is_tuple) (defScope s_is_tuple) .none kV4 dc4 pm4 an4 cd4 ct4), sl4⟩) (c4 : PySem.W.codeIn K cd4 "is_tuple" = true) (k4 : PySem.W.keepIn K (.ref f4) = true)
    {f5 : Addr} {od5 an5 : Option Addr} {sl5 : Array (Option Value)} {oc5 kV5 dc5 pm5 cd5 ct5 : Value} (a5 : PySem.W.nsIn K mainGlobals "is_whole" = some (some (.ref f5))) (l5 : K.lookup f5 = some ⟨oc5, od5, .func (PySem.W.fnOf "is_whole" "is_whole" (defArgs s_is_whole) (defBody s_is_whole) (defScope s_is_whole) .none kV5 dc5 pm5 an5 cd5 ct5), sl5⟩) (c5 : PySem.W.codeIn K cd5 "is_whole" = true) (k5 : PySem.W.keepIn K (.ref f5) = true)
    {f6 : Addr} {od6 an6 : Option Addr} {sl6 : Array (Option Value)} {oc6 kV6 dc6 pm6 cd6 ct6 : Value} (a6 : PySem.W.nsIn K mainGlobals "is_integer" = some (some (.ref f6))) (l6 : K.lookup f6 = some ⟨oc6, od6, .func (PySem.W.fnOf "is_integer" "is_integer" (defArgs s_is_integer) (defBody s_is_integer) (defScope s_is_integer) .none kV6 dc6 pm6 an6 cd6 ct6), sl6⟩) (c6 : PySem.W.codeIn K cd6 "is_integer" = true) (k6 : PySem.W.keepIn K (.ref f6) = true)
    {f7 : Addr} {od7 an7 : Option Addr} {sl7 : Array (Option Value)} {oc7 kV7 dc7 pm7 cd7 ct7 : Value} (a7 : PySem.W.nsIn K mainGlobals "is_beats" = some (some (.ref f7))) (l7 : K.lookup f7 = some ⟨oc7, od7, .func (PySem.W.fnOf "is_beats" "is_beats" (defArgs s_is_beats) (defBody s_is_beats) (defScope s_is_beats) .none kV7 dc7 pm7 an7 cd7 ct7), sl7⟩) (c7 : PySem.W.codeIn K cd7 "is_beats" = true) (k7 : PySem.W.keepIn K (.ref f7) = true)
    {f8 : Addr} {od8 an8 : Option Addr} {sl8 : Array (Option Value)} {oc8 kV8 dc8 pm8 cd8 ct8 : Value} (a8 : PySem.W.nsIn K mainGlobals "check_reads" = some (some (.ref f8))) (l8 : K.lookup f8 = some ⟨oc8, od8, .func (PySem.W.fnOf "check_reads" "check_reads" (defArgs s_check_reads) (defBody s_check_reads) (defScope s_check_reads) .none kV8 dc8 pm8 an8 cd8 ct8), sl8⟩) (c8 : PySem.W.codeIn K cd8 "check_reads" = true) (k8 : PySem.W.keepIn K (.ref f8) = true)
    {f9 : Addr} {od9 an9 : Option Addr} {sl9 : Array (Option Value)} {oc9 kV9 dc9 pm9 cd9 ct9 : Value} (a9 : PySem.W.nsIn K mainGlobals "check_length" = some (some (.ref f9))) (l9 : K.lookup f9 = some ⟨oc9, od9, .func (PySem.W.fnOf "check_length" "check_length" (defArgs s_check_length) (defBody s_check_length) (defScope s_check_length) .none kV9 dc9 pm9 an9 cd9 ct9), sl9⟩) (c9 : PySem.W.codeIn K cd9 "check_length" = true) (k9 : PySem.W.keepIn K (.ref f9) = true)
    {f10 : Addr} {od10 an10 : Option Addr} {sl10 : Array (Option Value)} {oc10 kV10 dc10 pm10 cd10 ct10 : Value} (a10 : PySem.W.nsIn K mainGlobals "asked_of" = some (some (.ref f10))) (l10 : K.lookup f10 = some ⟨oc10, od10, .func (PySem.W.fnOf "asked_of" "asked_of" (defArgs s_asked_of) (defBody s_asked_of) (defScope s_asked_of) .none kV10 dc10 pm10 an10 cd10 ct10), sl10⟩) (c10 : PySem.W.codeIn K cd10 "asked_of" = true) (k10 : PySem.W.keepIn K (.ref f10) = true)
    {f11 : Addr} {od11 an11 : Option Addr} {sl11 : Array (Option Value)} {oc11 kV11 dc11 pm11 cd11 ct11 : Value} (a11 : PySem.W.nsIn K mainGlobals "asked" = some (some (.ref f11))) (l11 : K.lookup f11 = some ⟨oc11, od11, .func (PySem.W.fnOf "asked" "asked" (defArgs s_asked) (defBody s_asked) (defScope s_asked) .none kV11 dc11 pm11 an11 cd11 ct11), sl11⟩) (c11 : PySem.W.codeIn K cd11 "asked" = true) (k11 : PySem.W.keepIn K (.ref f11) = true)
    {f12 : Addr} {od12 an12 : Option Addr} {sl12 : Array (Option Value)} {oc12 kV12 dc12 pm12 cd12 ct12 : Value} (a12 : PySem.W.nsIn K mainGlobals "check_writes" = some (some (.ref f12))) (l12 : K.lookup f12 = some ⟨oc12, od12, .func (PySem.W.fnOf "check_writes" "check_writes" (defArgs s_check_writes) (defBody s_check_writes) (defScope s_check_writes) .none kV12 dc12 pm12 an12 cd12 ct12), sl12⟩) (c12 : PySem.W.codeIn K cd12 "check_writes" = true) (k12 : PySem.W.keepIn K (.ref f12) = true)
    {f13 : Addr} {od13 an13 : Option Addr} {sl13 : Array (Option Value)} {oc13 kV13 dc13 pm13 cd13 ct13 : Value} (a13 : PySem.W.nsIn K mainGlobals "waits_by" = some (some (.ref f13))) (l13 : K.lookup f13 = some ⟨oc13, od13, .func (PySem.W.fnOf "waits_by" "waits_by" (defArgs s_waits_by) (defBody s_waits_by) (defScope s_waits_by) .none kV13 dc13 pm13 an13 cd13 ct13), sl13⟩) (c13 : PySem.W.codeIn K cd13 "waits_by" = true) (k13 : PySem.W.keepIn K (.ref f13) = true)
    {f14 : Addr} {od14 an14 : Option Addr} {sl14 : Array (Option Value)} {oc14 kV14 dc14 pm14 cd14 ct14 : Value} (a14 : PySem.W.nsIn K mainGlobals "least_of" = some (some (.ref f14))) (l14 : K.lookup f14 = some ⟨oc14, od14, .func (PySem.W.fnOf "least_of" "least_of" (defArgs s_least_of) (defBody s_least_of) (defScope s_least_of) .none kV14 dc14 pm14 an14 cd14 ct14), sl14⟩) (c14 : PySem.W.codeIn K cd14 "least_of" = true) (k14 : PySem.W.keepIn K (.ref f14) = true)
    {f15 : Addr} {od15 an15 : Option Addr} {sl15 : Array (Option Value)} {oc15 kV15 dc15 pm15 cd15 ct15 : Value} (a15 : PySem.W.nsIn K mainGlobals "least_cost" = some (some (.ref f15))) (l15 : K.lookup f15 = some ⟨oc15, od15, .func (PySem.W.fnOf "least_cost" "least_cost" (defArgs s_least_cost) (defBody s_least_cost) (defScope s_least_cost) .none kV15 dc15 pm15 an15 cd15 ct15), sl15⟩) (c15 : PySem.W.codeIn K cd15 "least_cost" = true) (k15 : PySem.W.keepIn K (.ref f15) = true)
    {f16 : Addr} {od16 an16 : Option Addr} {sl16 : Array (Option Value)} {oc16 kV16 dc16 pm16 cd16 ct16 : Value} (a16 : PySem.W.nsIn K mainGlobals "_law_of" = some (some (.ref f16))) (l16 : K.lookup f16 = some ⟨oc16, od16, .func (PySem.W.fnOf "_law_of" "_law_of" (defArgs s__law_of) (defBody s__law_of) (defScope s__law_of) .none kV16 dc16 pm16 an16 cd16 ct16), sl16⟩) (c16 : PySem.W.codeIn K cd16 "_law_of" = true) (k16 : PySem.W.keepIn K (.ref f16) = true)
    {f17 : Addr} {od17 an17 : Option Addr} {sl17 : Array (Option Value)} {oc17 kV17 dc17 pm17 cd17 ct17 : Value} (a17 : PySem.W.nsIn K mainGlobals "_law_day" = some (some (.ref f17))) (l17 : K.lookup f17 = some ⟨oc17, od17, .func (PySem.W.fnOf "_law_day" "_law_day" (defArgs s__law_day) (defBody s__law_day) (defScope s__law_day) .none kV17 dc17 pm17 an17 cd17 ct17), sl17⟩) (c17 : PySem.W.codeIn K cd17 "_law_day" = true) (k17 : PySem.W.keepIn K (.ref f17) = true)
    {f18 : Addr} {od18 an18 : Option Addr} {sl18 : Array (Option Value)} {oc18 kV18 dc18 pm18 cd18 ct18 : Value} (a18 : PySem.W.nsIn K mainGlobals "done_of" = some (some (.ref f18))) (l18 : K.lookup f18 = some ⟨oc18, od18, .func (PySem.W.fnOf "done_of" "done_of" (defArgs s_done_of) (defBody s_done_of) (defScope s_done_of) .none kV18 dc18 pm18 an18 cd18 ct18), sl18⟩) (c18 : PySem.W.codeIn K cd18 "done_of" = true) (k18 : PySem.W.keepIn K (.ref f18) = true)
    {f19 : Addr} {od19 an19 : Option Addr} {sl19 : Array (Option Value)} {oc19 kV19 dc19 pm19 cd19 ct19 : Value} (a19 : PySem.W.nsIn K mainGlobals "done" = some (some (.ref f19))) (l19 : K.lookup f19 = some ⟨oc19, od19, .func (PySem.W.fnOf "done" "done" (defArgs s_done) (defBody s_done) (defScope s_done) .none kV19 dc19 pm19 an19 cd19 ct19), sl19⟩) (c19 : PySem.W.codeIn K cd19 "done" = true) (k19 : PySem.W.keepIn K (.ref f19) = true)
    {f20 : Addr} {od20 an20 : Option Addr} {sl20 : Array (Option Value)} {oc20 kV20 dc20 pm20 cd20 ct20 : Value} (a20 : PySem.W.nsIn K mainGlobals "fresh_of" = some (some (.ref f20))) (l20 : K.lookup f20 = some ⟨oc20, od20, .func (PySem.W.fnOf "fresh_of" "fresh_of" (defArgs s_fresh_of) (defBody s_fresh_of) (defScope s_fresh_of) .none kV20 dc20 pm20 an20 cd20 ct20), sl20⟩) (c20 : PySem.W.codeIn K cd20 "fresh_of" = true) (k20 : PySem.W.keepIn K (.ref f20) = true)
    {f21 : Addr} {od21 an21 : Option Addr} {sl21 : Array (Option Value)} {oc21 kV21 dc21 pm21 cd21 ct21 : Value} (a21 : PySem.W.nsIn K mainGlobals "fewest_asked" = some (some (.ref f21))) (l21 : K.lookup f21 = some ⟨oc21, od21, .func (PySem.W.fnOf "fewest_asked" "fewest_asked" (defArgs s_fewest_asked) (defBody s_fewest_asked) (defScope s_fewest_asked) .none kV21 dc21 pm21 an21 cd21 ct21), sl21⟩) (c21 : PySem.W.codeIn K cd21 "fewest_asked" = true) (k21 : PySem.W.keepIn K (.ref f21) = true)
    {f22 : Addr} {od22 an22 : Option Addr} {sl22 : Array (Option Value)} {oc22 kV22 dc22 pm22 cd22 ct22 : Value} (a22 : PySem.W.nsIn K mainGlobals "wrong_of" = some (some (.ref f22))) (l22 : K.lookup f22 = some ⟨oc22, od22, .func (PySem.W.fnOf "wrong_of" "wrong_of" (defArgs s_wrong_of) (defBody s_wrong_of) (defScope s_wrong_of) .none kV22 dc22 pm22 an22 cd22 ct22), sl22⟩) (c22 : PySem.W.codeIn K cd22 "wrong_of" = true) (k22 : PySem.W.keepIn K (.ref f22) = true)
    {f23 : Addr} {od23 an23 : Option Addr} {sl23 : Array (Option Value)} {oc23 kV23 dc23 pm23 cd23 ct23 : Value} (a23 : PySem.W.nsIn K mainGlobals "lengths_right" = some (some (.ref f23))) (l23 : K.lookup f23 = some ⟨oc23, od23, .func (PySem.W.fnOf "lengths_right" "lengths_right" (defArgs s_lengths_right) (defBody s_lengths_right) (defScope s_lengths_right) .none kV23 dc23 pm23 an23 cd23 ct23), sl23⟩) (c23 : PySem.W.codeIn K cd23 "lengths_right" = true) (k23 : PySem.W.keepIn K (.ref f23) = true)
    {f24 : Addr} {od24 an24 : Option Addr} {sl24 : Array (Option Value)} {oc24 kV24 dc24 pm24 cd24 ct24 : Value} (a24 : PySem.W.nsIn K mainGlobals "wrong" = some (some (.ref f24))) (l24 : K.lookup f24 = some ⟨oc24, od24, .func (PySem.W.fnOf "wrong" "wrong" (defArgs s_wrong) (defBody s_wrong) (defScope s_wrong) .none kV24 dc24 pm24 an24 cd24 ct24), sl24⟩) (c24 : PySem.W.codeIn K cd24 "wrong" = true) (k24 : PySem.W.keepIn K (.ref f24) = true)
    {f25 : Addr} {od25 an25 : Option Addr} {sl25 : Array (Option Value)} {oc25 kV25 dc25 pm25 cd25 ct25 : Value} (a25 : PySem.W.nsIn K mainGlobals "_law_waits" = some (some (.ref f25))) (l25 : K.lookup f25 = some ⟨oc25, od25, .func (PySem.W.fnOf "_law_waits" "_law_waits" (defArgs s__law_waits) (defBody s__law_waits) (defScope s__law_waits) .none kV25 dc25 pm25 an25 cd25 ct25), sl25⟩) (c25 : PySem.W.codeIn K cd25 "_law_waits" = true) (k25 : PySem.W.keepIn K (.ref f25) = true)
    {f26 : Addr} {od26 an26 : Option Addr} {sl26 : Array (Option Value)} {oc26 kV26 dc26 pm26 cd26 ct26 : Value} (a26 : PySem.W.nsIn K mainGlobals "_law_least" = some (some (.ref f26))) (l26 : K.lookup f26 = some ⟨oc26, od26, .func (PySem.W.fnOf "_law_least" "_law_least" (defArgs s__law_least) (defBody s__law_least) (defScope s__law_least) .none kV26 dc26 pm26 an26 cd26 ct26), sl26⟩) (c26 : PySem.W.codeIn K cd26 "_law_least" = true) (k26 : PySem.W.keepIn K (.ref f26) = true)
    {f27 : Addr} {od27 an27 : Option Addr} {sl27 : Array (Option Value)} {oc27 kV27 dc27 pm27 cd27 ct27 : Value} (a27 : PySem.W.nsIn K mainGlobals "_law_cost" = some (some (.ref f27))) (l27 : K.lookup f27 = some ⟨oc27, od27, .func (PySem.W.fnOf "_law_cost" "_law_cost" (defArgs s__law_cost) (defBody s__law_cost) (defScope s__law_cost) .none kV27 dc27 pm27 an27 cd27 ct27), sl27⟩) (c27 : PySem.W.codeIn K cd27 "_law_cost" = true) (k27 : PySem.W.keepIn K (.ref f27) = true)
    {f28 : Addr} {od28 an28 : Option Addr} {sl28 : Array (Option Value)} {oc28 kV28 dc28 pm28 cd28 ct28 : Value} (a28 : PySem.W.nsIn K mainGlobals "cost_of" = some (some (.ref f28))) (l28 : K.lookup f28 = some ⟨oc28, od28, .func (PySem.W.fnOf "cost_of" "cost_of" (defArgs s_cost_of) (defBody s_cost_of) (defScope s_cost_of) .none kV28 dc28 pm28 an28 cd28 ct28), sl28⟩) (c28 : PySem.W.codeIn K cd28 "cost_of" = true) (k28 : PySem.W.keepIn K (.ref f28) = true)
    {f29 : Addr} {od29 an29 : Option Addr} {sl29 : Array (Option Value)} {oc29 kV29 dc29 pm29 cd29 ct29 : Value} (a29 : PySem.W.nsIn K mainGlobals "shows_cost" = some (some (.ref f29))) (l29 : K.lookup f29 = some ⟨oc29, od29, .func (PySem.W.fnOf "shows_cost" "shows_cost" (defArgs s_shows_cost) (defBody s_shows_cost) (defScope s_shows_cost) .none kV29 dc29 pm29 an29 cd29 ct29), sl29⟩) (c29 : PySem.W.codeIn K cd29 "shows_cost" = true) (k29 : PySem.W.keepIn K (.ref f29) = true)
    {f30 : Addr} {od30 an30 : Option Addr} {sl30 : Array (Option Value)} {oc30 kV30 dc30 pm30 cd30 ct30 : Value} (a30 : PySem.W.nsIn K mainGlobals "_law_right" = some (some (.ref f30))) (l30 : K.lookup f30 = some ⟨oc30, od30, .func (PySem.W.fnOf "_law_right" "_law_right" (defArgs s__law_right) (defBody s__law_right) (defScope s__law_right) .none kV30 dc30 pm30 an30 cd30 ct30), sl30⟩) (c30 : PySem.W.codeIn K cd30 "_law_right" = true) (k30 : PySem.W.keepIn K (.ref f30) = true)
    {f31 : Addr} {od31 an31 : Option Addr} {sl31 : Array (Option Value)} {oc31 kV31 dc31 pm31 cd31 ct31 : Value} (a31 : PySem.W.nsIn K mainGlobals "law" = some (some (.ref f31))) (l31 : K.lookup f31 = some ⟨oc31, od31, .func (PySem.W.fnOf "law" "law" (defArgs s_law) (defBody s_law) (defScope s_law) .none kV31 dc31 pm31 an31 cd31 ct31), sl31⟩) (c31 : PySem.W.codeIn K cd31 "law" = true) (k31 : PySem.W.keepIn K (.ref f31) = true)
    {v0 : Value} (q0 : PySem.W.nsIn K mainGlobals "MOST_READS" = some (some v0)) (r0 : RelV (.int 30) v0)
    {v1 : Value} (q1 : PySem.W.nsIn K mainGlobals "MOST_BEAT" = some (some v1)) (r1 : RelV (.int 1000000) v1)
    {v2 : Value} (q2 : PySem.W.nsIn K mainGlobals "PAIR" = some (some v2)) (r2 : RelV (.int 2) v2)
    (z0 : PySem.W.nsIn K mainGlobals "abs" = some none)
    (z1 : PySem.W.nsIn K mainGlobals "all" = some none)
    (z2 : PySem.W.nsIn K mainGlobals "any" = some none)
    (z3 : PySem.W.nsIn K mainGlobals "bool" = some none)
    (z4 : PySem.W.nsIn K mainGlobals "enumerate" = some none)
    (z5 : PySem.W.nsIn K mainGlobals "int" = some none)
    (z6 : PySem.W.nsIn K mainGlobals "isinstance" = some none)
    (z7 : PySem.W.nsIn K mainGlobals "len" = some none)
    (z8 : PySem.W.nsIn K mainGlobals "list" = some none)
    (z9 : PySem.W.nsIn K mainGlobals "max" = some none)
    (z10 : PySem.W.nsIn K mainGlobals "min" = some none)
    (z11 : PySem.W.nsIn K mainGlobals "range" = some none)
    (z12 : PySem.W.nsIn K mainGlobals "repr" = some none)
    (z13 : PySem.W.nsIn K mainGlobals "set" = some none)
    (z14 : PySem.W.nsIn K mainGlobals "sorted" = some none)
    (z15 : PySem.W.nsIn K mainGlobals "sum" = some none)
    (z16 : PySem.W.nsIn K mainGlobals "tuple" = some none)
    (z17 : PySem.W.nsIn K mainGlobals "zip" = some none)
    : Tp K mg where
  f__law_places := f0
  fd__law_places := _
  F__law_places := fun_mk (st := s__law_places) l0 c0 k0
  g__law_places := PySem.W.mg_of X G a0
  b__law_places := (fun_mk (st := s__law_places) l0 c0 k0).binds (ps := ["script", "most"]) fun _ _ _ _ _ _ us hl => match us, hl with | [_, _], _ => rfl
  f__law_pot := f1
  fd__law_pot := _
  F__law_pot := fun_mk (st := s__law_pot) l1 c1 k1
  g__law_pot := PySem.W.mg_of X G a1
  b__law_pot := (fun_mk (st := s__law_pot) l1 c1 k1).binds (ps := ["script", "place"]) fun _ _ _ _ _ _ us hl => match us, hl with | [_, _], _ => rfl
  f__law_take := f2
  fd__law_take := _
  F__law_take := fun_mk (st := s__law_take) l2 c2 k2
  g__law_take := PySem.W.mg_of X G a2
  b__law_take := (fun_mk (st := s__law_take) l2 c2 k2).binds (ps := ["pot", "upto"]) fun _ _ _ _ _ _ us hl => match us, hl with | [_, _], _ => rfl
  f_is_rising := f3
  fd_is_rising := _
  F_is_rising := fun_mk (st := s_is_rising) l3 c3 k3
  g_is_rising := PySem.W.mg_of X G a3
  b_is_rising := (fun_mk (st := s_is_rising) l3 c3 k3).binds (ps := ["values"]) fun _ _ _ _ _ _ us hl => match us, hl with | [_], _ => rfl
  f_is_tuple := f4
  fd_is_tuple := _
  F_is_tuple := fun_mk (st := s_is_tuple) l4 c4 k4
  g_is_tuple := PySem.W.mg_of X G a4
  b_is_tuple := (fun_mk (st := s_is_tuple) l4 c4 k4).binds (ps := ["value", "least", "most"]) fun _ _ _ _ _ _ us hl => match us, hl with | [_, _, _], _ => rfl
  f_is_whole := f5
  fd_is_whole := _
  F_is_whole := fun_mk (st := s_is_whole) l5 c5 k5
  g_is_whole := PySem.W.mg_of X G a5
  b_is_whole := (fun_mk (st := s_is_whole) l5 c5 k5).binds (ps := ["value"]) fun _ _ _ _ _ _ us hl => match us, hl with | [_], _ => rfl
  f_is_integer := f6
  fd_is_integer := _
  F_is_integer := fun_mk (st := s_is_integer) l6 c6 k6
  g_is_integer := PySem.W.mg_of X G a6
  b_is_integer := (fun_mk (st := s_is_integer) l6 c6 k6).binds (ps := ["value", "low", "high"]) fun _ _ _ _ _ _ us hl => match us, hl with | [_, _, _], _ => rfl
  f_is_beats := f7
  fd_is_beats := _
  F_is_beats := fun_mk (st := s_is_beats) l7 c7 k7
  g_is_beats := PySem.W.mg_of X G a7
  b_is_beats := (fun_mk (st := s_is_beats) l7 c7 k7).binds (ps := ["value"]) fun _ _ _ _ _ _ us hl => match us, hl with | [_], _ => rfl
  f_check_reads := f8
  fd_check_reads := _
  F_check_reads := fun_mk (st := s_check_reads) l8 c8 k8
  g_check_reads := PySem.W.mg_of X G a8
  b_check_reads := (fun_mk (st := s_check_reads) l8 c8 k8).binds (ps := ["value"]) fun _ _ _ _ _ _ us hl => match us, hl with | [_], _ => rfl
  f_check_length := f9
  fd_check_length := _
  F_check_length := fun_mk (st := s_check_length) l9 c9 k9
  g_check_length := PySem.W.mg_of X G a9
  b_check_length := (fun_mk (st := s_check_length) l9 c9 k9).binds (ps := ["value"]) fun _ _ _ _ _ _ us hl => match us, hl with | [_], _ => rfl
  f_asked_of := f10
  fd_asked_of := _
  F_asked_of := fun_mk (st := s_asked_of) l10 c10 k10
  g_asked_of := PySem.W.mg_of X G a10
  b_asked_of := (fun_mk (st := s_asked_of) l10 c10 k10).binds (ps := ["reads", "length"]) fun _ _ _ _ _ _ us hl => match us, hl with | [_, _], _ => rfl
  f_asked := f11
  fd_asked := _
  F_asked := fun_mk (st := s_asked) l11 c11 k11
  g_asked := PySem.W.mg_of X G a11
  b_asked := (fun_mk (st := s_asked) l11 c11 k11).binds (ps := ["reads", "length"]) fun _ _ _ _ _ _ us hl => match us, hl with | [_, _], _ => rfl
  f_check_writes := f12
  fd_check_writes := _
  F_check_writes := fun_mk (st := s_check_writes) l12 c12 k12
  g_check_writes := PySem.W.mg_of X G a12
  b_check_writes := (fun_mk (st := s_check_writes) l12 c12 k12).binds (ps := ["value"]) fun _ _ _ _ _ _ us hl => match us, hl with | [_], _ => rfl
  f_waits_by := f13
  fd_waits_by := _
  F_waits_by := fun_mk (st := s_waits_by) l13 c13 k13
  g_waits_by := PySem.W.mg_of X G a13
  b_waits_by := (fun_mk (st := s_waits_by) l13 c13 k13).binds (ps := ["beat", "later", "writes", "length"]) fun _ _ _ _ _ _ us hl => match us, hl with | [_, _, _, _], _ => rfl
  f_least_of := f14
  fd_least_of := _
  F_least_of := fun_mk (st := s_least_of) l14 c14 k14
  g_least_of := PySem.W.mg_of X G a14
  b_least_of := (fun_mk (st := s_least_of) l14 c14 k14).binds (ps := ["reads", "writes", "length", "price"]) fun _ _ _ _ _ _ us hl => match us, hl with | [_, _, _, _], _ => rfl
  f_least_cost := f15
  fd_least_cost := _
  F_least_cost := fun_mk (st := s_least_cost) l15 c15 k15
  g_least_cost := PySem.W.mg_of X G a15
  b_least_cost := (fun_mk (st := s_least_cost) l15 c15 k15).binds (ps := ["reads", "writes", "length", "price"]) fun _ _ _ _ _ _ us hl => match us, hl with | [_, _, _, _], _ => rfl
  f__law_of := f16
  fd__law_of := _
  F__law_of := fun_mk (st := s__law_of) l16 c16 k16
  g__law_of := PySem.W.mg_of X G a16
  b__law_of := (fun_mk (st := s__law_of) l16 c16 k16).binds (ps := ["pot", "some"]) fun _ _ _ _ _ _ us hl => match us, hl with | [_, _], _ => rfl
  f__law_day := f17
  fd__law_day := _
  F__law_day := fun_mk (st := s__law_day) l17 c17 k17
  g__law_day := PySem.W.mg_of X G a17
  b__law_day := (fun_mk (st := s__law_day) l17 c17 k17).binds (ps := ["reads", "writes", "length"]) fun _ _ _ _ _ _ us hl => match us, hl with | [_, _, _], _ => rfl
  f_done_of := f18
  fd_done_of := _
  F_done_of := fun_mk (st := s_done_of) l18 c18 k18
  g_done_of := PySem.W.mg_of X G a18
  b_done_of := (fun_mk (st := s_done_of) l18 c18 k18).binds (ps := ["writes", "given", "length"]) fun _ _ _ _ _ _ us hl => match us, hl with | [_, _, _], _ => rfl
  f_done := f19
  fd_done := _
  F_done := fun_mk (st := s_done) l19 c19 k19
  g_done := PySem.W.mg_of X G a19
  b_done := (fun_mk (st := s_done) l19 c19 k19).binds (ps := ["writes", "given", "length"]) fun _ _ _ _ _ _ us hl => match us, hl with | [_, _, _], _ => rfl
  f_fresh_of := f20
  fd_fresh_of := _
  F_fresh_of := fun_mk (st := s_fresh_of) l20 c20 k20
  g_fresh_of := PySem.W.mg_of X G a20
  b_fresh_of := (fun_mk (st := s_fresh_of) l20 c20 k20).binds (ps := ["reads", "writes"]) fun _ _ _ _ _ _ us hl => match us, hl with | [_, _], _ => rfl
  f_fewest_asked := f21
  fd_fewest_asked := _
  F_fewest_asked := fun_mk (st := s_fewest_asked) l21 c21 k21
  g_fewest_asked := PySem.W.mg_of X G a21
  b_fewest_asked := (fun_mk (st := s_fewest_asked) l21 c21 k21).binds (ps := ["reads", "writes"]) fun _ _ _ _ _ _ us hl => match us, hl with | [_, _], _ => rfl
  f_wrong_of := f22
  fd_wrong_of := _
  F_wrong_of := fun_mk (st := s_wrong_of) l22 c22 k22
  g_wrong_of := PySem.W.mg_of X G a22
  b_wrong_of := (fun_mk (st := s_wrong_of) l22 c22 k22).binds (ps := ["reads", "writes", "some"]) fun _ _ _ _ _ _ us hl => match us, hl with | [_, _, _], _ => rfl
  f_lengths_right := f23
  fd_lengths_right := _
  F_lengths_right := fun_mk (st := s_lengths_right) l23 c23 k23
  g_lengths_right := PySem.W.mg_of X G a23
  b_lengths_right := (fun_mk (st := s_lengths_right) l23 c23 k23).binds (ps := ["reads", "writes"]) fun _ _ _ _ _ _ us hl => match us, hl with | [_, _], _ => rfl
  f_wrong := f24
  fd_wrong := _
  F_wrong := fun_mk (st := s_wrong) l24 c24 k24
  g_wrong := PySem.W.mg_of X G a24
  b_wrong := (fun_mk (st := s_wrong) l24 c24 k24).binds (ps := ["reads", "writes", "length"]) fun _ _ _ _ _ _ us hl => match us, hl with | [_, _, _], _ => rfl
  f__law_waits := f25
  fd__law_waits := _
  F__law_waits := fun_mk (st := s__law_waits) l25 c25 k25
  g__law_waits := PySem.W.mg_of X G a25
  b__law_waits := (fun_mk (st := s__law_waits) l25 c25 k25).binds (ps := ["asks", "writes", "length"]) fun _ _ _ _ _ _ us hl => match us, hl with | [_, _, _], _ => rfl
  f__law_least := f26
  fd__law_least := _
  F__law_least := fun_mk (st := s__law_least) l26 c26 k26
  g__law_least := PySem.W.mg_of X G a26
  b__law_least := (fun_mk (st := s__law_least) l26 c26 k26).binds (ps := ["reads", "writes", "length", "price"]) fun _ _ _ _ _ _ us hl => match us, hl with | [_, _, _, _], _ => rfl
  f__law_cost := f27
  fd__law_cost := _
  F__law_cost := fun_mk (st := s__law_cost) l27 c27 k27
  g__law_cost := PySem.W.mg_of X G a27
  b__law_cost := (fun_mk (st := s__law_cost) l27 c27 k27).binds (ps := ["reads", "writes", "length", "price", "asks"]) fun _ _ _ _ _ _ us hl => match us, hl with | [_, _, _, _, _], _ => rfl
  f_cost_of := f28
  fd_cost_of := _
  F_cost_of := fun_mk (st := s_cost_of) l28 c28 k28
  g_cost_of := PySem.W.mg_of X G a28
  b_cost_of := (fun_mk (st := s_cost_of) l28 c28 k28).binds (ps := ["reads", "writes", "length", "price", "some"]) fun _ _ _ _ _ _ us hl => match us, hl with | [_, _, _, _, _], _ => rfl
  f_shows_cost := f29
  fd_shows_cost := _
  F_shows_cost := fun_mk (st := s_shows_cost) l29 c29 k29
  g_shows_cost := PySem.W.mg_of X G a29
  b_shows_cost := (fun_mk (st := s_shows_cost) l29 c29 k29).binds (ps := ["reads", "writes", "length", "price", "value"]) fun _ _ _ _ _ _ us hl => match us, hl with | [_, _, _, _, _], _ => rfl
  f__law_right := f30
  fd__law_right := _
  F__law_right := fun_mk (st := s__law_right) l30 c30 k30
  g__law_right := PySem.W.mg_of X G a30
  b__law_right := (fun_mk (st := s__law_right) l30 c30 k30).binds (ps := ["pot"]) fun _ _ _ _ _ _ us hl => match us, hl with | [_], _ => rfl
  f_law := f31
  fd_law := _
  F_law := fun_mk (st := s_law) l31 c31 k31
  g_law := PySem.W.mg_of X G a31
  b_law := (fun_mk (st := s_law) l31 c31 k31).binds (ps := ["script"]) fun _ _ _ _ _ _ us hl => match us, hl with | [_], _ => rfl
  v_MOST_READS := v0
  g_MOST_READS := PySem.W.mg_of X G q0
  r_MOST_READS := r0
  v_MOST_BEAT := v1
  g_MOST_BEAT := PySem.W.mg_of X G q1
  r_MOST_BEAT := r1
  v_PAIR := v2
  g_PAIR := PySem.W.mg_of X G q2
  r_PAIR := r2
  n_abs := PySem.W.mg_none_of X G z0
  n_all := PySem.W.mg_none_of X G z1
  n_any := PySem.W.mg_none_of X G z2
  n_bool := PySem.W.mg_none_of X G z3
  n_enumerate := PySem.W.mg_none_of X G z4
  n_int := PySem.W.mg_none_of X G z5
  n_isinstance := PySem.W.mg_none_of X G z6
  n_len := PySem.W.mg_none_of X G z7
  n_list := PySem.W.mg_none_of X G z8
  n_max := PySem.W.mg_none_of X G z9
  n_min := PySem.W.mg_none_of X G z10
  n_range := PySem.W.mg_none_of X G z11
  n_repr := PySem.W.mg_none_of X G z12
  n_set := PySem.W.mg_none_of X G z13
  n_sorted := PySem.W.mg_none_of X G z14
  n_sum := PySem.W.mg_none_of X G z15
  n_tuple := PySem.W.mg_none_of X G z16
  n_zip := PySem.W.mg_none_of X G z17
  bl := fun s v => .of_eq rfl
end K78

set_option maxHeartbeats 200000
namespace K78
open PySem PySem.Spec PyProof.Rows L2 DL
theorem is_tuple_eval (a b : Int) (xs : List PD) : D_is_tuple [.dat (.tuple xs), .dat (.int a), .dat (.int b)] = some (.dat (.bool (decide (a ≤ xs.length) && decide ((xs.length : Int) ≤ b))), noCn) := by
  unfold D_is_tuple den B_is_tuple
  simp [andD, isDic, isiD, tyD, fstC]
  by_cases h : a ≤ xs.length <;> simp [h]
theorem is_whole_eval (a : Int) : D_is_whole [.dat (.int a)] = some (.dat (.bool true), noCn) := by
  unfold D_is_whole den B_is_whole
  simp [andD, notD, isDic, isiD, tyD, fstC]
theorem is_integer_eval (v a b : Int) : D_is_integer [.dat (.int v), .dat (.int a), .dat (.int b)] = some (.dat (.bool (decide (a ≤ v) && decide (v ≤ b))), noCn) := by
  unfold D_is_integer den B_is_integer
  simp [andD, notD, isDic, isiD, tyD, fstC, callN_app, is_whole_eval]
  by_cases h : a ≤ v <;> simp [h]
/-! asked_of -/
def stepA (len : Int) (f : List Int) (x : Int) : List Int := match f.getLast? with
  | none => f ++ [x]
  | some z => if z + len ≤ x then f ++ [x] else f
def askedL (rs : List Int) (len : Int) : List Int := rs.foldl (stepA len) []
theorem stepA_len (len : Int) (f : List Int) (x : Int) : (stepA len f x).length ≤ f.length + 1 := by
  unfold stepA
  split
  · simp
  · split <;> simp
theorem foldA_len (len : Int) : ∀ (rs f : List Int), (rs.foldl (stepA len) f).length ≤ f.length + rs.length
  | [], f => by simp
  | x :: rs, f => by
    have h1 := foldA_len len rs (stepA len f x)
    have h2 := stepA_len len f x
    simp only [List.foldl_cons, List.length_cons]
    omega
theorem asked_of_eval (rs : List Int) (len : Int) (hl : rs.length ≤ 1000) : D_asked_of [.dat (tI rs), .dat (.int len)] = some (.dat (tI (askedL rs len)), noCn) := by
  unfold D_asked_of den
  have key : ∀ (xs : List Int) (f : List Int) (o : Option RV), f.length + xs.length ≤ 1000 → ∃ o', forM (setD 3) (iteM (orT (tocmp eqB 2 (fz (mkLst nilA))) (tbin geB (gv 3) (frzV (bin addV (oix 2 (una negI (DL.ret (.int 1)))) (gv 1))))) (bnd (appM 2 (gv 3)) fun _ => nxt) nxt) (xs.map .int) [some (.dat (tI rs)), some (.dat (.int len)), some (.own (.lst (f.map .int))), o] = .ok .nx [some (.dat (tI rs)), some (.dat (.int len)), some (.own (.lst ((xs.foldl (stepA len) f).map .int))), o'] := by
    intro xs
    induction xs with
    | nil => intro f o _; exact ⟨o, rfl⟩
    | cons x xs ih =>
      intro f o hf
      rw [List.length_cons] at hf
      obtain ⟨o', h⟩ := ih (stepA len f x) (some (.dat (.int x))) (by have := stepA_len len f x; omega)
      refine ⟨o', ?_⟩
      rw [List.map_cons, forM_cons]
      rcases List.eq_nil_or_concat f with rfl | ⟨l, z, rfl⟩
      · simp [stepA, lim] at h ⊢
        exact h
      · rw [List.concat_eq_append] at h hf ⊢
        rw [List.length_append, List.length_singleton] at hf
        by_cases c : z + len ≤ x
        · have es : stepA len (l ++ [z]) x = (l ++ [z]) ++ [x] := by unfold stepA; simp [c]
          rw [es] at h
          have hlim : l.length + 1 < lim := by unfold lim; omega
          simp [c, es, hlim] at h ⊢
          exact h
        · have es : stepA len (l ++ [z]) x = l ++ [z] := by unfold stepA; simp [c]
          rw [es] at h
          simp [c, es] at h ⊢
          exact h
  obtain ⟨o', h⟩ := key rs [] none (by simpa using hl)
  unfold B_asked_of
  simp [fstC] at h ⊢
  simp [h, fstC, askedL]
end K78

namespace K78
open PySem PySem.Spec PyProof.Rows L2 DL
def ahead (ws : List Int) (l b : Int) : Bool := ws.any fun w => decide (l < w) && decide (w ≤ b)
def stepF (ws : List Int) (s : List Int × Option Int) (x : Int) : List Int × Option Int :=
  (match s.2 with | none => s.1 ++ [x] | some l => if ahead ws l x = true then s.1 ++ [x] else s.1, some x)
def freshL (rs ws : List Int) : List Int := (rs.foldl (stepF ws) ([], none)).1
theorem stepF_len (ws : List Int) (s : List Int × Option Int) (x : Int) : (stepF ws s x).1.length ≤ s.1.length + 1 := by
  unfold stepF
  rcases s with ⟨f, _ | l⟩
  · simp
  · simp only []
    split <;> simp
theorem fresh_of_eval (rs ws : List Int) (hl : rs.length ≤ 1000) (hw : ws.length ≤ 1000) : D_fresh_of [.dat (tI rs), .dat (tI ws)] = some (.dat (tI (freshL rs ws)), noCn) := by
  unfold D_fresh_of den
  have key : ∀ (xs : List Int) (f : List Int) (l : Option Int) (o : Option RV), f.length + xs.length ≤ 1000 → ∃ o', forM (setD 4) (seqM (iteM (orT (tbin isB (gv 3) (DL.ret .none)) (bnd (ap1 anyD (fz (lcM (itM (gv 1)) (setD 5) yesT (chain ltB leB (gv 3) (gv 5) (gv 4)) [5]))) boolOf)) (bnd (appM 2 (gv 4)) fun _ => nxt) nxt) (stM 3 .dat (gv 4))) (xs.map .int) [some (.dat (tI rs)), some (.dat (tI ws)), some (.own (.lst (f.map .int))), some (.dat (oI l)), o, none] =
      .ok .nx [some (.dat (tI rs)), some (.dat (tI ws)), some (.own (.lst ((xs.foldl (stepF ws) (f, l)).1.map .int))), some (.dat (oI (xs.foldl (stepF ws) (f, l)).2)), o', none] := by
    intro xs
    induction xs with
    | nil => intro f l o _; exact ⟨o, rfl⟩
    | cons x xs ih =>
      intro f l o hf
      rw [List.length_cons] at hf
      obtain ⟨o', h⟩ := ih (stepF ws (f, l) x).1 (stepF ws (f, l) x).2 (some (.dat (.int x))) (by have := stepF_len ws (f, l) x; simp only [] at this; omega)
      refine ⟨o', ?_⟩
      rw [List.map_cons, forM_cons]
      have hf1 : f.length < lim := lim_lt (by omega)
      cases l with
      | none =>
        simp [stepF, hf1] at h ⊢
        exact h
      | some l =>
        have hc := lcM_ints (fi := itM (gv 1)) (g := setD 5) (tt := yesT) (fe := chain ltB leB (gv 3) (gv 5) (gv 4)) (vs := [5]) (ds := [some (.dat (tI rs)), some (.dat (tI ws)), some (.own (.lst (f.map .int))), some (.dat (.int l)), some (.dat (.int x)), none]) (ws := ws)
          (fun w => some (.bool (decide (l < w) && decide (w ≤ x)))) (by simp) (by simp [noOwn]) (by simp) (lim_of hw) (fun w _ => by
            by_cases c : l < w
            · exact ⟨_, by simp [wipeD, c]; rfl, by simp [wipeD]⟩
            · exact ⟨_, by simp [wipeD, c]; rfl, by simp [wipeD]⟩)
        rw [fm_bool, List.map_map] at hc
        have hany : (ws.any fun w => decide (l < w) && decide (w ≤ x)) = ahead ws l x := rfl
        by_cases c : ahead ws l x = true
        · simp [stepF, c] at h
          simp [hc, hany, c, hf1, stepF]
          simpa using h
        · simp [stepF, c] at h
          simp [hc, hany, c, hf1, stepF]
          simpa using h
  obtain ⟨o', h⟩ := key rs [] none none (by simpa using hl)
  unfold B_fresh_of
  simp at h
  simp [h, fstC, freshL]
end K78

namespace K78
open PySem PySem.Spec PyProof.Rows L2 DL
def risingB (ns : List Int) : Bool := (ns.zip ns.tail).all fun p => decide (p.1 < p.2)
theorem is_rising_eval (ns : List Int) (hl : ns.length ≤ 1000) : D_is_rising [.dat (tI ns)] = some (.dat (.bool (risingB ns)), noCn) := by
  unfold D_is_rising den B_is_rising
  have hc := lcM_enc pI (fun p => some (.bool (decide (p.1 < p.2)))) (fi := zipM (gv 0) (frzV (slM (gv 0) (intO (DL.ret (.int 1))) (DL.ret none)))) (g := gTupM 2 (gConsM (setD 1) (gConsM (setD 2) gNilM))) (tt := yesT) (fe := bin (bD ltB) (gv 1) (gv 2)) (vs := [1, 2]) (ds := [some (.dat (tI ns)), none, none]) (ns.zip ns.tail)
    (by simp [slV, cut_from1, zipL_tail]) (by simp [noOwn]) (by simp) (lim_of (by rw [List.length_zip]; exact Nat.le_trans (Nat.min_le_left _ _) hl)) (fun p _ => ⟨_, by simp [wipeD, pI]; rfl, by simp [wipeD]⟩)
  rw [fm_boolA] at hc
  simp [hc, fstC, risingB]
def beatsB (ns : List Int) : Bool := decide (ns.length ≤ 30) && (ns.all fun x => decide (0 ≤ x) && decide (x ≤ 1000000)) && risingB ns
theorem is_beats_eval (ns : List Int) (hl : ns.length ≤ 1000) : D_is_beats [.dat (tI ns)] = some (.dat (.bool (beatsB ns)), noCn) := by
  unfold D_is_beats den B_is_beats
  have hc := lcM_ints (fi := itM (gv 0)) (g := setD 1) (tt := yesT) (fe := frzV (callN 3 D_is_integer (consR .dat (gv 1) (consR .dat (DL.ret (.int 0)) (consR .dat (DL.ret (.int 1000000)) (DL.ret [])))))) (vs := [1]) (ds := [some (.dat (tI ns)), none]) (ws := ns)
    (fun x => some (.bool (decide (0 ≤ x) && decide (x ≤ 1000000)))) (by simp) (by simp [noOwn]) (by simp) (lim_of hl) (fun w _ => ⟨_, by simp [wipeD, callN_app, is_integer_eval]; rfl, by simp [wipeD]⟩)
  rw [fm_boolA] at hc
  by_cases h1 : ns.length ≤ 30
  · have h3 : ¬ (30 < (ns.length : Int)) := by omega
    have h4 : (ns.length : Int) ≤ 30 := by omega
    by_cases h2 : (ns.all fun x => decide (0 ≤ x) && decide (x ≤ 1000000)) = true
    · simp only [beatsB, h1, h2]
      simp [callN_app, is_tuple_eval, h3, h4, hc, h2, fstC, is_rising_eval ns hl]
    · simp only [beatsB, h1, h2]
      simp [callN_app, is_tuple_eval, h3, h4, hc, h2, fstC, is_rising_eval ns hl]
  · have h3 : (30 < (ns.length : Int)) := by omega
    have h4 : ¬ (ns.length : Int) ≤ 30 := by omega
    simp only [beatsB, h1]
    simp [callN_app, is_tuple_eval, h3, h4, hc, fstC, is_rising_eval ns hl]
theorem check_reads_eval (ns : List Int) (hb : beatsB ns = true) (hl : ns.length ≤ 1000) : D_check_reads [.dat (tI ns)] = some (.dat .none, noCn) := by
  unfold D_check_reads den B_check_reads
  simp [callN_app, is_beats_eval ns hl, hb, fstC]
theorem check_writes_eval (ns : List Int) (hb : beatsB ns = true) (hl : ns.length ≤ 1000) : D_check_writes [.dat (tI ns)] = some (.dat .none, noCn) := by
  unfold D_check_writes den B_check_writes
  simp [callN_app, is_beats_eval ns hl, hb, fstC]
theorem check_length_eval (n : Int) (h1 : 1 ≤ n) (h2 : n ≤ 1000000) : D_check_length [.dat (.int n)] = some (.dat .none, noCn) := by
  unfold D_check_length den B_check_length
  simp [callN_app, is_integer_eval, h1, h2, fstC]
theorem asked_eval (rs : List Int) (n : Int) (hb : beatsB rs = true) (hl : rs.length ≤ 1000) (h1 : 1 ≤ n) (h2 : n ≤ 1000000) : D_asked [.dat (tI rs), .dat (.int n)] = some (.dat (tI (askedL rs n)), noCn) := by
  unfold D_asked den B_asked
  simp [callN_app, check_reads_eval rs hb hl, check_length_eval n h1 h2, asked_of_eval rs n hl, fstC]
theorem fewest_asked_eval (rs ws : List Int) (hb : beatsB rs = true) (hl : rs.length ≤ 1000) (hb2 : beatsB ws = true) (hl2 : ws.length ≤ 1000) : D_fewest_asked [.dat (tI rs), .dat (tI ws)] = some (.dat (tI (freshL rs ws)), noCn) := by
  unfold D_fewest_asked den B_fewest_asked
  simp [callN_app, check_reads_eval rs hb hl, check_writes_eval ws hb2 hl2, fresh_of_eval rs ws hl hl2, fstC]
end K78

namespace K78
open PySem PySem.Spec PyProof.Rows L2 DL
/-! wrong_of -/
def stepW (ws some_ : List Int) (s : List Int × Option Int) (x : Int) : List Int × Option Int :=
  let l := if x ∈ some_ then some x else s.2
  (match l with | none => s.1 | some l => if ahead ws l x = true then s.1 ++ [x] else s.1, l)
def wrongL (rs ws some_ : List Int) : List Int := (rs.foldl (stepW ws some_) ([], none)).1
theorem stepW_len (ws so : List Int) (s : List Int × Option Int) (x : Int) : (stepW ws so s x).1.length ≤ s.1.length + 1 := by
  unfold stepW
  simp only []
  split
  · omega
  · split <;> simp
theorem wrong_of_eval (rs ws so : List Int) (hl : rs.length ≤ 1000) (hw : ws.length ≤ 1000) : D_wrong_of [.dat (tI rs), .dat (tI ws), .dat (tI so)] = some (.dat (tI (wrongL rs ws so)), noCn) := by
  unfold D_wrong_of den
  have key : ∀ (xs : List Int) (f : List Int) (l : Option Int) (o : Option RV), f.length + xs.length ≤ 1000 → ∃ o', forM (setD 5) (seqM (stM 4 .dat (ifD (tbin inB (gv 5) (gv 2)) (gv 5) (gv 4))) (iteM (andT (tbin isNotB (gv 4) (DL.ret .none)) (bnd (ap1 anyD (fz (lcM (itM (gv 1)) (setD 6) yesT (chain ltB leB (gv 4) (gv 6) (gv 5)) [6]))) boolOf)) (bnd (appM 3 (gv 5)) fun _ => nxt) nxt)) (xs.map .int) [some (.dat (tI rs)), some (.dat (tI ws)), some (.dat (tI so)), some (.own (.lst (f.map .int))), some (.dat (oI l)), o, none] =
      .ok .nx [some (.dat (tI rs)), some (.dat (tI ws)), some (.dat (tI so)), some (.own (.lst ((xs.foldl (stepW ws so) (f, l)).1.map .int))), some (.dat (oI (xs.foldl (stepW ws so) (f, l)).2)), o', none] := by
    intro xs
    induction xs with
    | nil => intro f l o _; exact ⟨o, rfl⟩
    | cons x xs ih =>
      intro f l o hf
      rw [List.length_cons] at hf
      obtain ⟨o', h⟩ := ih (stepW ws so (f, l) x).1 (stepW ws so (f, l) x).2 (some (.dat (.int x))) (by have := stepW_len ws so (f, l) x; simp only [] at this; omega)
      refine ⟨o', ?_⟩
      rw [List.map_cons, forM_cons]
      have hf1 : f.length < lim := lim_lt (by omega)
      have hc : ∀ l : Int, lcM (itM (gv 1)) (setD 6) yesT (chain ltB leB (gv 4) (gv 6) (gv 5)) [6] [some (.dat (tI rs)), some (.dat (tI ws)), some (.dat (tI so)), some (.own (.lst (f.map .int))), some (.dat (.int l)), some (.dat (.int x)), none] = .ok (.lst (ws.map (PyData.bool ∘ fun w => decide (l < w) && decide (w ≤ x)))) [some (.dat (tI rs)), some (.dat (tI ws)), some (.dat (tI so)), some (.own (.lst (f.map .int))), some (.dat (.int l)), some (.dat (.int x)), none] := fun l => by
        have hc := lcM_ints (fi := itM (gv 1)) (g := setD 6) (tt := yesT) (fe := chain ltB leB (gv 4) (gv 6) (gv 5)) (vs := [6]) (ds := [some (.dat (tI rs)), some (.dat (tI ws)), some (.dat (tI so)), some (.own (.lst (f.map .int))), some (.dat (.int l)), some (.dat (.int x)), none]) (ws := ws)
          (fun w => some (.bool (decide (l < w) && decide (w ≤ x)))) (by simp) (by simp [noOwn]) (by simp) (lim_of hw) (fun w _ => by
            by_cases c : l < w
            · exact ⟨_, by simp [wipeD, c]; rfl, by simp [wipeD]⟩
            · exact ⟨_, by simp [wipeD, c]; rfl, by simp [wipeD]⟩)
        rw [fm_boolA] at hc
        exact hc
      have hany : ∀ l : Int, (ws.any fun w => decide (l < w) && decide (w ≤ x)) = ahead ws l x := fun _ => rfl
      by_cases m : x ∈ so
      · by_cases c : ahead ws x x = true
        · simp [stepW, c, m] at h
          simp [hc, hany, c, hf1, stepW, m]
          simpa using h
        · simp [stepW, c, m] at h
          simp [hc, hany, c, hf1, stepW, m]
          simpa using h
      · cases l with
        | none =>
          simp [stepW, m] at h
          simp [hc, hany, hf1, stepW, m]
          simpa using h
        | some l =>
          by_cases c : ahead ws l x = true
          · simp [stepW, c, m] at h
            simp [hc, hany, c, hf1, stepW, m]
            simpa using h
          · simp [stepW, c, m] at h
            simp [hc, hany, c, hf1, stepW, m]
            simpa using h
  obtain ⟨o', h⟩ := key rs [] none none (by simpa using hl)
  unfold B_wrong_of
  simp at h
  simp [h, fstC, wrongL]
theorem wrong_eval (rs ws : List Int) (n : Int) (hb : beatsB rs = true) (hl : rs.length ≤ 1000) (hb2 : beatsB ws = true) (hl2 : ws.length ≤ 1000) (h1 : 1 ≤ n) (h2 : n ≤ 1000000) : D_wrong [.dat (tI rs), .dat (tI ws), .dat (.int n)] = some (.dat (tI (wrongL rs ws (askedL rs n))), noCn) := by
  unfold D_wrong den B_wrong
  simp [callN_app, check_reads_eval rs hb hl, check_writes_eval ws hb2 hl2, check_length_eval n h1 h2, asked_of_eval rs n hl, wrong_of_eval rs ws (askedL rs n) hl hl2, fstC]
/-! done_of -/
def doneL (ws gs : List Int) (n : Int) : List Int := ws.map fun w => maxI (w :: (gs.filter fun b => decide (b ≤ w)).map fun b => b + n)
theorem done_of_eval (ws gs : List Int) (n : Int) (hl : ws.length ≤ 1000) (hg : gs.length ≤ 1000) : D_done_of [.dat (tI ws), .dat (tI gs), .dat (.int n)] = some (.dat (tI (doneL ws gs n)), noCn) := by
  unfold D_done_of den
  have key : ∀ (xs : List Int) (f : List Int) (o : Option RV), f.length + xs.length ≤ 1000 → ∃ o', forM (setD 4) (bnd (appM 3 (ap1 (mmO maxL) (fz (mkLst (consA (gv 4) (starA (fz (lcM (itM (gv 1)) (setD 5) (tbin leB (gv 5) (gv 4)) (frzV (bin addV (gv 5) (gv 2))) [5])) nilA)))))) fun _ => nxt) (xs.map .int) [some (.dat (tI ws)), some (.dat (tI gs)), some (.dat (.int n)), some (.own (.lst (f.map .int))), o, none] =
      .ok .nx [some (.dat (tI ws)), some (.dat (tI gs)), some (.dat (.int n)), some (.own (.lst ((f ++ doneL xs gs n).map .int))), o', none] := by
    intro xs
    induction xs with
    | nil => intro f o _; exact ⟨o, by simp [doneL]⟩
    | cons x xs ih =>
      intro f o hf
      rw [List.length_cons] at hf
      have hf1 : f.length < lim := lim_lt (by omega)
      have hc := lcM_ints (fi := itM (gv 1)) (g := setD 5) (tt := tbin leB (gv 5) (gv 4)) (fe := frzV (bin addV (gv 5) (gv 2))) (vs := [5]) (ds := [some (.dat (tI ws)), some (.dat (tI gs)), some (.dat (.int n)), some (.own (.lst (f.map .int))), some (.dat (.int x)), none]) (ws := gs)
          (fun b => if decide (b ≤ x) = true then some (.int (b + n)) else none) (by simp) (by simp [noOwn]) (by simp) (lim_of hg) (fun w _ => by
            by_cases c : w ≤ x
            · exact ⟨_, by simp [wipeD, c]; rfl, by simp [wipeD]⟩
            · exact ⟨_, by simp [wipeD, c]; rfl, by simp [wipeD]⟩)
      rw [fm_if] at hc
      obtain ⟨o', h⟩ := ih (f ++ [maxI (x :: (gs.filter fun b => decide (b ≤ x)).map fun b => b + n)]) (some (.dat (.int x))) (by simp; omega)
      refine ⟨o', ?_⟩
      rw [List.map_cons, forM_cons]
      have hm := maxO_cons x ((gs.filter fun b => decide (b ≤ x)).map fun b => b + n)
      have hlen : (gs.filter fun b => decide (b ≤ x)).length + 1 ≤ 16777216 := by have := List.length_filter_le (fun b => decide (b ≤ x)) gs; omega
      simp [doneL] at h hm hc
      simp [hc, hm, hlen, hf1, doneL]
      exact h
  obtain ⟨o', h⟩ := key ws [] none (by simpa using hl)
  unfold B_done_of
  simp at h
  simp [h, fstC]
theorem done_eval (ws gs : List Int) (n : Int) (hb : beatsB gs = true) (hl : gs.length ≤ 1000) (hb2 : beatsB ws = true) (hl2 : ws.length ≤ 1000) (h1 : 1 ≤ n) (h2 : n ≤ 1000000) : D_done [.dat (tI ws), .dat (tI gs), .dat (.int n)] = some (.dat (tI (doneL ws gs n)), noCn) := by
  unfold D_done den B_done
  simp [callN_app, check_reads_eval gs hb hl, check_writes_eval ws hb2 hl2, check_length_eval n h1 h2, done_of_eval ws gs n hl2 hl, fstC]
end K78

namespace K78
open PySem PySem.Spec PyProof.Rows L2 DL
/-! waits_by -/
def qW (b n : Int) (l : Option Int) (w : Int) : Bool := (decide (b ≤ w) && decide (w < b + n)) && (match l with | none => true | some l => decide (w < l))
def waitsS (b : Int) (l : Option Int) (ws : List Int) (n : Int) : Int := ((ws.filter (qW b n l)).map fun w => b + n - w).sum
theorem waits_by_eval (b n : Int) (l : Option Int) (ws : List Int) (hw : ws.length ≤ 1000) : D_waits_by [.dat (.int b), .dat (oI l), .dat (tI ws), .dat (.int n)] = some (.dat (.int (waitsS b l ws n)), noCn) := by
  unfold D_waits_by den B_waits_by
  have hc := lcM_ints (fi := itM (gv 2)) (g := setD 5) (tt := andT (tchain leB ltB (gv 0) (gv 5) (frzV (bin addV (gv 0) (gv 3)))) (orT (tbin isB (gv 1) (DL.ret .none)) (tbin ltB (gv 5) (gv 1)))) (fe := gv 5) (vs := [5]) (ds := [some (.dat (.int b)), some (.dat (oI l)), some (.dat (tI ws)), some (.dat (.int n)), none, none]) (ws := ws)
    (fun w => if qW b n l w = true then some (.int w) else none) (by simp) (by simp [noOwn]) (by simp) (lim_of hw) (fun w _ => by
      refine ⟨[some (.dat (.int b)), some (.dat (oI l)), some (.dat (tI ws)), some (.dat (.int n)), none, some (.dat (.int w))], ?_, by simp [wipeD]⟩
      cases l with
      | none => 
        by_cases c1 : b ≤ w
        · by_cases c2 : w < b + n <;> simp [wipeD, qW, c1, c2]
        · simp [wipeD, qW, c1]
      | some l =>
        by_cases c1 : b ≤ w
        · by_cases c2 : w < b + n
          · by_cases c3 : w < l <;> simp [wipeD, qW, c1, c2, c3]
          · simp [wipeD, qW, c1, c2]
        · simp [wipeD, qW, c1])
  rw [fm_if (qW b n l) (fun w => w)] at hc
  rw [List.map_id'] at hc
  have hc2 := lcM_ints (fi := itM (gv 4)) (g := setD 5) (tt := yesT) (fe := bin subI (frzV (bin addV (gv 0) (gv 3))) (gv 5)) (vs := [5]) (ds := [some (.dat (.int b)), some (.dat (oI l)), some (.dat (tI ws)), some (.dat (.int n)), some (.dat (.list ((ws.filter (qW b n l)).map .int))), none]) (ws := ws.filter (qW b n l))
    (fun w => some (.int (b + n - w))) (by simp) (by simp [noOwn]) (by simp) (lim_of (Nat.le_trans (List.length_filter_le _ _) hw)) (fun w _ => ⟨_, by simp [wipeD]; rfl, by simp [wipeD]⟩)
  rw [fm_intA] at hc2
  simp [hc, hc2, fstC, waitsS]
/-! _law_waits -/
def lwait (as : List Int) (n w : Int) : Int := maxI (0 :: (as.filter fun a => decide (a ≤ w)).map fun a => a + n - w)
def lwaits (as ws : List Int) (n : Int) : List Int := ws.map (lwait as n)
theorem law_waits_eval (as ws : List Int) (n : Int) (hl : ws.length ≤ 1000) (hg : as.length ≤ 1000) : D__law_waits [.dat (tI as), .dat (tI ws), .dat (.int n)] = some (.dat (lI (lwaits as ws n)), noCn) := by
  unfold D__law_waits den
  have key : ∀ (xs : List Int) (f : List Int) (o o5 : Option RV), f.length + xs.length ≤ 1000 → ∃ o' o5', forM (setD 4) (seqM (stM 5 .own (lcM (itM (gv 0)) (setD 6) (tbin leB (gv 6) (gv 4)) (frzV (bin addV (gv 6) (gv 2))) [6])) (seqM (frzM 5) (bnd (appM 3 (ap1 (mmO maxL) (frzV (bin addV (fz (mkLst (consA (DL.ret (.int 0)) nilA))) (fz (lcM (itM (gv 5)) (setD 7) yesT (bin subI (gv 7) (gv 4)) [7])))))) fun _ => nxt))) (xs.map .int) [some (.dat (tI as)), some (.dat (tI ws)), some (.dat (.int n)), some (.own (.lst (f.map .int))), o, o5, none, none] =
      .ok .nx [some (.dat (tI as)), some (.dat (tI ws)), some (.dat (.int n)), some (.own (.lst ((f ++ lwaits as xs n).map .int))), o', o5', none, none] := by
    intro xs
    induction xs with
    | nil => intro f o o5 _; exact ⟨o, o5, by simp [lwaits]⟩
    | cons x xs ih =>
      intro f o o5 hf
      rw [List.length_cons] at hf
      have hf1 : f.length < lim := lim_lt (by omega)
      have hc := lcM_ints (fi := itM (gv 0)) (g := setD 6) (tt := tbin leB (gv 6) (gv 4)) (fe := frzV (bin addV (gv 6) (gv 2))) (vs := [6]) (ds := [some (.dat (tI as)), some (.dat (tI ws)), some (.dat (.int n)), some (.own (.lst (f.map .int))), some (.dat (.int x)), o5, none, none]) (ws := as)
          (fun b => if decide (b ≤ x) = true then some (.int (b + n)) else none) (by simp) (by simp [noOwn]) (by simp) (lim_of hg) (fun w _ => by
            by_cases c : w ≤ x
            · exact ⟨_, by simp [wipeD, c]; rfl, by simp [wipeD]⟩
            · exact ⟨_, by simp [wipeD, c]; rfl, by simp [wipeD]⟩)
      rw [fm_if] at hc
      have hlen : (as.filter fun b => decide (b ≤ x)).length ≤ 1000 := Nat.le_trans (List.length_filter_le _ _) hg
      have hc2 := lcM_ints (fi := itM (gv 5)) (g := setD 7) (tt := yesT) (fe := bin subI (gv 7) (gv 4)) (vs := [7]) (ds := [some (.dat (tI as)), some (.dat (tI ws)), some (.dat (.int n)), some (.own (.lst (f.map .int))), some (.dat (.int x)), some (.dat (.list (((as.filter fun b => decide (b ≤ x)).map fun b => b + n).map .int))), none, none]) (ws := (as.filter fun b => decide (b ≤ x)).map fun b => b + n)
          (fun e => some (.int (e - x))) (by simp) (by simp [noOwn]) (by simp) (lim_of (by simpa using hlen)) (fun w _ => ⟨_, by simp [wipeD]; rfl, by simp [wipeD]⟩)
      rw [fm_int] at hc2
      have hm := maxO_cons 0 ((as.filter fun b => decide (b ≤ x)).map fun b => b + n - x)
      have hadd := addV_ll (a := [PyData.int 0]) (b := ((as.filter fun b => decide (b ≤ x)).map fun b => b + n - x).map PyData.int) (by simp [lim]; omega)
      obtain ⟨o', o5', h⟩ := ih (f ++ [lwait as n x]) (some (.dat (.int x))) (some (.dat (.list (((as.filter fun b => decide (b ≤ x)).map fun b => b + n).map .int)))) (by simp; omega)
      refine ⟨o', o5', ?_⟩
      rw [List.map_cons, forM_cons]
      have ee : ((fun e => e - x) ∘ fun b => b + n) = fun b => b + n - x := rfl
      simp only [List.map_map, ee] at hc hc2 hm hadd h
      simp [lwaits] at h
      simp [hc, hc2, hm, hadd, hf1, lwaits]
      exact h
  obtain ⟨o', o5', h⟩ := key ws [] none none (by simpa using hl)
  unfold B__law_waits
  simp at h
  simp [h, fstC]
end K78

namespace K78
open PySem PySem.Spec PyProof.Rows L2 DL
theorem take_eval {k : Nat} {c : Cn} {u : Int} (h : PotOk (k + 1) c) (hu : 1 ≤ u) (hu2 : u < 1073741824) : ∃ v c', D__law_take [.own c, .dat (.int u)] = some (.dat (.int v), c') ∧ 0 ≤ v ∧ v < u ∧ PotOk k c' := by
  obtain ⟨p0, p1, p2, rfl, h0, h1, h2, h3, h4⟩ := h
  have hm := fun a : Int => modI_ii (a := a) (b := u) (by omega)
  have hd := fdivI_ii (a := p0) (b := u) (by omega) hu2
  by_cases c : 0 < p0
  · refine ⟨p0 % u, .lst [.int (p0 / u), .int p1, .int p2], ?_, Int.emod_nonneg _ (by omega), Int.emod_lt_of_pos _ (by omega), p0 / u, p1, p2, rfl, Int.ediv_nonneg h0 (by omega), h1, h2, h3, by omega⟩
    unfold D__law_take den B__law_take
    simp [c, hm, hd, fstC]
  · have e0 : p0 = 0 := by omega
    subst e0
    -- the prime
    have hr : ∃ pr : Int, ixD (.list [.int 2147483647, .int 2147483629, .int 2147483587, .int 2147483579, .int 2147483563]) (.int ((p2 + 1) % 5)) = some (.int pr) ∧ 0 < pr ∧ pr < 2147483648 := by
      have a1 : 0 ≤ (p2 + 1) % 5 := Int.emod_nonneg _ (by omega)
      have a2 : (p2 + 1) % 5 < 5 := Int.emod_lt_of_pos _ (by omega)
      rcases (by omega : (p2 + 1) % 5 = 0 ∨ (p2 + 1) % 5 = 1 ∨ (p2 + 1) % 5 = 2 ∨ (p2 + 1) % 5 = 3 ∨ (p2 + 1) % 5 = 4) with e | e | e | e | e
      all_goals (rw [e]; exact ⟨_, rfl, by decide, by decide⟩)
    obtain ⟨pr, hpr, hpr1, hpr2⟩ := hr
    have hm5 := modI_ii (a := p2 + 1) (b := 5) (by omega)
    have hk1 : mulV (.int 96436) (.int (p2 + 1)) = some (.dat (.int (96436 * (p2 + 1)))) := mulV_ii (mulOk_l (by decide) (by decide))
    have hk2 : mulV (.int (96436 * (p2 + 1))) (.int (p2 + 1)) = some (.dat (.int (96436 * (p2 + 1) * (p2 + 1)))) := mulV_ii (mulOk_r (by omega) (by omega))
    have hsq : 0 ≤ 96436 * (p2 + 1) * (p2 + 1) ∧ 96436 * (p2 + 1) * (p2 + 1) ≤ 96436 * 1152921504606846976 * 1152921504606846976 := by
      have b0 : 0 ≤ p2 + 1 := by omega
      have b1 : p2 + 1 ≤ 1152921504606846976 := by omega
      constructor
      · exact Int.mul_nonneg (by omega) b0
      · exact Int.mul_le_mul (by omega) b1 b0 (by decide)
    generalize hB : p1 + 96436 * (p2 + 1) * (p2 + 1) + 716 = B
    have hB0 : 0 ≤ B ∧ B.natAbs < 2 ^ 300 := by omega
    have hp3 := powI_ii (a := B) (b := 3) (by omega) (by omega) hB0.2
    have hmp := fun a : Int => modI_ii (a := a) (b := pr) hpr1
    have hC0 : 0 ≤ B ^ 3 % pr := Int.emod_nonneg _ (by omega)
    have hC1 : B ^ 3 % pr < pr := Int.emod_lt_of_pos _ hpr1
    have hm1 := modI_ii (a := B ^ 3 % pr) (b := 10259) (by omega)
    have hk3 : mulV (.int 122) (.int (p2 + 1)) = some (.dat (.int (122 * (p2 + 1)))) := mulV_ii (mulOk_l (by decide) (by decide))
    have hk4 : ∀ z : Int, mulV (.int (B ^ 3 % pr)) (.int z) = some (.dat (.int (B ^ 3 % pr * z))) := fun z => mulV_ii (mulOk_l (by omega) (by omega))
    have hm2 := fun a : Int => modI_ii (a := a) (b := 2305843009213693907) (by omega)
    have hd2 := fun a : Int => fdivI_ii (a := a) (b := 152) (by omega) (by omega)
    refine ⟨B ^ 3 % pr * (B ^ 3 % pr % 10259 + 122 * (p2 + 1)) % 2305843009213693907 / 152 % u, .lst [.int 0, .int p1, .int (p2 + 1)], ?_, Int.emod_nonneg _ (by omega), Int.emod_lt_of_pos _ (by omega), 0, p1, p2 + 1, rfl, Int.le_refl _, h1, h2, by omega, by omega⟩
    unfold D__law_take den B__law_take
    have hp3' : powI (.int B) (.int 3) = some (.int (B ^ 3)) := hp3
    simp [hm5, hpr, hk1, hk2, hB, hp3', hmp, hm1, hk3, hk4, hm2, hd2, hm, fstC]
/-- one of some -/
theorem of_eval {k : Nat} {c : Cn} {xs : List PD} (h : PotOk (k + 1) c) (hx : xs ≠ []) (hl : xs.length ≤ 1000) : ∃ (v : Nat) (d : PD) (c' : Cn), D__law_of [.own c, .dat (.list xs)] = some (.dat d, c') ∧ xs[v]? = some d ∧ PotOk k c' := by
  have hp : 0 < xs.length := List.length_pos_iff.mpr hx
  obtain ⟨v, c', e, h0, h1, hk⟩ := take_eval (u := xs.length) h (by omega) (by omega)
  obtain ⟨n, rfl⟩ := Int.eq_ofNat_of_zero_le h0
  have hn : n < xs.length := by omega
  refine ⟨n, xs[n], c', ?_, List.getElem?_eq_getElem hn, hk⟩
  unfold D__law_of den B__law_of
  have hat : ixD (.list xs) (.int n) = some xs[n] := (atI_nat' xs n).trans (List.getElem?_eq_getElem hn)
  simp [callIO, e, hat, fstC]
end K78

namespace K78
open PySem PySem.Spec PyProof.Rows L2 DL
def placesN (ns : List Int) : Nat := max 1 (min 3 ns.length)
theorem places_eval (ns : List Int) : D__law_places [.scr ns, .dat (.int 3)] = some (.dat (.list (rngL 0 (placesN ns))), noCn) := by
  unfold D__law_places den B__law_places
  have e : (if (1 : Int) < (if (ns.length : Int) < 3 then (ns.length : Int) else 3) then (if (ns.length : Int) < 3 then (ns.length : Int) else 3) else 1) = (placesN ns : Int) := by unfold placesN; omega
  have h1 : (0 : Int) ≤ placesN ns ∧ (placesN ns : Int) ≤ 16777216 := by unfold placesN; omega
  simp [e, h1, fstC]
theorem big10 : (10 : Int).natAbs < 2 ^ 300 := by decide +kernel
theorem big60 : (10 : Int).natAbs ^ (60 : Int).toNat < 2 ^ 300 := by decide +kernel
theorem pot_gen (ns : List Int) (p : Nat) {B C m1 m2 k1 k2 k3 : Int} (f1 f2 : M PD) (hF : ∀ ds, f1 ds = .ok (.int B) ds) (hG : ∀ ds, f2 ds = .ok (.int C) ds) (cell : Int)
    (hm4 : ∀ a : Int, modI (.int a) (.int B) = some (.int (a % B))) (hm2 : ∀ a : Int, modI (.int a) (.int m1) = some (.int (a % m1))) (hm3 : ∀ a : Int, modI (.int a) (.int m2) = some (.int (a % m2)))
    (hk5 : ∀ a : Int, mulV (.int a) (.int k1) = some (.dat (.int (a * k1)))) (hk2 : mulV (.int k2) (.int p) = some (.dat (.int (k2 * p)))) (hk3 : mulV (.int (k2 * p)) (.int p) = some (.dat (.int (k2 * p * p))))
    (hk4 : ∀ (a : Int) (b : Bool), mulV (.int a) (.int (if b = true then 1 else 0)) = some (.dat (.int (a * (if b = true then 1 else 0))))) :
    ∃ d, (seqM (stM 3 .dat (frzV (bin mulV (bin modI (ap1 intD (ap1 absD (gv 2))) f1) (ap1 intD (bin (bD geB) (ap1 absD (gv 2)) f2))))) (seqM (stM 4 .dat (bin modI (ap1 intD (gv 2)) (DL.ret (.int m1)))) (retM .own (mkLst (consA (gv 3) (consA (bin modI (ap1 intD (frzV (bin addV (frzV (bin addV (frzV (bin mulV (gv 4) (DL.ret (.int k1)))) (frzV (bin mulV (frzV (bin mulV (DL.ret (.int k2)) (gv 1))) (gv 1))))) (DL.ret (.int k3))))) (DL.ret (.int m2))) (consA (DL.ret (.int 0)) nilA))))))) [some (.scr ns), some (.dat (.int p)), some (.dat (.int cell)), none, none]
      = .ok (.rt (.own (.lst [.int ((if cell < 0 then -cell else cell) % B * (if decide (C ≤ (if cell < 0 then -cell else cell)) = true then 1 else 0)), .int ((cell % m1 * k1 + k2 * p * p + k3) % m2), .int 0]))) d := by
  refine ⟨[some (.scr ns), some (.dat (.int p)), some (.dat (.int cell)), some (.dat (.int ((if cell < 0 then -cell else cell) % B * (if decide (C ≤ (if cell < 0 then -cell else cell)) = true then 1 else 0)))), some (.dat (.int (cell % m1)))], ?_⟩
  have e1 : stM 3 .dat (frzV (bin mulV (bin modI (ap1 intD (ap1 absD (gv 2))) f1) (ap1 intD (bin (bD geB) (ap1 absD (gv 2)) f2)))) [some (.scr ns), some (.dat (.int p)), some (.dat (.int cell)), none, none] = .ok .nx [some (.scr ns), some (.dat (.int p)), some (.dat (.int cell)), some (.dat (.int ((if cell < 0 then -cell else cell) % B * (if decide (C ≤ (if cell < 0 then -cell else cell)) = true then 1 else 0)))), none] := by
    simp only [stM_app, bnd_app, frzV_app, bin_app, ap1_app, gv_app, List.getElem?_cons_succ, List.getElem?_cons_zero, ofO_some, absD_i, intD_i, hF, hm4, hG, bD, geB_ii, Option.map_some, intD_b, hk4, ret_app, setR_app, nxt_app, List.set_cons_succ, List.set_cons_zero]
  rw [seqM_app, e1]
  simp only [seqM_app, stM_app, retM_app, mkLst_app, consA_app, nilA_app, bnd_app, frzV_app, bin_app, ap1_app, gv_app, List.getElem?_cons_succ, List.getElem?_cons_zero, ofO_some, intD_i, hm2, hm3, hk5, hk2, hk3, addV_ii, ret_app, setR_app, nxt_app, List.set_cons_succ, List.set_cons_zero]
  rw [if_pos (by simp [lim])]
  rfl
theorem pot_cell (ns : List Int) (p : Nat) {n1 n2 n3 : Int} (hm1 : ∀ a : Int, modI (.int a) (.int n1) = some (.int (a % n1))) (hk1 : mulV (.int n2) (.int p) = some (.dat (.int (n2 * p)))) :
    ∃ z : Int, stM 2 .dat (ifD (tbin ltB (gv 1) (slen 0)) (six 0 (gv 1)) (frzV (bin addV (frzV (bin addV (bin modI (ap1 sumD (fz (ssl 0 (DL.ret none) (intO (DL.ret (.int 1)))))) (DL.ret (.int n1))) (frzV (bin mulV (DL.ret (.int n2)) (gv 1))))) (DL.ret (.int n3))))) [some (.scr ns), some (.dat (.int p)), none, none, none] = .ok .nx [some (.scr ns), some (.dat (.int p)), some (.dat (.int z)), none, none] := by
  by_cases hlt : p < ns.length
  · refine ⟨ns[p], ?_⟩
    have hat : atI ns (p : Int) = some ns[p] := (atI_nat' ns p).trans (List.getElem?_eq_getElem hlt)
    simp [hlt, hat]
  · refine ⟨(ns.take 1).sum % n1 + n2 * p + n3, ?_⟩
    have hs := sumD_ints (ns.take 1)
    simp at hs
    simp [hlt, hk1, hm1, cut_to1, hs]
theorem pot_eval (ns : List Int) (p : Nat) (hp : p < 3) : ∃ c, D__law_pot [.scr ns, .dat (.int p)] = some (.own c, noCn) ∧ PotOk 1000 c := by
  obtain ⟨A, hA, hA0, hA1⟩ : ∃ A : Int, powI (.int 10) (.int 60) = some (.int A) ∧ 0 < A ∧ A.natAbs < 2 ^ 300 := ⟨_, powI_ii (a := 10) (b := 60) (by omega) (by omega) big10, Int.pow_pos (by omega), by rw [Int.natAbs_pow]; exact big60⟩
  obtain ⟨B, hB, hB0⟩ : ∃ B : Int, powI (.int A) (.int 5) = some (.int B) ∧ 0 < B := ⟨_, powI_ii (a := A) (b := 5) (by omega) (by omega) hA1, Int.pow_pos hA0⟩
  obtain ⟨C, hC⟩ : ∃ C : Int, powI (.int 10) (.int 18) = some (.int C) := ⟨_, powI_ii (a := 10) (b := 18) (by omega) (by omega) big10⟩
  obtain ⟨z, hz⟩ := pot_cell ns p (n1 := 1000003) (n2 := 11977) (n3 := 509) (fun a => modI_ii (by omega)) (mulV_ii (mulOk_l (by decide) (by decide)))
  obtain ⟨d, h⟩ := pot_gen ns p (B := B) (C := C) (m1 := 2305843009213693951) (m2 := 2305843009213693921) (k1 := 99907) (k2 := 16535) (k3 := 916)
    (bin powI (bin powI (DL.ret (.int 10)) (DL.ret (.int 60))) (DL.ret (.int 5))) (bin powI (DL.ret (.int 10)) (DL.ret (.int 18)))
    (fun ds => by rw [bin_app, bnd_app, bin_app, bnd_app, ret_app]; simp only [bnd_app, ret_app, hA, ofO_some, hB]) (fun ds => by rw [bin_app, bnd_app, ret_app]; simp only [bnd_app, ret_app, hC, ofO_some]) z
    (fun a => modI_ii hB0) (fun a => modI_ii (by omega)) (fun a => modI_ii (by omega)) (fun a => mulV_ii (mulOk_r (by decide) (by decide))) (mulV_ii (mulOk_l (by decide) (by decide))) (mulV_ii (mulOk_r (by omega) (by omega)))
    (fun a b => mulV_ii (mulOk_r (by cases b <;> decide) (by cases b <;> decide)))
  have hx0 : 0 ≤ (if z < 0 then -z else z) % B * (if decide (C ≤ (if z < 0 then -z else z)) = true then (1 : Int) else 0) := Int.mul_nonneg (Int.emod_nonneg _ (by omega)) (by split <;> split <;> decide)
  have hx1 : 0 ≤ (z % 2305843009213693951 * 99907 + 16535 * (p : Int) * p + 916) % 2305843009213693921 := Int.emod_nonneg _ (by omega)
  have hx2 := Int.emod_lt_of_pos (z % 2305843009213693951 * 99907 + 16535 * (p : Int) * p + 916) (show (0 : Int) < 2305843009213693921 by omega)
  generalize (if z < 0 then -z else z) % B * (if decide (C ≤ (if z < 0 then -z else z)) = true then (1 : Int) else 0) = X0 at h hx0
  generalize (z % 2305843009213693951 * 99907 + 16535 * (p : Int) * p + 916) % 2305843009213693921 = X1 at h hx1 hx2
  refine ⟨.lst [.int X0, .int X1, .int 0], ?_, X0, X1, 0, rfl, hx0, hx1, by omega, Int.le_refl _, by omega⟩
  unfold D__law_pot
  refine den_eq (io := false) (o := .rt (.own (.lst [.int X0, .int X1, .int 0]))) (ds' := d) (c := noCn) [some (.scr ns), some (.dat (.int p)), none, none, none] rfl ?_ rfl
  unfold B__law_pot
  rw [seqM_app, hz]
  exact h
end K78

namespace K78
open PySem PySem.Spec PyProof.Rows L2 DL
/-! _law_cost -/
def farB (as : List Int) (n b : Int) : Bool := decide (n ≤ b - maxI (as.filter fun a => decide (a ≤ b)))
def lcost (rs ws as : List Int) (n pr : Int) : Option Int :=
  if as.take 1 = rs.take 1 then (if rs.any (farB as n) = true then none else some (as.length + pr * (lwaits as ws n).sum)) else none
theorem law_cost_eval (rs ws as : List Int) (n pr : Int) (hr : rs.length ≤ 1000) (hw : ws.length ≤ 1000) (ha : as.length ≤ 1000) (h0 : 0 ≤ pr) (h1 : pr ≤ 1000000)
    (hne : as.take 1 = rs.take 1 → ∀ b ∈ rs, (as.filter fun a => decide (a ≤ b)) ≠ []) : D__law_cost [.dat (tI rs), .dat (tI ws), .dat (.int n), .dat (.int pr), .dat (tI as)] = some (.dat (oI (lcost rs ws as n pr)), noCn) := by
  have hne1 := neB_tt (as.take 1) (rs.take 1)
  by_cases ht : as.take 1 = rs.take 1
  · have key : ∀ (xs : List Int) (o : Option RV), (∀ b ∈ xs, (as.filter fun a => decide (a ≤ b)) ≠ []) → ∃ o', forM (setD 5) (iteM (tbin geB (bin subI (gv 5) (ap1 (mmO maxL) (fz (lcM (itM (gv 4)) (setD 6) (tbin leB (gv 6) (gv 5)) (gv 6) [6])))) (gv 2)) (retM .dat (DL.ret .none)) nxt) (xs.map .int) [some (.dat (tI rs)), some (.dat (tI ws)), some (.dat (.int n)), some (.dat (.int pr)), some (.dat (tI as)), o, none] =
        .ok (if xs.any (farB as n) = true then .rt (.dat .none) else .nx) [some (.dat (tI rs)), some (.dat (tI ws)), some (.dat (.int n)), some (.dat (.int pr)), some (.dat (tI as)), o', none] := by
      intro xs
      induction xs with
      | nil => intro o _; exact ⟨o, rfl⟩
      | cons x xs ih =>
        intro o hx
        have hc := lcM_ints (fi := itM (gv 4)) (g := setD 6) (tt := tbin leB (gv 6) (gv 5)) (fe := gv 6) (vs := [6]) (ds := [some (.dat (tI rs)), some (.dat (tI ws)), some (.dat (.int n)), some (.dat (.int pr)), some (.dat (tI as)), some (.dat (.int x)), none]) (ws := as)
          (fun a => if decide (a ≤ x) = true then some (.int a) else none) (by simp) (by simp [noOwn]) (by simp) (lim_of ha) (fun w _ => by
            by_cases c : w ≤ x
            · exact ⟨_, by simp [wipeD, c]; rfl, by simp [wipeD]⟩
            · exact ⟨_, by simp [wipeD, c]; rfl, by simp [wipeD]⟩)
        rw [fm_if (fun a => decide (a ≤ x)) (fun a => a), List.map_id'] at hc
        have hm := maxO_ints (hx x (List.mem_cons_self ..))
        rw [List.map_cons, forM_cons]
        by_cases c : farB as n x = true
        · have c' : n ≤ x - maxI (as.filter fun a => decide (a ≤ x)) := of_decide_eq_true c
          refine ⟨some (.dat (.int x)), ?_⟩
          simp [hc, hm, c, c']
        · have c' : ¬ n ≤ x - maxI (as.filter fun a => decide (a ≤ x)) := fun z => c (decide_eq_true z)
          obtain ⟨o', h⟩ := ih (some (.dat (.int x))) (fun b hb => hx b (List.mem_cons_of_mem _ hb))
          refine ⟨o', ?_⟩
          simp [hc, hm, c, c']
          simpa using h
    obtain ⟨o', h⟩ := key rs none (hne ht)
    unfold D__law_cost
    by_cases c : rs.any (farB as n) = true
    · have e : lcost rs ws as n pr = none := by unfold lcost; rw [if_pos ht, if_pos c]
      rw [e]
      rw [if_pos c] at h
      refine den_eq (io := false) (o := .rt (.dat .none)) (ds' := [some (.dat (tI rs)), some (.dat (tI ws)), some (.dat (.int n)), some (.dat (.int pr)), some (.dat (tI as)), o', none]) (c := noCn) [some (.dat (tI rs)), some (.dat (tI ws)), some (.dat (.int n)), some (.dat (.int pr)), some (.dat (tI as)), none, none] rfl ?_ rfl
      unfold B__law_cost
      have hself := neB_tt (rs.take 1) (rs.take 1)
      simp at hself
      have hmt : List.take 1 (as.map PyData.int) = List.take 1 (rs.map PyData.int) := by rw [← List.map_take, ← List.map_take, ht]
      simp [slV, cut_to1, hmt, hself] at h ⊢
      simp [h]
    · have e : lcost rs ws as n pr = some (as.length + pr * (lwaits as ws n).sum) := by unfold lcost; rw [if_pos ht, if_neg c]
      rw [e]
      rw [if_neg c] at h
      have hk : ∀ z : Int, mulV (.int pr) (.int z) = some (.dat (.int (pr * z))) := fun z => mulV_ii (mulOk_l (by omega) (by omega))
      refine den_eq (io := false) (o := .rt (.dat (.int (as.length + pr * (lwaits as ws n).sum)))) (ds' := [some (.dat (tI rs)), some (.dat (tI ws)), some (.dat (.int n)), some (.dat (.int pr)), some (.dat (tI as)), o', none]) (c := noCn) [some (.dat (tI rs)), some (.dat (tI ws)), some (.dat (.int n)), some (.dat (.int pr)), some (.dat (tI as)), none, none] rfl ?_ rfl
      unfold B__law_cost
      have hself := neB_tt (rs.take 1) (rs.take 1)
      simp at hself
      have hmt : List.take 1 (as.map PyData.int) = List.take 1 (rs.map PyData.int) := by rw [← List.map_take, ← List.map_take, ht]
      simp [slV, cut_to1, hmt, hself] at h ⊢
      simp [h, callN_app, law_waits_eval as ws n hw ha, hk]
  · have e : lcost rs ws as n pr = none := by unfold lcost; rw [if_neg ht]
    rw [e]
    unfold D__law_cost
    refine den_eq (io := false) (o := .rt (.dat .none)) (ds' := [some (.dat (tI rs)), some (.dat (tI ws)), some (.dat (.int n)), some (.dat (.int pr)), some (.dat (tI as)), none, none]) (c := noCn) [some (.dat (tI rs)), some (.dat (tI ws)), some (.dat (.int n)), some (.dat (.int pr)), some (.dat (tI as)), none, none] rfl ?_ rfl
    unfold B__law_cost
    simp [slV, cut_to1] at hne1 ⊢
    simp [hne1, ht]
end K78

namespace K78
open PySem PySem.Spec PyProof.Rows L2 DL
/-! cost_of -/
/-- the walk over the reads: none = refused -/
def walkC (so : List Int) (n : Int) : List Int → Option Int → Bool
  | [], _ => true
  | b :: rs, l => if b ∈ so then walkC so n rs (some b) else match l with
    | none => false
    | some z => if z + n ≤ b then false else walkC so n rs l
def totC (so ws : List Int) (n pr : Int) : List Int → Int → Int
  | [], t => t
  | b :: r, t => totC so ws n pr r (t + 1 + pr * waitsS b r.head? ws n)
def costC (rs ws so : List Int) (n pr : Int) : Option Int := if walkC so n rs none = true then some (totC so ws n pr so 0) else none
def enN (i : Nat) (x : Int) : PD := .tuple [.int i, .int x]
theorem enumL_from : ∀ (xs : List Int) (k : Nat), (xs.map PyData.int).mapIdx (fun i x => pairD (.int ((i + k : Nat) : Int)) x) = xs.mapIdx fun i x => enN (i + k) x
  | [], k => rfl
  | x :: xs, k => by
    simp only [List.map_cons, List.mapIdx_cons]
    congr 1
    · have := enumL_from xs (k + 1)
      simp only [Nat.add_assoc, Nat.add_comm 1 k] at this ⊢
      exact this
def enL (k : Nat) : List Int → List PD
  | [] => []
  | x :: xs => enN k x :: enL (k + 1) xs
theorem enumL_enL (xs : List Int) : enumL (xs.map .int) = enL 0 xs := by
  have h : ∀ (xs : List Int) (k : Nat), (xs.map PyData.int).mapIdx (fun i x => pairD (.int ((i + k : Nat) : Int)) x) = enL k xs := by
    intro xs
    induction xs with
    | nil => intro k; rfl
    | cons x xs ih =>
      intro k
      rw [List.map_cons, List.mapIdx_cons]
      have := ih (k + 1)
      unfold enL
      congr 1
      · simp [DL.pairD, enN]
      · rw [← this]
        congr 1
        funext i x
        rw [Nat.add_assoc, Nat.add_comm 1 k]
  exact h xs 0
theorem cost_walk (rs ws so : List Int) (n pr : Int) : ∀ (xs : List Int) (k : Nat) (l : Option Int) (t : Int) (o7 o8 : Option RV), ∃ d, forM (gTupM 2 (gConsM (setD 7) (gConsM (setD 8) gNilM))) (iteM (tbin inB (gv 8) (gv 4)) (stM 5 .dat (gv 8)) (iteM (orT (tbin isB (gv 5) (DL.ret .none)) (tbin geB (gv 8) (frzV (bin addV (gv 5) (gv 2))))) (retM .dat (DL.ret .none)) nxt)) (enL k xs)
      [some (.dat (tI rs)), some (.dat (tI ws)), some (.dat (.int n)), some (.dat (.int pr)), some (.dat (tI so)), some (.dat (oI l)), some (.dat (.int t)), o7, o8, none] = .ok (if walkC so n xs l = true then .nx else .rt (.dat .none)) d ∧
      (walkC so n xs l = true → ∃ l' o7' o8', d = [some (.dat (tI rs)), some (.dat (tI ws)), some (.dat (.int n)), some (.dat (.int pr)), some (.dat (tI so)), some (.dat (oI l')), some (.dat (.int t)), o7', o8', none]) := by
  intro xs
  induction xs with
  | nil => intro k l t o7 o8; exact ⟨_, rfl, fun _ => ⟨l, o7, o8, rfl⟩⟩
  | cons x xs ih =>
    intro k l t o7 o8
    show ∃ d, forM _ _ (enN k x :: enL (k + 1) xs) _ = _ ∧ _
    rw [forM_cons]
    by_cases m : x ∈ so
    · obtain ⟨d, h, h2⟩ := ih (k + 1) (some x) t (some (.dat (.int k))) (some (.dat (.int x)))
      have e : walkC so n (x :: xs) l = walkC so n xs (some x) := by simp [walkC, m]
      refine ⟨d, ?_, by rw [e]; exact h2⟩
      rw [e]
      simp [enN, m]
      simpa using h
    · cases l with
      | none =>
        have e : walkC so n (x :: xs) none = false := by simp [walkC, m]
        rw [e]
        exact ⟨_, by simp [enN, m]; rfl, fun z => Bool.noConfusion z⟩
      | some z =>
        by_cases c : z + n ≤ x
        · have e : walkC so n (x :: xs) (some z) = false := by simp [walkC, m, c]
          rw [e]
          exact ⟨_, by simp [enN, m, c]; rfl, fun z => Bool.noConfusion z⟩
        · obtain ⟨d, h, h2⟩ := ih (k + 1) (some z) t (some (.dat (.int k))) (some (.dat (.int x)))
          have e : walkC so n (x :: xs) (some z) = walkC so n xs (some z) := by simp [walkC, m, c]
          refine ⟨d, ?_, by rw [e]; exact h2⟩
          rw [e]
          simp [enN, m, c]
          simpa using h
theorem cost_tot (rs ws so : List Int) (n pr : Int) (hw : ws.length ≤ 1000) (hp : 0 ≤ pr) (hp2 : pr ≤ 1000000) : ∀ (xs pre : List Int) (l : Option Int) (t : Int) (o7 o8 o9 : Option RV), so = pre ++ xs → ∃ o7' o8' o9', forM (gTupM 2 (gConsM (setD 7) (gConsM (setD 8) gNilM))) (seqM (stM 9 .dat (ifD (tbin ltB (frzV (bin addV (gv 7) (DL.ret (.int 1)))) (ap1 lenD (gv 4))) (bin ixD (gv 4) (frzV (bin addV (gv 7) (DL.ret (.int 1))))) (DL.ret .none))) (stM 6 .dat (frzV (bin addV (frzV (bin addV (gv 6) (DL.ret (.int 1)))) (frzV (bin mulV (gv 3) (frzV (callN 4 D_waits_by (consR .dat (gv 8) (consR .dat (gv 9) (consR .dat (gv 1) (consR .dat (gv 2) (DL.ret []))))))))))))) (enL pre.length xs)
      [some (.dat (tI rs)), some (.dat (tI ws)), some (.dat (.int n)), some (.dat (.int pr)), some (.dat (tI so)), some (.dat (oI l)), some (.dat (.int t)), o7, o8, o9] = .ok .nx [some (.dat (tI rs)), some (.dat (tI ws)), some (.dat (.int n)), some (.dat (.int pr)), some (.dat (tI so)), some (.dat (oI l)), some (.dat (.int (totC so ws n pr xs t))), o7', o8', o9'] := by
  intro xs
  induction xs with
  | nil => intro pre l t o7 o8 o9 _; exact ⟨o7, o8, o9, rfl⟩
  | cons x xs ih =>
    intro pre l t o7 o8 o9 hs
    obtain ⟨o7', o8', o9', h⟩ := ih (pre ++ [x]) l (t + 1 + pr * waitsS x xs.head? ws n) (some (.dat (.int pre.length))) (some (.dat (.int x))) (some (.dat (oI xs.head?))) (by rw [hs]; simp)
    refine ⟨o7', o8', o9', ?_⟩
    have hk : ∀ z : Int, mulV (.int pr) (.int z) = some (.dat (.int (pr * z))) := fun z => mulV_ii (mulOk_l (by omega) (by omega))
    have hwb := waits_by_eval x n xs.head? ws hw
    show forM _ _ (enN pre.length x :: enL (pre.length + 1) xs) _ = _
    rw [forM_cons]
    rw [List.length_append, List.length_singleton] at h
    cases xs with
    | nil =>
      have hlt : ¬ ((pre.length : Int) + 1 < (so.length : Int)) := by rw [hs]; simp
      simp [enN, hlt, callN_app, hk] at hwb h ⊢
      simp [hwb, hk]
      simpa [totC] using h
    | cons y ys =>
      have hlt : ((pre.length : Int) + 1 < (so.length : Int)) := by rw [hs]; simp; omega
      have hat : ixD (.tuple (so.map .int)) (.int ((pre.length : Int) + 1)) = some (.int y) := by
        have : ((pre.length : Int) + 1) = ((pre.length + 1 : Nat) : Int) := by omega
        rw [this]
        refine (atI_nat' _ _).trans ?_
        rw [hs]; simp
      simp [enN, hlt, callN_app, hk, hat] at hwb h ⊢
      simp [hwb, hk]
      simpa [totC] using h
theorem cost_of_eval (rs ws so : List Int) (n pr : Int) (hw : ws.length ≤ 1000) (hp : 0 ≤ pr) (hp2 : pr ≤ 1000000) : D_cost_of [.dat (tI rs), .dat (tI ws), .dat (.int n), .dat (.int pr), .dat (tI so)] = some (.dat (oI (costC rs ws so n pr)), noCn) := by
  obtain ⟨d, h, h2⟩ := cost_walk rs ws so n pr rs 0 none 0 none none
  unfold D_cost_of
  by_cases c : walkC so n rs none = true
  · obtain ⟨l', o7, o8, rfl⟩ := h2 c
    obtain ⟨o7', o8', o9', h3⟩ := cost_tot rs ws so n pr hw hp hp2 so [] l' 0 o7 o8 none rfl
    rw [if_pos c] at h
    have e : costC rs ws so n pr = some (totC so ws n pr so 0) := by unfold costC; rw [if_pos c]
    rw [e]
    refine den_eq (io := false) (o := .rt (.dat (.int (totC so ws n pr so 0)))) (ds' := [some (.dat (tI rs)), some (.dat (tI ws)), some (.dat (.int n)), some (.dat (.int pr)), some (.dat (tI so)), some (.dat (oI l')), some (.dat (.int (totC so ws n pr so 0))), o7', o8', o9']) (c := noCn) [some (.dat (tI rs)), some (.dat (tI ws)), some (.dat (.int n)), some (.dat (.int pr)), some (.dat (tI so)), none, none, none, none, none] rfl ?_ rfl
    unfold B_cost_of
    simp only [List.length_nil] at h3
    simp [enumL_enL] at h h3 ⊢
    simp [h, enumL_enL, h3]
  · rw [if_neg c] at h
    have e : costC rs ws so n pr = none := by unfold costC; rw [if_neg c]
    rw [e]
    refine den_eq (io := false) (o := .rt (.dat .none)) (ds' := d) (c := noCn) [some (.dat (tI rs)), some (.dat (tI ws)), some (.dat (.int n)), some (.dat (.int pr)), some (.dat (tI so)), none, none, none, none, none] rfl ?_ rfl
    unfold B_cost_of
    simp [enumL_enL] at h ⊢
    simp [h, enumL_enL]
end K78

namespace K78
open PySem PySem.Spec PyProof.Rows L2 DL
def okW (rs : List Int) : Bool := beatsB rs && decide (rs.length ≤ 1000)
theorem okW_1 {rs : List Int} (h : okW rs = true) : beatsB rs = true := ((Bool.and_eq_true _ _).mp h).1
theorem okW_2 {rs : List Int} (h : okW rs = true) : rs.length ≤ 1000 := of_decide_eq_true ((Bool.and_eq_true _ _).mp h).2
def okN (n : Int) : Bool := decide (1 ≤ n) && decide (n ≤ 1000000)
theorem okN_1 {n : Int} (h : okN n = true) : 1 ≤ n := of_decide_eq_true ((Bool.and_eq_true _ _).mp h).1
theorem okN_2 {n : Int} (h : okN n = true) : n ≤ 1000000 := of_decide_eq_true ((Bool.and_eq_true _ _).mp h).2
def T_asked (rs : List Int) (n : Int) : Option (List Int) := if okW rs = true ∧ okN n = true then some (askedL rs n) else none
theorem t_asked (rs : List Int) (n : Int) : ∀ v, T_asked rs n = some v → D_asked [.dat (eT eI rs), .dat (eI n)] = some (.dat (eT eI v), noCn) := fun v hv => by
  obtain ⟨⟨h1, h2⟩, rfl⟩ := cond_some hv
  exact asked_eval rs n (okW_1 h1) (okW_2 h1) (okN_1 h2) (okN_2 h2)
def T_wrong (rs ws : List Int) (n : Int) : Option (List Int) := if okW rs = true ∧ okW ws = true ∧ okN n = true then some (wrongL rs ws (askedL rs n)) else none
theorem t_wrong (rs ws : List Int) (n : Int) : ∀ v, T_wrong rs ws n = some v → D_wrong [.dat (eT eI rs), .dat (eT eI ws), .dat (eI n)] = some (.dat (eT eI v), noCn) := fun v hv => by
  obtain ⟨⟨h1, h2, h3⟩, rfl⟩ := cond_some hv
  exact wrong_eval rs ws n (okW_1 h1) (okW_2 h1) (okW_1 h2) (okW_2 h2) (okN_1 h3) (okN_2 h3)
def T_done (ws gs : List Int) (n : Int) : Option (List Int) := if okW gs = true ∧ okW ws = true ∧ okN n = true then some (doneL ws gs n) else none
theorem t_done (ws gs : List Int) (n : Int) : ∀ v, T_done ws gs n = some v → D_done [.dat (eT eI ws), .dat (eT eI gs), .dat (eI n)] = some (.dat (eT eI v), noCn) := fun v hv => by
  obtain ⟨⟨h1, h2, h3⟩, rfl⟩ := cond_some hv
  exact done_eval ws gs n (okW_1 h1) (okW_2 h1) (okW_1 h2) (okW_2 h2) (okN_1 h3) (okN_2 h3)
def T_fewest_asked (rs ws : List Int) : Option (List Int) := if okW rs = true ∧ okW ws = true then some (freshL rs ws) else none
theorem t_fewest_asked (rs ws : List Int) : ∀ v, T_fewest_asked rs ws = some v → D_fewest_asked [.dat (eT eI rs), .dat (eT eI ws)] = some (.dat (eT eI v), noCn) := fun v hv => by
  obtain ⟨⟨h1, h2⟩, rfl⟩ := cond_some hv
  exact fewest_asked_eval rs ws (okW_1 h1) (okW_2 h1) (okW_1 h2) (okW_2 h2)
def T_asked_of (rs : List Int) (n : Int) : Option (List Int) := if rs.length ≤ 1000 then some (askedL rs n) else none
theorem t_asked_of (rs : List Int) (n : Int) : ∀ v, T_asked_of rs n = some v → D_asked_of [.dat (eT eI rs), .dat (eI n)] = some (.dat (eT eI v), noCn) := fun v hv => by
  obtain ⟨h1, rfl⟩ := cond_some hv
  exact asked_of_eval rs n h1
def T_wrong_of (rs ws so : List Int) : Option (List Int) := if rs.length ≤ 1000 ∧ ws.length ≤ 1000 then some (wrongL rs ws so) else none
theorem t_wrong_of (rs ws so : List Int) : ∀ v, T_wrong_of rs ws so = some v → D_wrong_of [.dat (eT eI rs), .dat (eT eI ws), .dat (eT eI so)] = some (.dat (eT eI v), noCn) := fun v hv => by
  obtain ⟨⟨h1, h2⟩, rfl⟩ := cond_some hv
  exact wrong_of_eval rs ws so h1 h2
def T_waits_by (b : Int) (l : Option Int) (ws : List Int) (n : Int) : Option Int := if ws.length ≤ 1000 then some (waitsS b l ws n) else none
theorem eO_oI (l : Option Int) : eO eI l = oI l := by cases l <;> rfl
theorem t_waits_by (b : Int) (l : Option Int) (ws : List Int) (n : Int) : ∀ v, T_waits_by b l ws n = some v → D_waits_by [.dat (eI b), .dat (eO eI l), .dat (eT eI ws), .dat (eI n)] = some (.dat (eI v), noCn) := fun v hv => by
  obtain ⟨h1, rfl⟩ := cond_some hv
  rw [eO_oI]
  exact waits_by_eval b n l ws h1
def T_cost_of (rs ws : List Int) (n pr : Int) (so : List Int) : Option (Option Int) := if ws.length ≤ 1000 ∧ 0 ≤ pr ∧ pr ≤ 1000000 then some (costC rs ws so n pr) else none
theorem t_cost_of (rs ws : List Int) (n pr : Int) (so : List Int) : ∀ v, T_cost_of rs ws n pr so = some v → D_cost_of [.dat (eT eI rs), .dat (eT eI ws), .dat (eI n), .dat (eI pr), .dat (eT eI so)] = some (.dat (eO eI v), noCn) := fun v hv => by
  obtain ⟨⟨h1, h2, h3⟩, rfl⟩ := cond_some hv
  rw [eO_oI]
  exact cost_of_eval rs ws so n pr h1 h2 h3
def neB1 (rs as : List Int) : Bool := !decide (as.take 1 = rs.take 1) || rs.all fun b => !decide ((as.filter fun a => decide (a ≤ b)) = [])
def T__law_cost (rs ws : List Int) (n pr : Int) (as : List Int) : Option (Option Int) := if rs.length ≤ 1000 ∧ ws.length ≤ 1000 ∧ as.length ≤ 1000 ∧ 0 ≤ pr ∧ pr ≤ 1000000 ∧ neB1 rs as = true then some (lcost rs ws as n pr) else none
theorem t__law_cost (rs ws : List Int) (n pr : Int) (as : List Int) : ∀ v, T__law_cost rs ws n pr as = some v → D__law_cost [.dat (eT eI rs), .dat (eT eI ws), .dat (eI n), .dat (eI pr), .dat (eT eI as)] = some (.dat (eO eI v), noCn) := fun v hv => by
  obtain ⟨⟨h1, h2, h3, h4, h5, h6⟩, rfl⟩ := cond_some hv
  rw [eO_oI]
  refine law_cost_eval rs ws as n pr h1 h2 h3 h4 h5 fun e b hb => ?_
  unfold neB1 at h6
  rw [Bool.or_eq_true] at h6
  rcases h6 with h6 | h6
  · simp [e] at h6
  · have := List.all_eq_true.mp h6 b hb
    simpa using this
def T_check_reads (ns : List Int) : Option Unit := if okW ns = true then some () else none
theorem t_check_reads (ns : List Int) : ∀ v, T_check_reads ns = some v → D_check_reads [.dat (eT eI ns)] = some (.dat (eN v), noCn) := fun v hv => by
  obtain ⟨h1, rfl⟩ := cond_some hv
  exact check_reads_eval ns (okW_1 h1) (okW_2 h1)
def T_check_writes (ns : List Int) : Option Unit := if okW ns = true then some () else none
theorem t_check_writes (ns : List Int) : ∀ v, T_check_writes ns = some v → D_check_writes [.dat (eT eI ns)] = some (.dat (eN v), noCn) := fun v hv => by
  obtain ⟨h1, rfl⟩ := cond_some hv
  exact check_writes_eval ns (okW_1 h1) (okW_2 h1)
def T_check_length (n : Int) : Option Unit := if okN n = true then some () else none
theorem t_check_length (n : Int) : ∀ v, T_check_length n = some v → D_check_length [.dat (eI n)] = some (.dat (eN v), noCn) := fun v hv => by
  obtain ⟨h1, rfl⟩ := cond_some hv
  exact check_length_eval n (okN_1 h1) (okN_2 h1)
def T_is_integer (v a b : Int) : Option Bool := some (decide (a ≤ v) && decide (v ≤ b))
theorem t_is_integer (v a b : Int) : ∀ r, T_is_integer v a b = some r → D_is_integer [.dat (eI v), .dat (eI a), .dat (eI b)] = some (.dat (eB r), noCn) := fun r hr => by
  cases hr; exact is_integer_eval v a b
def T_is_beats (ns : List Int) : Option Bool := if ns.length ≤ 1000 then some (beatsB ns) else none
theorem t_is_beats (ns : List Int) : ∀ v, T_is_beats ns = some v → D_is_beats [.dat (eT eI ns)] = some (.dat (eB v), noCn) := fun v hv => by
  obtain ⟨h1, rfl⟩ := cond_some hv
  exact is_beats_eval ns h1
def T_is_tuple (v : Int × List Int) (a b : Int) : Option Bool := some (decide (a ≤ 2) && decide (2 ≤ b))
theorem t_is_tuple (v : Int × List Int) (a b : Int) : ∀ r, T_is_tuple v a b = some r → D_is_tuple [.dat (eP eI (eT eI) v), .dat (eI a), .dat (eI b)] = some (.dat (eB r), noCn) := fun r hr => by
  cases hr; exact is_tuple_eval a b _
def T__law_take (pot : List Int) (u : Int) : Option (Int × List Int) := ioI (D__law_take [.own (oL eI pot), .dat (.int u)])
theorem t__law_take (pot : List Int) (u : Int) : ∀ v, T__law_take pot u = some v → D__law_take [.own (oL eI pot), .dat (eI u)] = some (.dat (eI v.1), oL eI v.2) := fun v hv => ioI_some hv
def T__law_pot (ns : List Int) (p : Int) : Option (List Int) := owI (D__law_pot [.scr ns, .dat (.int p)])
theorem t__law_pot (ns : List Int) (p : Int) : ∀ v, T__law_pot ns p = some v → D__law_pot [.scr ns, .dat (eI p)] = some (.own (oL eI v), noCn) := fun v hv => owI_some hv
end K78

set_option maxHeartbeats 1000000
namespace K78
open PySem PySem.Spec PyProof.Rows L2 DL
def T__law_places (a_script : List Int) (a_most : Int) : Option (List Int) := ((lrngT ((if (if (a_script.length : Int) < a_most then (a_script.length : Int) else a_most) > (1 : Int) then (if (a_script.length : Int) < a_most then (a_script.length : Int) else a_most) else (1 : Int)))).bind fun v_1 => (some v_1))
theorem t__law_places (a_script : List Int) (a_most : Int) : ∀ v, T__law_places a_script a_most = some v → D__law_places [.scr a_script, .dat (eI a_most)] = some (.dat ((eL eI) v), noCn) := fun v hv =>
  den_bx (t := T__law_places a_script a_most) (e' := (fun w => .rt (.dat ((eL eI) w)))) (q' := (fun w => [.any, .any])) (p0 := [.is (.scr a_script), .is (.dat (eI a_most))]) (c_retM (c_fz (c_lrngM (c_ap2 (c_ret (c_ap2 (c_gv rfl (c_slen (c_getS rfl (c_of (min2_ii a_most ((a_script.length : Int))) (c_of (max2_ii ((1 : Int)) ((if (a_script.length : Int) < a_most then (a_script.length : Int) else a_most))) (c_lrngK fun v_1 => (c_ret (x_ret rfl (wk_c le_any (wk_c le_any wk_n)))))))))))))))) hv (at_c ok_is (at_c ok_is at_n))
def T_least_of (a_reads : (List Int)) (a_writes : (List Int)) (a_length : Int) (a_price : Int) : Option (Int × (List Int)) := (((some ((a_reads.length : Int)))).bind fun many_1 => (((some ([(many_1, ((0 : Int), []))]))).bind fun best_2 => ((rng3T ((many_1 - (1 : Int))) ((-(1 : Int))) ((-(1 : Int)))).bind fun v_3 => ((forT (fun (x_4 : Int) (s_5 : (List (Int × (Int × (List Int))))) => ((rng2T ((x_4 + (1 : Int))) ((many_1 + (1 : Int)))).bind fun v_6 => ((forT (fun (x_7 : Int) (s_8 : (List (Int × (List Int)))) => ((rng2T ((x_4 + (1 : Int))) x_7).bind fun v_9 => ((lcT (fun (x_10 : Int) => ((atI a_reads x_10).bind fun v_12 => ((atI a_reads x_4).bind fun v_13 => (some ((some ((decide (v_12 < (v_13 + a_length)))))))))) v_9).bind fun v_14 => (if (v_14.all id) = true then ((if (decide (x_7 < many_1)) = true then ((atI a_reads x_7).bind fun v_15 => (some ((some v_15)))) else (some none)).bind fun v_16 => ((lookT s_5 x_7).bind fun v_17 => ((atI a_reads x_4).bind fun v_18 => ((T_waits_by v_18 v_16 a_writes a_length).bind fun r_19 => ((mulT a_price r_19).bind fun v_20 => ((atI a_reads x_4).bind fun v_21 => ((okL ((v_21 :: v_17.2))).bind fun v_22 => ((appT s_8 (((((1 : Int) + v_20) + v_17.1), v_22))).bind fun some_23 => (some some_23))))))))) else (some s_8))))) v_6 []).bind fun s_24 => ((minT (ltP ltI (ltL ltI)) s_24).bind fun v_25 => ((putO s_5 x_4 v_25).bind fun best_26 => (some best_26)))))) v_3 best_2).bind fun s_27 => ((lookT s_27 ((0 : Int))).bind fun v_28 => (some v_28))))))
theorem t_least_of (a_reads : (List Int)) (a_writes : (List Int)) (a_length : Int) (a_price : Int) : ∀ v, T_least_of a_reads a_writes a_length a_price = some v → D_least_of [.dat ((eT eI) a_reads), .dat ((eT eI) a_writes), .dat (eI a_length), .dat (eI a_price)] = some (.dat ((eP eI (eT eI)) v), noCn) := fun v hv =>
  den_bx (t := T_least_of a_reads a_writes a_length a_price) (e' := (fun w => .rt (.dat ((eP eI (eT eI)) w)))) (q' := (fun w => [.any, .any, .any, .any, .any, .any, .any, .any, .any, .any, .any, .any, .any])) (p0 := [.is (.dat ((eT eI) a_reads)), .is (.dat ((eT eI) a_writes)), .is (.dat (eI a_length)), .is (.dat (eI a_price)), .pl, .pl, .pl, .pl, .pl, .pl, .pl, .pl, .pl]) (c_seq (c_stM (c_ap1 (c_gv rfl (c_of (lenT eI a_reads) (c_setV (r := fun w => .dat (eI w)) (v := (a_reads.length : Int)) fun many_1 => (c_nxK (c_nm [.is (.dat ((eT eI) a_reads)), .is (.dat ((eT eI) a_writes)), .is (.dat (eI a_length)), .is (.dat (eI a_price)), .is (.dat (eI many_1)), .pl, .pl, .pl, .pl, .pl, .pl, .pl, .pl] rfl (c_seq (c_stM (c_dnew1 (c_gv rfl (c_mkTup (c_consA (c_ret (c_consA (c_mkTup (c_nilA (c_tupK rfl (c_nilA (c_tupK rfl (c_of (dnew1E (ev := (eP eI (eT eI))) kI many_1 (((0 : Int), []))) (c_setV (r := fun w => .own (oD eI (eP eI (eT eI)) w)) (v := [(many_1, ((0 : Int), []))]) fun best_2 => (c_nxK (c_nm [.is (.dat ((eT eI) a_reads)), .is (.dat ((eT eI) a_writes)), .is (.dat (eI a_length)), .is (.dat (eI a_price)), .is (.dat (eI many_1)), .is (.own (oD eI (eP eI (eT eI)) best_2)), .pl, .pl, .pl, .pl, .pl, .pl, .pl] rfl (c_seq (c_asc (c_rng3 (c_bin (c_gv rfl (c_ret (c_of (subI_ii many_1 ((1 : Int))) (c_una (c_ret (c_of (negI_i _) (c_una (c_ret (c_of (negI_i _) (c_ofp (List.map eI) (rng3E ((many_1 - (1 : Int))) ((-(1 : Int))) ((-(1 : Int)))) fun v_3 => (c_forN (en := eI) (xs := v_3) (s0 := best_2) (fun s_5 => [.is (.dat ((eT eI) a_reads)), .is (.dat ((eT eI) a_writes)), .is (.dat (eI a_length)), .is (.dat (eI a_price)), .is (.dat (eI many_1)), .is (.own (oD eI (eP eI (eT eI)) s_5)), .pl, .pl, .pl, .pl, .pl, .pl, .pl]) (wk_c le_is (wk_c le_is (wk_c le_is (wk_c le_is (wk_c le_is (wk_c le_is (wk_c le_plP (wk_c le_plP (wk_c le_plP (wk_c le_plP (wk_c le_plP (wk_c le_plP (wk_c le_plP wk_n))))))))))))) (fun x_4 s_5 => (c_setD (c_seq (c_stM (c_mkLst (c_nilA (c_lstK rfl (c_setR (c_nxK (c_nm [.is (.dat ((eT eI) a_reads)), .is (.dat ((eT eI) a_writes)), .is (.dat (eI a_length)), .is (.dat (eI a_price)), .is (.dat (eI many_1)), .is (.own (oD eI (eP eI (eT eI)) s_5)), .is (.dat (eI x_4)), .is (.own (oL (eP eI (eT eI)) ([]))), .pl, .pl, .pl, .pl, .pl] rfl (c_seq (c_asc (c_rng2 (c_frzV (c_bin (c_gv rfl (c_ret (c_of (addV_ii x_4 ((1 : Int))) (c_frzD (c_frzV (c_bin (c_gv rfl (c_ret (c_of (addV_ii many_1 ((1 : Int))) (c_frzD (c_ofp (List.map eI) (rng2E ((x_4 + (1 : Int))) ((many_1 + (1 : Int)))) fun v_6 => (c_forN (en := eI) (xs := v_6) (s0 := []) (fun s_8 => [.is (.dat ((eT eI) a_reads)), .is (.dat ((eT eI) a_writes)), .is (.dat (eI a_length)), .is (.dat (eI a_price)), .is (.dat (eI many_1)), .is (.own (oD eI (eP eI (eT eI)) s_5)), .is (.dat (eI x_4)), .is (.own (oL (eP eI (eT eI)) s_8)), .pl, .pl, .pl, .pl, .pl]) (wk_c le_is (wk_c le_is (wk_c le_is (wk_c le_is (wk_c le_is (wk_c le_is (wk_c le_is (wk_c le_is (wk_c le_plP (wk_c le_plP (wk_c le_plP (wk_c le_plP (wk_c le_plP wk_n))))))))))))) (fun x_7 s_8 => (c_setD (c_iteM (c_asc (c_ap1 (c_fz (c_lcM (c_rng2 (c_frzV (c_bin (c_gv rfl (c_ret (c_of (addV_ii x_4 ((1 : Int))) (c_frzD (c_gv rfl (c_ofp (List.map eI) (rng2E ((x_4 + (1 : Int))) x_7) fun v_9 => (c_lc (en := eI) (xs := v_9) eB rfl (fun x_10 => (c_turn (c_setD (c_yes (c_bin (c_bin (c_gv rfl (c_gv rfl (c_ofp eI (ixT eI a_reads x_10) fun v_12 => (c_frzV (c_bin (c_bin (c_gv rfl (c_gv rfl (c_ofp eI (ixT eI a_reads x_4) fun v_13 => (c_gv rfl (c_of (addV_ii v_13 a_length) (c_frzD (c_of (bDs (ltB_ii v_12 ((v_13 + a_length)))) (x_ret rfl (wk_c le_is (wk_c le_is (wk_c le_is (wk_c le_is (wk_c le_is (wk_c le_is (wk_c le_is (wk_c le_is (wk_c le_is (wk_c le_plP (wk_c le_plP (wk_c le_plP (wk_c le_any wk_n))))))))))))))))))))))))))))))))) fun v_14 => (c_of (allE v_14) (c_boolOf (c_ifk (c_seq (c_stM (c_ifD (c_tbin (c_gv rfl (c_gv rfl (c_of (ltB_ii x_7 many_1) (c_ifx (eO eI) (fun _ => [.is (.dat ((eT eI) a_reads)), .is (.dat ((eT eI) a_writes)), .is (.dat (eI a_length)), .is (.dat (eI a_price)), .is (.dat (eI many_1)), .is (.own (oD eI (eP eI (eT eI)) s_5)), .is (.dat (eI x_4)), .is (.own (oL (eP eI (eT eI)) s_8)), .is (.dat (eI x_7)), .pl, .pl, .pl, .pl]) (c_fin (c_bin (c_gv rfl (c_gv rfl (c_ofp eI (ixT eI a_reads x_7) fun v_15 => (x_ret rfl (Wk.refl _))))))) (c_fin (c_ret (x_ret rfl (Wk.refl _)))) fun v_16 => (c_setR (c_nxK (c_nm [.is (.dat ((eT eI) a_reads)), .is (.dat ((eT eI) a_writes)), .is (.dat (eI a_length)), .is (.dat (eI a_price)), .is (.dat (eI many_1)), .is (.own (oD eI (eP eI (eT eI)) s_5)), .is (.dat (eI x_4)), .is (.own (oL (eP eI (eT eI)) s_8)), .is (.dat (eI x_7)), .is (.dat ((eO eI) v_16)), .pl, .pl, .pl] rfl (c_seq (c_asgM (c_odget (c_getDc rfl (c_gv rfl (c_getDc rfl (c_ofp (eP eI (eT eI)) (odgetE (ev := (eP eI (eT eI))) kI s_5 x_7) fun v_17 => (c_gTup rfl (c_gCons (c_setD (c_gCons (c_setD (c_gNil (c_nxK (c_nm [.is (.dat ((eT eI) a_reads)), .is (.dat ((eT eI) a_writes)), .is (.dat (eI a_length)), .is (.dat (eI a_price)), .is (.dat (eI many_1)), .is (.own (oD eI (eP eI (eT eI)) s_5)), .is (.dat (eI x_4)), .is (.own (oL (eP eI (eT eI)) s_8)), .is (.dat (eI x_7)), .is (.dat ((eO eI) v_16)), .is (.dat (eI v_17.1)), .is (.dat ((eT eI) v_17.2)), .pl] rfl (c_asc (c_appM (c_getL rfl (c_mkTup (c_consA (c_frzV (c_bin (c_frzV (c_bin (c_ret (c_frzV (c_bin (c_gv rfl (c_frzV (c_callN (c_consR (c_bin (c_gv rfl (c_gv rfl (c_ofp eI (ixT eI a_reads x_4) fun v_18 => (c_consR (c_gv rfl (c_consR (c_gv rfl (c_consR (c_gv rfl (c_ret (c_callK (fun w => .dat (eI w)) rfl rfl (t_waits_by v_18 v_16 a_writes a_length) fun r_19 => (c_frzD (c_ofp (fun w => .dat (.int w)) (mulE a_price r_19) fun v_20 => (c_frzD (c_of (addV_ii ((1 : Int)) v_20) (c_frzD (c_gv rfl (c_of (addV_ii (((1 : Int) + v_20)) v_17.1) (c_frzD (c_consA (c_mkTup (c_consA (c_bin (c_gv rfl (c_gv rfl (c_ofp eI (ixT eI a_reads x_4) fun v_21 => (c_starA (c_gv rfl (c_starK rfl (c_nilA (c_tupKL (en := eI) (xs := (v_21 :: v_17.2)) (by simp) fun v_22 => (c_nilA (c_tupK rfl (c_getL rfl (c_appK (en := (eP eI (eT eI))) (x := ((((1 : Int) + v_20) + v_17.1), v_22)) (xs := s_8) fun some_23 => (c_nx (x_ret rfl (wk_c le_is (wk_c le_is (wk_c le_is (wk_c le_is (wk_c le_is (wk_c le_is (wk_c le_is (wk_c le_is (wk_c le_plD (wk_c le_plD (wk_c le_plD (wk_c le_plD (wk_c le_plP wk_n))))))))))))))))))))))))))))))))))))))))))))))))))))))))))))))))))))))))))))))))))))))))))))) (c_nx (x_ret rfl (wk_c le_is (wk_c le_is (wk_c le_is (wk_c le_is (wk_c le_is (wk_c le_is (wk_c le_is (wk_c le_is (wk_c le_plD (wk_c le_plP (wk_c le_plP (wk_c le_plP (wk_c le_plP wk_n))))))))))))))))))))))))))))))))))) fun s_24 => (c_nxK (c_nm [.is (.dat ((eT eI) a_reads)), .is (.dat ((eT eI) a_writes)), .is (.dat (eI a_length)), .is (.dat (eI a_price)), .is (.dat (eI many_1)), .is (.own (oD eI (eP eI (eT eI)) s_5)), .is (.dat (eI x_4)), .is (.own (oL (eP eI (eT eI)) s_24)), .pl, .pl, .pl, .pl, .pl] rfl (c_seq (c_frzM rfl (c_nxK (c_odput (c_ap1 (c_gv rfl (c_ofp (eP eI (eT eI)) (minE (ordP ordI qI (ordT ordI qI) (qT qI)) (qP qI (qT qI)) s_24) fun v_25 => (c_getDc rfl (c_gv rfl (c_getDc rfl (c_odputK (ev := (eP eI (eT eI))) kI (x := v_25) (y := x_4) (kvs := s_5) fun best_26 => (c_nx (x_ret rfl (wk_c le_is (wk_c le_is (wk_c le_is (wk_c le_is (wk_c le_is (wk_c le_is (wk_c le_plD (wk_c le_plD (wk_c le_plP (wk_c le_plP (wk_c le_plP (wk_c le_plP (wk_c le_plP wk_n))))))))))))))))))))))))))))))))))))))))))))))))))))))) fun s_27 => (c_nxK (c_nm [.is (.dat ((eT eI) a_reads)), .is (.dat ((eT eI) a_writes)), .is (.dat (eI a_length)), .is (.dat (eI a_price)), .is (.dat (eI many_1)), .is (.own (oD eI (eP eI (eT eI)) s_27)), .pl, .pl, .pl, .pl, .pl, .pl, .pl] rfl (c_retM (c_odget (c_getDc rfl (c_ret (c_getDc rfl (c_ofp (eP eI (eT eI)) (odgetE (ev := (eP eI (eT eI))) kI s_27 ((0 : Int))) fun v_28 => (c_ret (x_ret rfl (wk_c le_any (wk_c le_any (wk_c le_any (wk_c le_any (wk_c le_any (wk_c le_any (wk_c le_any (wk_c le_any (wk_c le_any (wk_c le_any (wk_c le_any (wk_c le_any (wk_c le_any wk_n))))))))))))))))))))))))))))))))))))))))))))))))))))))))))))))) hv (at_c ok_is (at_c ok_is (at_c ok_is (at_c ok_is (at_c ok_pl (at_c ok_pl (at_c ok_pl (at_c ok_pl (at_c ok_pl (at_c ok_pl (at_c ok_pl (at_c ok_pl (at_c ok_pl at_n)))))))))))))
def T_least_cost (a_reads : (List Int)) (a_writes : (List Int)) (a_length : Int) (a_price : Int) : Option (Int × (List Int)) := ((T_check_reads a_reads).bind fun r_1 => ((T_check_writes a_writes).bind fun r_2 => ((T_check_length a_length).bind fun r_3 => ((T_is_integer a_price ((0 : Int)) ((1000000 : Int))).bind fun r_4 => (if (!r_4) = true then none else ((T_least_of a_reads a_writes a_length a_price).bind fun r_5 => (some r_5)))))))
theorem t_least_cost (a_reads : (List Int)) (a_writes : (List Int)) (a_length : Int) (a_price : Int) : ∀ v, T_least_cost a_reads a_writes a_length a_price = some v → D_least_cost [.dat ((eT eI) a_reads), .dat ((eT eI) a_writes), .dat (eI a_length), .dat (eI a_price)] = some (.dat ((eP eI (eT eI)) v), noCn) := fun v hv =>
  den_bx (t := T_least_cost a_reads a_writes a_length a_price) (e' := (fun w => .rt (.dat ((eP eI (eT eI)) w)))) (q' := (fun w => [.any, .any, .any, .any])) (p0 := [.is (.dat ((eT eI) a_reads)), .is (.dat ((eT eI) a_writes)), .is (.dat (eI a_length)), .is (.dat (eI a_price))]) (c_seq (c_asc (c_callN (c_consR (c_gv rfl (c_ret (c_callK (fun w => .dat (eN w)) rfl rfl (t_check_reads a_reads) fun r_1 => (c_nxK (c_seq (c_asc (c_callN (c_consR (c_gv rfl (c_ret (c_callK (fun w => .dat (eN w)) rfl rfl (t_check_writes a_writes) fun r_2 => (c_nxK (c_seq (c_asc (c_callN (c_consR (c_gv rfl (c_ret (c_callK (fun w => .dat (eN w)) rfl rfl (t_check_length a_length) fun r_3 => (c_nxK (c_seq (c_iteM (c_notT (c_asc (c_frzV (c_callN (c_consR (c_gv rfl (c_consR (c_ret (c_consR (c_ret (c_ret (c_callK (fun w => .dat (eB w)) rfl rfl (t_is_integer a_price ((0 : Int)) ((1000000 : Int))) fun r_4 => (c_frzD (c_boolOf (c_ifk c_stuck (c_nxK (c_retM (c_frzV (c_callN (c_consR (c_gv rfl (c_consR (c_gv rfl (c_consR (c_gv rfl (c_consR (c_gv rfl (c_ret (c_callK (fun w => .dat ((eP eI (eT eI)) w)) rfl rfl (t_least_of a_reads a_writes a_length a_price) fun r_5 => (c_frzD (c_ret (x_ret rfl (wk_c le_any (wk_c le_any (wk_c le_any (wk_c le_any wk_n)))))))))))))))))))))))))))))))))))))))))))))))))))))))))))))) hv (at_c ok_is (at_c ok_is (at_c ok_is (at_c ok_is at_n))))
def T__law_of {α : Type} (a_pot : (List Int)) (a_some : (List α)) : Option (α × List Int) := ((T__law_take a_pot ((a_some.length : Int))).bind fun r_1 => ((atI a_some r_1.1).bind fun v_2 => (some ((v_2, r_1.2)))))
theorem t__law_of {α : Type} (eα : α → PD) (a_pot : (List Int)) (a_some : (List α)) : ∀ v, T__law_of a_pot a_some = some v → D__law_of [.own (oL eI a_pot), .dat ((eL eα) a_some)] = some (.dat (eα v.1), oL eI v.2) := fun v hv =>
  den_bxI (pr := [.any]) (t := T__law_of a_pot a_some) (e' := (fun w => .rt (.dat (eα w.1)))) (q' := (fun w => [.is (.own (oL eI w.2)), .any])) (p0 := [.is (.own (oL eI a_pot)), .is (.dat ((eL eα) a_some))]) (c_retM (c_bin (c_gv rfl (c_frzV (c_callIO rfl (c_consR (c_ap1 (c_gv rfl (c_of (lenL eα a_some) (c_ret (c_callIOK (fun w => .dat (eI w.1)) (fun w => oL eI w.2) rfl rfl rfl (t__law_take a_pot ((a_some.length : Int))) fun r_1 => (c_frzD (c_ofp eα (ixL eα a_some r_1.1) fun v_2 => (c_ret (x_ret rfl (wk_c le_is (wk_c le_any wk_n))))))))))))))))) hv (at_c ok_is (at_c ok_is at_n)) rfl
def T__law_day (a_reads : (List Int)) (a_writes : (List Int)) (a_length : Int) : Option ((List Int) × (List Int)) := ((mapF (fun (_ : Int) => true) (fun (x_1 : Int) => (x_1, (0 : Int))) a_writes).bind fun v_3 => ((mapF (fun (_ : Int) => true) (fun (x_4 : Int) => (x_4, (1 : Int))) a_reads).bind fun v_6 => ((extT v_3 v_6).bind fun v_7 => ((sortT (ltP ltI ltI) v_7).bind fun v_8 => ((forT (fun (x_9 : (Int × Int)) (s_10 : (Bool × (Option Int) × (List Int) × (List Int))) => (if (decide (x_9.2 = (0 : Int))) = true then (some (true, s_10.2.1, s_10.2.2.1, s_10.2.2.2)) else ((orO ((!s_10.2.1.isSome)) (((s_10.2.1).bind fun begun_11 => (some ((decide (a_length ≤ (x_9.1 - begun_11)))))))).bind fun b_12 => ((if b_12 = true then ((appT s_10.2.2.1 x_9.1).bind fun asks_14 => (some ((some x_9.1), false, asks_14))) else (some (s_10.2.1, s_10.1, s_10.2.2.1))).bind fun s_13 => ((extT s_10.2.2.2 ((if s_13.2.1 = true then [x_9.1] else []))).bind fun bad_15 => (some (s_13.2.1, s_13.1, s_13.2.2, bad_15))))))) v_8 (false, none, [], [])).bind fun s_16 => (some ((s_16.2.2.1, s_16.2.2.2))))))))
theorem t__law_day (a_reads : (List Int)) (a_writes : (List Int)) (a_length : Int) : ∀ v, T__law_day a_reads a_writes a_length = some v → D__law_day [.dat ((eT eI) a_reads), .dat ((eT eI) a_writes), .dat (eI a_length)] = some (.dat ((eP (eT eI) (eT eI)) v), noCn) := fun v hv =>
  den_bx (t := T__law_day a_reads a_writes a_length) (e' := (fun w => .rt (.dat ((eP (eT eI) (eT eI)) w)))) (q' := (fun w => [.any, .any, .any, .any, .any, .any, .any, .any, .any])) (p0 := [.is (.dat ((eT eI) a_reads)), .is (.dat ((eT eI) a_writes)), .is (.dat (eI a_length)), .pl, .pl, .pl, .pl, .pl, .pl]) (c_seq (c_parM (c_consR (c_ret (c_consR (c_ret (c_consR (c_mkLst (c_nilA (c_lstK rfl (c_consR (c_mkLst (c_nilA (c_lstK rfl (c_ret (c_parK rfl (c_nxK (c_nm [.is (.dat ((eT eI) a_reads)), .is (.dat ((eT eI) a_writes)), .is (.dat (eI a_length)), .is (.dat ((eO eI) none)), .is (.dat (eB false)), .is (.own (oL eI ([]))), .is (.own (oL eI ([]))), .pl, .pl] rfl (c_seq (c_asc (c_itM (c_fz (c_sortM (c_frzV (c_bin (c_fz (c_lcM (c_itM (c_gv rfl (c_of rfl (c_lcp (en := eI) (xs := a_writes) (eP eI eI) rfl (fun x_1 => (c_turn (c_setD (c_yes (c_mkTup (c_consA (c_gv rfl (c_consA (c_ret (c_nilA (c_tupK rfl (x_ret rfl (wk_c le_is (wk_c le_is (wk_c le_is (wk_c le_is (wk_c le_is (wk_c le_is (wk_c le_is (wk_c le_any (wk_c le_plP wk_n))))))))))))))))))))) fun v_3 => (c_fz (c_lcM (c_itM (c_gv rfl (c_of rfl (c_lcp (en := eI) (xs := a_reads) (eP eI eI) rfl (fun x_4 => (c_turn (c_setD (c_yes (c_mkTup (c_consA (c_gv rfl (c_consA (c_ret (c_nilA (c_tupK rfl (x_ret rfl (wk_c le_is (wk_c le_is (wk_c le_is (wk_c le_is (wk_c le_is (wk_c le_is (wk_c le_is (wk_c le_any (wk_c le_plP wk_n))))))))))))))))))))) fun v_6 => (c_ofp (fun w => .own (oL (eP eI eI) w)) (addL (eP eI eI) v_3 v_6) fun v_7 => (c_frzO (c_sortK (oL (eP eI eI)) (sortE (ordP ordI qI ordI qI) (qP qI qI) (.inl fun _ => rfl) v_7) fun v_8 => (c_of rfl (c_forN (en := (eP eI eI)) (xs := v_8) (s0 := (false, none, [], [])) (fun s_10 => [.is (.dat ((eT eI) a_reads)), .is (.dat ((eT eI) a_writes)), .is (.dat (eI a_length)), .is (.dat ((eO eI) s_10.2.1)), .is (.dat (eB s_10.1)), .is (.own (oL eI s_10.2.2.1)), .is (.own (oL eI s_10.2.2.2)), .pl, .pl]) (wk_c le_is (wk_c le_is (wk_c le_is (wk_c le_is (wk_c le_is (wk_c le_is (wk_c le_is (wk_c le_plP (wk_c le_plP wk_n))))))))) (fun x_9 s_10 => (c_gTup rfl (c_gCons (c_setD (c_gCons (c_setD (c_gNil (c_iteM (c_tbin (c_gv rfl (c_ret (c_of (eqE qI x_9.2 ((0 : Int))) (c_ifk (c_stM (c_ret (c_setR (c_nx (x_ret rfl (wk_c le_is (wk_c le_is (wk_c le_is (wk_c le_is (wk_c le_is (wk_c le_is (wk_c le_is (wk_c le_plD (wk_c le_plD wk_n)))))))))))))) (c_seq (c_iteM (c_orT (c_tbin (c_gv rfl (c_ret (c_of (isE nnI s_10.2.1) (c_orp (c_fin (c_tbin (c_bin (c_gv rfl (c_gvO (en := eI) rfl fun begun_11 => (c_of (subI_ii x_9.1 begun_11) (c_gv rfl (c_of (geB_ii ((x_9.1 - begun_11)) a_length) (x_ret rfl (Wk.refl _)))))))))) fun b_12 => (c_ifj (fun s_13 => [.is (.dat ((eT eI) a_reads)), .is (.dat ((eT eI) a_writes)), .is (.dat (eI a_length)), .is (.dat ((eO eI) s_13.1)), .is (.dat (eB s_13.2.1)), .is (.own (oL eI s_13.2.2)), .is (.own (oL eI s_10.2.2.2)), .is (.dat (eI x_9.1)), .is (.dat (eI x_9.2))]) (c_seq (c_parM (c_consR (c_gv rfl (c_consR (c_ret (c_ret (c_parK rfl (c_nxK (c_nm [.is (.dat ((eT eI) a_reads)), .is (.dat ((eT eI) a_writes)), .is (.dat (eI a_length)), .is (.dat ((eO eI) ((some x_9.1)))), .is (.dat (eB false)), .is (.own (oL eI s_10.2.2.1)), .is (.own (oL eI s_10.2.2.2)), .is (.dat (eI x_9.1)), .is (.dat (eI x_9.2))] rfl (c_asc (c_appM (c_getL rfl (c_gv rfl (c_getL rfl (c_appK (en := eI) (x := x_9.1) (xs := s_10.2.2.1) fun asks_14 => (c_nx (x_ret rfl (wk_c le_is (wk_c le_is (wk_c le_is (wk_c le_is (wk_c le_is (wk_c le_is (wk_c le_is (wk_c le_is (wk_c le_is wk_n))))))))))))))))))))))))))) (c_nx (x_ret rfl (wk_c le_is (wk_c le_is (wk_c le_is (wk_c le_is (wk_c le_is (wk_c le_is (wk_c le_is (wk_c le_is (wk_c le_is wk_n))))))))))) fun s_13 => (c_nxK (c_nm [.is (.dat ((eT eI) a_reads)), .is (.dat ((eT eI) a_writes)), .is (.dat (eI a_length)), .is (.dat ((eO eI) s_13.1)), .is (.dat (eB s_13.2.1)), .is (.own (oL eI s_13.2.2)), .is (.own (oL eI s_10.2.2.2)), .is (.dat (eI x_9.1)), .is (.dat (eI x_9.2))] rfl (c_asc (c_extM (c_getL rfl (c_anyV (c_ifD (c_asc (c_gv rfl (c_boolOf (c_ifp (x := [x_9.1]) (y := []) (oL eI) (c_fin (c_mkLst (c_consA (c_gv rfl (c_nilA (c_lstK rfl (x_ret rfl (Wk.refl _)))))))) (c_fin (c_mkLst (c_nilA (c_lstK rfl (x_ret rfl (Wk.refl _)))))) (c_of rfl (c_getL rfl (c_extK (en := eI) (ys := (if s_13.2.1 = true then [x_9.1] else [])) (xs := s_10.2.2.2) fun bad_15 => (c_nx (x_ret rfl (wk_c le_is (wk_c le_is (wk_c le_is (wk_c le_is (wk_c le_is (wk_c le_is (wk_c le_is (wk_c le_plD (wk_c le_plD wk_n))))))))))))))))))))))))))))))))))))))))))))))) fun s_16 => (c_nxK (c_nm [.is (.dat ((eT eI) a_reads)), .is (.dat ((eT eI) a_writes)), .is (.dat (eI a_length)), .is (.dat ((eO eI) s_16.2.1)), .is (.dat (eB s_16.1)), .is (.own (oL eI s_16.2.2.1)), .is (.own (oL eI s_16.2.2.2)), .pl, .pl] rfl (c_seq (c_frzM rfl (c_nxK (c_seq (c_frzM rfl (c_nxK (c_retM (c_mkTup (c_consA (c_ap1 (c_gv rfl (c_of rfl (c_consA (c_ap1 (c_gv rfl (c_of rfl (c_nilA (c_tupK rfl (c_ret (x_ret rfl (wk_c le_any (wk_c le_any (wk_c le_any (wk_c le_any (wk_c le_any (wk_c le_any (wk_c le_any (wk_c le_any (wk_c le_any wk_n))))))))))))))))))))))))))))))))))))))))))))))))))))))))))))))))))))))))) hv (at_c ok_is (at_c ok_is (at_c ok_is (at_c ok_pl (at_c ok_pl (at_c ok_pl (at_c ok_pl (at_c ok_pl (at_c ok_pl at_n)))))))))
def T_lengths_right (a_reads : (List Int)) (a_writes : (List Int)) : Option (List (Int × (Option Int))) := ((T_check_reads a_reads).bind fun r_1 => ((T_check_writes a_writes).bind fun r_2 => ((forT (fun (x_3 : Int) (s_4 : (List (Int × Bool))) => ((dcO (fun x_5 => (some true)) (fun x_5 => (some ([(((0 : Int), (1 : Int))).1, (((0 : Int), (1 : Int))).2]))) (fun x_5 y_6 => (if (decide (x_3 < x_5)) = true then (some (some (((x_5 - x_3) + y_6), true))) else some none)) a_reads []).bind fun v_7 => ((updT s_4 v_7).bind fun steps_8 => (some steps_8)))) a_reads [((1 : Int), true)]).bind fun s_9 => ((((mapF (fun (x_10 : Int) => (decide (x_10 ≤ (1000000 : Int)))) (fun (x_10 : Int) => x_10) ((s_9.map Prod.fst))).bind fun v_12 => (some v_12))).bind fun v_13 => ((sortT ltI v_13).bind fun v_14 => ((forT (fun (x_15 : (Int × Int)) (s_16 : (List (Int × (Option Int)))) => ((if (decide ((x_15.1 + (1 : Int)) < (v_14.length : Int))) = true then ((atI v_14 ((x_15.1 + (1 : Int)))).bind fun v_17 => (some ((some (v_17 - (1 : Int)))))) else (some none)).bind fun v_18 => ((T_asked_of a_reads x_15.2).bind fun r_19 => ((T_wrong_of a_reads a_writes r_19).bind fun r_20 => (if (decide (r_20 = [])) = true then ((andO ((!decide (s_16 = []))) (((atI s_16 ((-(1 : Int)))).bind fun v_21 => ((andO v_21.2.isSome (((atI s_16 ((-(1 : Int)))).bind fun v_22 => ((v_22.2).bind fun v_23 => (some ((decide ((v_23 + (1 : Int)) = x_15.2)))))))).bind fun b_24 => (some b_24))))).bind fun b_25 => (if b_25 = true then ((atI s_16 ((-(1 : Int)))).bind fun v_26 => ((setT s_16 ((-(1 : Int))) ((v_26.1, v_18))).bind fun found_27 => (some found_27))) else ((appT s_16 ((x_15.2, v_18))).bind fun found_28 => (some found_28)))) else (some s_16)))))) ((enumI v_14)) []).bind fun s_29 => (some s_29)))))))
theorem t_lengths_right (a_reads : (List Int)) (a_writes : (List Int)) : ∀ v, T_lengths_right a_reads a_writes = some v → D_lengths_right [.dat ((eT eI) a_reads), .dat ((eT eI) a_writes)] = some (.dat ((eT (eP eI (eO eI))) v), noCn) := fun v hv =>
  den_bx (t := T_lengths_right a_reads a_writes) (e' := (fun w => .rt (.dat ((eT (eP eI (eO eI))) w)))) (q' := (fun w => [.any, .any, .any, .any, .any, .any, .any, .any, .any, .any, .any, .any])) (p0 := [.is (.dat ((eT eI) a_reads)), .is (.dat ((eT eI) a_writes)), .pl, .pl, .pl, .pl, .pl, .pl, .pl, .pl, .pl, .pl]) (c_seq (c_asc (c_callN (c_consR (c_gv rfl (c_ret (c_callK (fun w => .dat (eN w)) rfl rfl (t_check_reads a_reads) fun r_1 => (c_nxK (c_seq (c_asc (c_callN (c_consR (c_gv rfl (c_ret (c_callK (fun w => .dat (eN w)) rfl rfl (t_check_writes a_writes) fun r_2 => (c_nxK (c_seq (c_parM (c_consR (c_dnew1 (c_ret (c_ret (c_of (dnew1E (ev := eB) kI ((1 : Int)) true) (c_consR (c_mkLst (c_nilA (c_lstK rfl (c_ret (c_parK rfl (c_nxK (c_nm [.is (.dat ((eT eI) a_reads)), .is (.dat ((eT eI) a_writes)), .is (.own (oD eI eB ([((1 : Int), true)]))), .is (.own (oL (eP eI (eO eI)) ([]))), .pl, .pl, .pl, .pl, .pl, .pl, .pl, .pl] rfl (c_seq (c_asc (c_itM (c_gv rfl (c_of rfl (c_forN (en := eI) (xs := a_reads) (s0 := [((1 : Int), true)]) (fun s_4 => [.is (.dat ((eT eI) a_reads)), .is (.dat ((eT eI) a_writes)), .is (.own (oD eI eB s_4)), .is (.own (oL (eP eI (eO eI)) ([]))), .pl, .pl, .pl, .pl, .pl, .pl, .pl, .pl]) (wk_c le_is (wk_c le_is (wk_c le_is (wk_c le_is (wk_c le_plP (wk_c le_plP (wk_c le_plP (wk_c le_plP (wk_c le_plP (wk_c le_plP (wk_c le_plP (wk_c le_plP wk_n)))))))))))) (fun x_3 s_4 => (c_setD (c_asc (c_updM (c_getDc rfl (c_dc2M (c_itM (c_gv rfl (c_of rfl (c_dc2 (xs := a_reads) (ek := eI) (ev := eB) (en1 := eI) kI (fun x_5 => [.is (.dat ((eT eI) a_reads)), .is (.dat ((eT eI) a_writes)), .is (.own (oD eI eB s_4)), .is (.own (oL (eP eI (eO eI)) ([]))), .is (.dat (eI x_3)), .pl, .pl, .pl, .pl, .is (.dat (eI x_5)), .pl, .pl]) rfl (fun x_5 => (c_turn1 (c_setD (c_yesT (x_ret rfl (Wk.refl _)))))) (fun x_5 => (c_itM (c_mkTup (c_consA (c_ret (c_consA (c_ret (c_nilA (c_tupK rfl (c_of rfl (x_ret rfl (Wk.refl _)))))))))))) (fun x_5 y_6 => (c_turnK (c_setD (c_tbin (c_gv rfl (c_gv rfl (c_of (gtB_ii x_5 x_3) (c_ifk (c_asc (c_frzV (c_bin (c_bin (c_gv rfl (c_gv rfl (c_of (subI_ii x_5 x_3) (c_gv rfl (c_of (addV_ii ((x_5 - x_3)) y_6) (c_frzD (c_asc (c_ret (c_kv (ev := eB) kI (y := ((x_5 - x_3) + y_6)) (z := true) (x_ret rfl (wk_c le_is (wk_c le_is (wk_c le_is (wk_c le_is (wk_c le_is (wk_c le_plP (wk_c le_plP (wk_c le_plP (wk_c le_plP (wk_c le_is (wk_c le_any (wk_c le_plP wk_n)))))))))))))))))))))))))) (c_ret (x_ret rfl (wk_c le_is (wk_c le_is (wk_c le_is (wk_c le_is (wk_c le_is (wk_c le_plP (wk_c le_plP (wk_c le_plP (wk_c le_plP (wk_c le_is (wk_c le_any (wk_c le_plP wk_n)))))))))))))))))))))) (fun x_5 => (wk_c le_is (wk_c le_is (wk_c le_is (wk_c le_is (wk_c le_is (wk_c le_plP (wk_c le_plP (wk_c le_plP (wk_c le_plP (wk_c le_any (wk_c le_any (wk_c le_plP wk_n))))))))))))) (fun x_5 => (wk_c le_is (wk_c le_is (wk_c le_is (wk_c le_is (wk_c le_is (wk_c le_plP (wk_c le_plP (wk_c le_plP (wk_c le_plP (wk_c le_any (wk_c le_any (wk_c le_plP wk_n))))))))))))) fun v_7 => (c_getDc rfl (c_updK (ev := eB) kI (kvs := s_4) (more := v_7) fun steps_8 => (c_nx (x_ret rfl (wk_c le_is (wk_c le_is (wk_c le_is (wk_c le_is (wk_c le_plD (wk_c le_plP (wk_c le_plP (wk_c le_plP (wk_c le_plP (wk_c le_plP (wk_c le_plP (wk_c le_plP wk_n)))))))))))))))))))))))))) fun s_9 => (c_nxK (c_nm [.is (.dat ((eT eI) a_reads)), .is (.dat ((eT eI) a_writes)), .is (.own (oD eI eB s_9)), .is (.own (oL (eP eI (eO eI)) ([]))), .pl, .pl, .pl, .pl, .pl, .pl, .pl, .pl] rfl (c_seq (c_frzM rfl (c_nxK (c_seq (c_stM (c_fz (c_sortM (c_fz (by refine c_lock (i := 2) (kvs := kvE eI eB s_9) (e' := oL eI) rfl (fun _ a => a.noLck rfl) ?_ (fun v_13 => ?_); exact (c_fin (c_lcM (c_keysM (c_getLk rfl (c_of (keysE (ev := eB) kI s_9) (c_lcp (en := eI) (xs := (s_9.map Prod.fst)) eI rfl (fun x_10 => (c_turn (c_setD (c_tbin (c_gv rfl (c_ret (c_of (leB_ii x_10 ((1000000 : Int))) (c_ifs (en' := eI) (c_gv rfl (x_ret rfl (Wk.refl _))) fun _ => (wk_c le_is (wk_c le_is (wk_c le_is (wk_c le_is (wk_c le_plP (wk_c le_plP (wk_c le_plP (wk_c le_plP (wk_c le_plP (wk_c le_plP (wk_c le_plP (wk_c le_any wk_n)))))))))))))))))))) fun v_12 => (x_ret rfl (Wk.refl _)))))))); exact (c_sortK (oL eI) (sortE ordI qI (.inr fun _ => rfl) v_13) fun v_14 => (c_setR (c_nxK (c_nm [.is (.dat ((eT eI) a_reads)), .is (.dat ((eT eI) a_writes)), .is (.dat ((eD eI eB) s_9)), .is (.own (oL (eP eI (eO eI)) ([]))), .pl, .is (.dat ((eL eI) v_14)), .pl, .pl, .pl, .pl, .pl, .pl] rfl (c_seq (c_asc (c_enum (c_gv rfl (c_of (enumE eI v_14) (c_forN (en := (eP eI eI)) (xs := (enumI v_14)) (s0 := []) (fun s_16 => [.is (.dat ((eT eI) a_reads)), .is (.dat ((eT eI) a_writes)), .is (.dat ((eD eI eB) s_9)), .is (.own (oL (eP eI (eO eI)) s_16)), .pl, .is (.dat ((eL eI) v_14)), .pl, .pl, .pl, .pl, .pl, .pl]) (wk_c le_is (wk_c le_is (wk_c le_is (wk_c le_is (wk_c le_plP (wk_c le_is (wk_c le_plP (wk_c le_plP (wk_c le_plP (wk_c le_plP (wk_c le_plP (wk_c le_plP wk_n)))))))))))) (fun x_15 s_16 => (c_gTup rfl (c_gCons (c_setD (c_gCons (c_setD (c_gNil (c_seq (c_stM (c_ifD (c_tbin (c_frzV (c_bin (c_gv rfl (c_ret (c_of (addV_ii x_15.1 ((1 : Int))) (c_frzD (c_ap1 (c_gv rfl (c_of (lenL eI v_14) (c_of (ltB_ii ((x_15.1 + (1 : Int))) ((v_14.length : Int))) (c_ifx (eO eI) (fun _ => [.is (.dat ((eT eI) a_reads)), .is (.dat ((eT eI) a_writes)), .is (.dat ((eD eI eB) s_9)), .is (.own (oL (eP eI (eO eI)) s_16)), .pl, .is (.dat ((eL eI) v_14)), .is (.dat (eI x_15.1)), .is (.dat (eI x_15.2)), .pl, .pl, .pl, .pl]) (c_fin (c_bin (c_bin (c_gv rfl (c_frzV (c_bin (c_gv rfl (c_ret (c_of (addV_ii x_15.1 ((1 : Int))) (c_frzD (c_ofp eI (ixL eI v_14 ((x_15.1 + (1 : Int)))) fun v_17 => (c_ret (c_of (subI_ii v_17 ((1 : Int))) (x_ret rfl (Wk.refl _))))))))))))))) (c_fin (c_ret (x_ret rfl (Wk.refl _)))) fun v_18 => (c_setR (c_nxK (c_nm [.is (.dat ((eT eI) a_reads)), .is (.dat ((eT eI) a_writes)), .is (.dat ((eD eI eB) s_9)), .is (.own (oL (eP eI (eO eI)) s_16)), .pl, .is (.dat ((eL eI) v_14)), .is (.dat (eI x_15.1)), .is (.dat (eI x_15.2)), .is (.dat ((eO eI) v_18)), .pl, .pl, .pl] rfl (c_iteM (c_tbin (c_frzV (c_callN (c_consR (c_gv rfl (c_consR (c_gv rfl (c_consR (c_frzV (c_callN (c_consR (c_gv rfl (c_consR (c_gv rfl (c_ret (c_callK (fun w => .dat ((eT eI) w)) rfl rfl (t_asked_of a_reads x_15.2) fun r_19 => (c_frzD (c_ret (c_callK (fun w => .dat ((eT eI) w)) rfl rfl (t_wrong_of a_reads a_writes r_19) fun r_20 => (c_frzD (c_mkTup (c_nilA (c_tupK rfl (c_of (eqE (qT qI) r_20 ([])) (c_ifk (c_iteM (c_andT (c_tocmp (c_getL rfl (c_fz (c_mkLst (c_nilA (c_lstK rfl (c_getL rfl (c_of (neE (qL (qP qI (qO qI nnI))) s_16 ([])) (c_andp (c_fin (c_andT (c_tbin (c_bin (c_oix (c_getL rfl (c_una (c_ret (c_of (negI_i _) (c_getL rfl (c_ofp (eP eI (eO eI)) (ixL (eP eI (eO eI)) s_16 ((-(1 : Int)))) fun v_21 => (c_ret (c_of rfl (c_ret (c_of (isNotE nnI v_21.2) (c_andp (c_fin (c_tbin (c_frzV (c_bin (c_bin (c_oix (c_getL rfl (c_una (c_ret (c_of (negI_i _) (c_getL rfl (c_ofp (eP eI (eO eI)) (ixL (eP eI (eO eI)) s_16 ((-(1 : Int)))) fun v_22 => (c_ret (c_ofO (en := eI) (x := v_22.2) rfl fun v_23 => (c_ret (c_of (addV_ii v_23 ((1 : Int))) (c_frzD (c_gv rfl (c_of (eqE qI ((v_23 + (1 : Int))) x_15.2) (x_ret rfl (Wk.refl _))))))))))))))))))))) fun b_24 => (x_ret rfl (Wk.refl _)))))))))))))))))) fun b_25 => (c_ifk (c_asgM (c_mkTup (c_consA (c_bin (c_oix (c_getL rfl (c_una (c_ret (c_of (negI_i _) (c_getL rfl (c_ofp (eP eI (eO eI)) (ixL (eP eI (eO eI)) s_16 ((-(1 : Int)))) fun v_26 => (c_ret (c_of rfl (c_consA (c_gv rfl (c_nilA (c_tupK rfl (c_gOix (c_getL rfl (c_una (c_ret (c_of (negI_i _) (c_getL rfl (c_gOixK (en := (eP eI (eO eI))) (x := (v_26.1, v_18)) (k := (-(1 : Int))) (xs := s_16) fun found_27 => (c_nx (x_ret rfl (wk_c le_is (wk_c le_is (wk_c le_is (wk_c le_is (wk_c le_plP (wk_c le_is (wk_c le_plD (wk_c le_plD (wk_c le_plD (wk_c le_plP (wk_c le_plP (wk_c le_plP wk_n)))))))))))))))))))))))))))))))))))))) (c_asc (c_appM (c_getL rfl (c_mkTup (c_consA (c_gv rfl (c_consA (c_gv rfl (c_nilA (c_tupK rfl (c_getL rfl (c_appK (en := (eP eI (eO eI))) (x := (x_15.2, v_18)) (xs := s_16) fun found_28 => (c_nx (x_ret rfl (wk_c le_is (wk_c le_is (wk_c le_is (wk_c le_is (wk_c le_plP (wk_c le_is (wk_c le_plD (wk_c le_plD (wk_c le_plD (wk_c le_plP (wk_c le_plP (wk_c le_plP wk_n)))))))))))))))))))))))))))))))))))))) (c_nx (x_ret rfl (wk_c le_is (wk_c le_is (wk_c le_is (wk_c le_is (wk_c le_plP (wk_c le_is (wk_c le_plD (wk_c le_plD (wk_c le_plD (wk_c le_plP (wk_c le_plP (wk_c le_plP wk_n))))))))))))))))))))))))))))))))))))))))))))))))))))))))))))))))) fun s_29 => (c_nxK (c_nm [.is (.dat ((eT eI) a_reads)), .is (.dat ((eT eI) a_writes)), .is (.dat ((eD eI eB) s_9)), .is (.own (oL (eP eI (eO eI)) s_29)), .pl, .is (.dat ((eL eI) v_14)), .pl, .pl, .pl, .pl, .pl, .pl] rfl (c_seq (c_frzM rfl (c_nxK (c_retM (c_ap1 (c_gv rfl (c_of rfl (c_ret (x_ret rfl (wk_c le_any (wk_c le_any (wk_c le_any (wk_c le_any (wk_c le_any (wk_c le_any (wk_c le_any (wk_c le_any (wk_c le_any (wk_c le_any (wk_c le_any (wk_c le_any wk_n))))))))))))))))))))))))))))))))))))))))))))))))))))))))))))))))))))))))))))))))) hv (at_c ok_is (at_c ok_is (at_c ok_pl (at_c ok_pl (at_c ok_pl (at_c ok_pl (at_c ok_pl (at_c ok_pl (at_c ok_pl (at_c ok_pl (at_c ok_pl (at_c ok_pl at_n))))))))))))
def T__law_waits (a_asks : (List Int)) (a_writes : (List Int)) (a_length : Int) : Option (List Int) := ((forT (fun (x_1 : Int) (s_2 : (List Int)) => ((mapF (fun (x_3 : Int) => (decide (x_3 ≤ x_1))) (fun (x_3 : Int) => (x_3 + a_length)) a_asks).bind fun v_5 => ((mapF (fun (_ : Int) => true) (fun (x_6 : Int) => (x_6 - x_1)) v_5).bind fun v_8 => ((extT ([(0 : Int)]) v_8).bind fun v_9 => ((maxT ltI v_9).bind fun v_10 => ((appT s_2 v_10).bind fun found_11 => (some found_11))))))) a_writes []).bind fun s_12 => (some s_12))
theorem t__law_waits (a_asks : (List Int)) (a_writes : (List Int)) (a_length : Int) : ∀ v, T__law_waits a_asks a_writes a_length = some v → D__law_waits [.dat ((eT eI) a_asks), .dat ((eT eI) a_writes), .dat (eI a_length)] = some (.dat ((eL eI) v), noCn) := fun v hv =>
  den_bx (t := T__law_waits a_asks a_writes a_length) (e' := (fun w => .rt (.dat ((eL eI) w)))) (q' := (fun w => [.any, .any, .any, .any, .any, .any, .any, .any])) (p0 := [.is (.dat ((eT eI) a_asks)), .is (.dat ((eT eI) a_writes)), .is (.dat (eI a_length)), .pl, .pl, .pl, .pl, .pl]) (c_seq (c_stM (c_mkLst (c_nilA (c_lstK rfl (c_setR (c_nxK (c_nm [.is (.dat ((eT eI) a_asks)), .is (.dat ((eT eI) a_writes)), .is (.dat (eI a_length)), .is (.own (oL eI ([]))), .pl, .pl, .pl, .pl] rfl (c_seq (c_asc (c_itM (c_gv rfl (c_of rfl (c_forN (en := eI) (xs := a_writes) (s0 := []) (fun s_2 => [.is (.dat ((eT eI) a_asks)), .is (.dat ((eT eI) a_writes)), .is (.dat (eI a_length)), .is (.own (oL eI s_2)), .pl, .pl, .pl, .pl]) (wk_c le_is (wk_c le_is (wk_c le_is (wk_c le_is (wk_c le_plP (wk_c le_plP (wk_c le_plP (wk_c le_plP wk_n)))))))) (fun x_1 s_2 => (c_setD (c_seq (c_stM (c_lcM (c_itM (c_gv rfl (c_of rfl (c_lcp (en := eI) (xs := a_asks) eI rfl (fun x_3 => (c_turn (c_setD (c_tbin (c_gv rfl (c_gv rfl (c_of (leB_ii x_3 x_1) (c_ifs (en' := eI) (c_frzV (c_bin (c_gv rfl (c_gv rfl (c_of (addV_ii x_3 a_length) (c_frzD (x_ret rfl (Wk.refl _)))))))) fun _ => (wk_c le_is (wk_c le_is (wk_c le_is (wk_c le_is (wk_c le_is (wk_c le_plP (wk_c le_any (wk_c le_plP wk_n)))))))))))))))) fun v_5 => (c_setR (c_nxK (c_seq (c_frzM rfl (c_nxK (c_asc (c_appM (c_getL rfl (c_ap1 (c_frzV (c_bin (c_fz (c_mkLst (c_consA (c_ret (c_nilA (c_lstK rfl (c_fz (c_lcM (c_itM (c_gv rfl (c_of rfl (c_lcp (en := eI) (xs := v_5) eI rfl (fun x_6 => (c_turn (c_setD (c_yes (c_bin (c_gv rfl (c_gv rfl (c_of (subI_ii x_6 x_1) (x_ret rfl (wk_c le_is (wk_c le_is (wk_c le_is (wk_c le_is (wk_c le_is (wk_c le_is (wk_c le_plP (wk_c le_any wk_n))))))))))))))))) fun v_8 => (c_ofp (fun w => .own (oL eI w)) (addL eI ([(0 : Int)]) v_8) fun v_9 => (c_frzO (c_ofp eI (maxE ordI qI v_9) fun v_10 => (c_getL rfl (c_appK (en := eI) (x := v_10) (xs := s_2) fun found_11 => (c_nx (x_ret rfl (wk_c le_is (wk_c le_is (wk_c le_is (wk_c le_is (wk_c le_plD (wk_c le_plD (wk_c le_plP (wk_c le_plP wk_n))))))))))))))))))))))))))))))))))))))))))))))) fun s_12 => (c_nxK (c_nm [.is (.dat ((eT eI) a_asks)), .is (.dat ((eT eI) a_writes)), .is (.dat (eI a_length)), .is (.own (oL eI s_12)), .pl, .pl, .pl, .pl] rfl (c_seq (c_frzM rfl (c_nxK (c_retM (c_gv rfl (c_ret (x_ret rfl (wk_c le_any (wk_c le_any (wk_c le_any (wk_c le_any (wk_c le_any (wk_c le_any (wk_c le_any (wk_c le_any wk_n))))))))))))))))))))))))))))))) hv (at_c ok_is (at_c ok_is (at_c ok_is (at_c ok_pl (at_c ok_pl (at_c ok_pl (at_c ok_pl (at_c ok_pl at_n))))))))
def T__law_waitsL (a_asks : (List Int)) (a_writes : (List Int)) (a_length : Int) : Option (List Int) := ((forT (fun (x_1 : Int) (s_2 : (List Int)) => ((mapF (fun (x_3 : Int) => (decide (x_3 ≤ x_1))) (fun (x_3 : Int) => (x_3 + a_length)) a_asks).bind fun v_5 => ((mapF (fun (_ : Int) => true) (fun (x_6 : Int) => (x_6 - x_1)) v_5).bind fun v_8 => ((extT ([(0 : Int)]) v_8).bind fun v_9 => ((maxT ltI v_9).bind fun v_10 => ((appT s_2 v_10).bind fun found_11 => (some found_11))))))) a_writes []).bind fun s_12 => (some s_12))
theorem t__law_waitsL (a_asks : (List Int)) (a_writes : (List Int)) (a_length : Int) : ∀ v, T__law_waitsL a_asks a_writes a_length = some v → D__law_waits [.dat ((eL eI) a_asks), .dat ((eL eI) a_writes), .dat (eI a_length)] = some (.dat ((eL eI) v), noCn) := fun v hv =>
  den_bx (t := T__law_waitsL a_asks a_writes a_length) (e' := (fun w => .rt (.dat ((eL eI) w)))) (q' := (fun w => [.any, .any, .any, .any, .any, .any, .any, .any])) (p0 := [.is (.dat ((eL eI) a_asks)), .is (.dat ((eL eI) a_writes)), .is (.dat (eI a_length)), .pl, .pl, .pl, .pl, .pl]) (c_seq (c_stM (c_mkLst (c_nilA (c_lstK rfl (c_setR (c_nxK (c_nm [.is (.dat ((eL eI) a_asks)), .is (.dat ((eL eI) a_writes)), .is (.dat (eI a_length)), .is (.own (oL eI ([]))), .pl, .pl, .pl, .pl] rfl (c_seq (c_asc (c_itM (c_gv rfl (c_of rfl (c_forN (en := eI) (xs := a_writes) (s0 := []) (fun s_2 => [.is (.dat ((eL eI) a_asks)), .is (.dat ((eL eI) a_writes)), .is (.dat (eI a_length)), .is (.own (oL eI s_2)), .pl, .pl, .pl, .pl]) (wk_c le_is (wk_c le_is (wk_c le_is (wk_c le_is (wk_c le_plP (wk_c le_plP (wk_c le_plP (wk_c le_plP wk_n)))))))) (fun x_1 s_2 => (c_setD (c_seq (c_stM (c_lcM (c_itM (c_gv rfl (c_of rfl (c_lcp (en := eI) (xs := a_asks) eI rfl (fun x_3 => (c_turn (c_setD (c_tbin (c_gv rfl (c_gv rfl (c_of (leB_ii x_3 x_1) (c_ifs (en' := eI) (c_frzV (c_bin (c_gv rfl (c_gv rfl (c_of (addV_ii x_3 a_length) (c_frzD (x_ret rfl (Wk.refl _)))))))) fun _ => (wk_c le_is (wk_c le_is (wk_c le_is (wk_c le_is (wk_c le_is (wk_c le_plP (wk_c le_any (wk_c le_plP wk_n)))))))))))))))) fun v_5 => (c_setR (c_nxK (c_seq (c_frzM rfl (c_nxK (c_asc (c_appM (c_getL rfl (c_ap1 (c_frzV (c_bin (c_fz (c_mkLst (c_consA (c_ret (c_nilA (c_lstK rfl (c_fz (c_lcM (c_itM (c_gv rfl (c_of rfl (c_lcp (en := eI) (xs := v_5) eI rfl (fun x_6 => (c_turn (c_setD (c_yes (c_bin (c_gv rfl (c_gv rfl (c_of (subI_ii x_6 x_1) (x_ret rfl (wk_c le_is (wk_c le_is (wk_c le_is (wk_c le_is (wk_c le_is (wk_c le_is (wk_c le_plP (wk_c le_any wk_n))))))))))))))))) fun v_8 => (c_ofp (fun w => .own (oL eI w)) (addL eI ([(0 : Int)]) v_8) fun v_9 => (c_frzO (c_ofp eI (maxE ordI qI v_9) fun v_10 => (c_getL rfl (c_appK (en := eI) (x := v_10) (xs := s_2) fun found_11 => (c_nx (x_ret rfl (wk_c le_is (wk_c le_is (wk_c le_is (wk_c le_is (wk_c le_plD (wk_c le_plD (wk_c le_plP (wk_c le_plP wk_n))))))))))))))))))))))))))))))))))))))))))))))) fun s_12 => (c_nxK (c_nm [.is (.dat ((eL eI) a_asks)), .is (.dat ((eL eI) a_writes)), .is (.dat (eI a_length)), .is (.own (oL eI s_12)), .pl, .pl, .pl, .pl] rfl (c_seq (c_frzM rfl (c_nxK (c_retM (c_gv rfl (c_ret (x_ret rfl (wk_c le_any (wk_c le_any (wk_c le_any (wk_c le_any (wk_c le_any (wk_c le_any (wk_c le_any (wk_c le_any wk_n))))))))))))))))))))))))))))))) hv (at_c ok_is (at_c ok_is (at_c ok_is (at_c ok_pl (at_c ok_pl (at_c ok_pl (at_c ok_pl (at_c ok_pl at_n))))))))
def T__law_waitsM (a_asks : (List Int)) (a_writes : (List Int)) (a_length : Int) : Option (List Int) := ((forT (fun (x_1 : Int) (s_2 : (List Int)) => ((mapF (fun (x_3 : Int) => (decide (x_3 ≤ x_1))) (fun (x_3 : Int) => (x_3 + a_length)) a_asks).bind fun v_5 => ((mapF (fun (_ : Int) => true) (fun (x_6 : Int) => (x_6 - x_1)) v_5).bind fun v_8 => ((extT ([(0 : Int)]) v_8).bind fun v_9 => ((maxT ltI v_9).bind fun v_10 => ((appT s_2 v_10).bind fun found_11 => (some found_11))))))) a_writes []).bind fun s_12 => (some s_12))
theorem t__law_waitsM (a_asks : (List Int)) (a_writes : (List Int)) (a_length : Int) : ∀ v, T__law_waitsM a_asks a_writes a_length = some v → D__law_waits [.dat ((eT eI) a_asks), .dat ((eL eI) a_writes), .dat (eI a_length)] = some (.dat ((eL eI) v), noCn) := fun v hv =>
  den_bx (t := T__law_waitsM a_asks a_writes a_length) (e' := (fun w => .rt (.dat ((eL eI) w)))) (q' := (fun w => [.any, .any, .any, .any, .any, .any, .any, .any])) (p0 := [.is (.dat ((eT eI) a_asks)), .is (.dat ((eL eI) a_writes)), .is (.dat (eI a_length)), .pl, .pl, .pl, .pl, .pl]) (c_seq (c_stM (c_mkLst (c_nilA (c_lstK rfl (c_setR (c_nxK (c_nm [.is (.dat ((eT eI) a_asks)), .is (.dat ((eL eI) a_writes)), .is (.dat (eI a_length)), .is (.own (oL eI ([]))), .pl, .pl, .pl, .pl] rfl (c_seq (c_asc (c_itM (c_gv rfl (c_of rfl (c_forN (en := eI) (xs := a_writes) (s0 := []) (fun s_2 => [.is (.dat ((eT eI) a_asks)), .is (.dat ((eL eI) a_writes)), .is (.dat (eI a_length)), .is (.own (oL eI s_2)), .pl, .pl, .pl, .pl]) (wk_c le_is (wk_c le_is (wk_c le_is (wk_c le_is (wk_c le_plP (wk_c le_plP (wk_c le_plP (wk_c le_plP wk_n)))))))) (fun x_1 s_2 => (c_setD (c_seq (c_stM (c_lcM (c_itM (c_gv rfl (c_of rfl (c_lcp (en := eI) (xs := a_asks) eI rfl (fun x_3 => (c_turn (c_setD (c_tbin (c_gv rfl (c_gv rfl (c_of (leB_ii x_3 x_1) (c_ifs (en' := eI) (c_frzV (c_bin (c_gv rfl (c_gv rfl (c_of (addV_ii x_3 a_length) (c_frzD (x_ret rfl (Wk.refl _)))))))) fun _ => (wk_c le_is (wk_c le_is (wk_c le_is (wk_c le_is (wk_c le_is (wk_c le_plP (wk_c le_any (wk_c le_plP wk_n)))))))))))))))) fun v_5 => (c_setR (c_nxK (c_seq (c_frzM rfl (c_nxK (c_asc (c_appM (c_getL rfl (c_ap1 (c_frzV (c_bin (c_fz (c_mkLst (c_consA (c_ret (c_nilA (c_lstK rfl (c_fz (c_lcM (c_itM (c_gv rfl (c_of rfl (c_lcp (en := eI) (xs := v_5) eI rfl (fun x_6 => (c_turn (c_setD (c_yes (c_bin (c_gv rfl (c_gv rfl (c_of (subI_ii x_6 x_1) (x_ret rfl (wk_c le_is (wk_c le_is (wk_c le_is (wk_c le_is (wk_c le_is (wk_c le_is (wk_c le_plP (wk_c le_any wk_n))))))))))))))))) fun v_8 => (c_ofp (fun w => .own (oL eI w)) (addL eI ([(0 : Int)]) v_8) fun v_9 => (c_frzO (c_ofp eI (maxE ordI qI v_9) fun v_10 => (c_getL rfl (c_appK (en := eI) (x := v_10) (xs := s_2) fun found_11 => (c_nx (x_ret rfl (wk_c le_is (wk_c le_is (wk_c le_is (wk_c le_is (wk_c le_plD (wk_c le_plD (wk_c le_plP (wk_c le_plP wk_n))))))))))))))))))))))))))))))))))))))))))))))) fun s_12 => (c_nxK (c_nm [.is (.dat ((eT eI) a_asks)), .is (.dat ((eL eI) a_writes)), .is (.dat (eI a_length)), .is (.own (oL eI s_12)), .pl, .pl, .pl, .pl] rfl (c_seq (c_frzM rfl (c_nxK (c_retM (c_gv rfl (c_ret (x_ret rfl (wk_c le_any (wk_c le_any (wk_c le_any (wk_c le_any (wk_c le_any (wk_c le_any (wk_c le_any (wk_c le_any wk_n))))))))))))))))))))))))))))))) hv (at_c ok_is (at_c ok_is (at_c ok_is (at_c ok_pl (at_c ok_pl (at_c ok_pl (at_c ok_pl (at_c ok_pl at_n))))))))
def T__law_least (a_reads : (List Int)) (a_writes : (List Int)) (a_length : Int) (a_price : Int) : Option Int := (((some ([((a_reads.length : Int), (0 : Int))]))).bind fun found_1 => ((rng3T (((a_reads.length : Int) - (1 : Int))) ((-(1 : Int))) ((-(1 : Int)))).bind fun v_2 => ((forT (fun (x_3 : Int) (s_4 : (List (Int × Int))) => ((rng2T ((x_3 + (1 : Int))) (((a_reads.length : Int) + (1 : Int)))).bind fun v_5 => ((forT (fun (x_6 : Int) (s_7 : (List Int)) => ((orO ((decide (x_6 = (x_3 + (1 : Int))))) (((atI a_reads ((x_6 - (1 : Int)))).bind fun v_8 => ((atI a_reads x_3).bind fun v_9 => (some ((decide (v_8 < (v_9 + a_length))))))))).bind fun b_10 => (if b_10 = true then ((if (decide (x_6 < (a_reads.length : Int))) = true then ((atI a_reads x_6).bind fun v_11 => (some ((some v_11)))) else (some none)).bind fun v_12 => ((lcT (fun (x_13 : Int) => ((atI a_reads x_3).bind fun v_15 => ((andO ((decide (v_15 ≤ x_13))) (((orO ((!v_12.isSome)) (((v_12).bind fun end_16 => (some ((decide (x_13 < end_16))))))).bind fun b_17 => (some b_17)))).bind fun b_18 => (if b_18 = true then (some ((some x_13))) else (some none))))) a_writes).bind fun v_19 => ((atI a_reads x_3).bind fun v_20 => ((T__law_waitsL ([v_20]) v_19 a_length).bind fun r_21 => ((mulT a_price r_21.sum).bind fun v_22 => ((lookT s_4 x_6).bind fun v_23 => ((appT s_7 ((((1 : Int) + v_22) + v_23))).bind fun costs_24 => (some costs_24)))))))) else (some s_7)))) v_5 []).bind fun s_25 => ((minT ltI s_25).bind fun v_26 => ((putO s_4 x_3 v_26).bind fun found_27 => (some found_27)))))) v_2 found_1).bind fun s_28 => ((lookT s_28 ((0 : Int))).bind fun v_29 => (some v_29)))))
theorem t__law_least (a_reads : (List Int)) (a_writes : (List Int)) (a_length : Int) (a_price : Int) : ∀ v, T__law_least a_reads a_writes a_length a_price = some v → D__law_least [.dat ((eT eI) a_reads), .dat ((eT eI) a_writes), .dat (eI a_length), .dat (eI a_price)] = some (.dat (eI v), noCn) := fun v hv =>
  den_bx (t := T__law_least a_reads a_writes a_length a_price) (e' := (fun w => .rt (.dat (eI w)))) (q' := (fun w => [.any, .any, .any, .any, .any, .any, .any, .any, .any, .any, .any])) (p0 := [.is (.dat ((eT eI) a_reads)), .is (.dat ((eT eI) a_writes)), .is (.dat (eI a_length)), .is (.dat (eI a_price)), .pl, .pl, .pl, .pl, .pl, .pl, .pl]) (c_seq (c_stM (c_dnew1 (c_ap1 (c_gv rfl (c_of (lenT eI a_reads) (c_ret (c_of (dnew1E (ev := eI) kI ((a_reads.length : Int)) ((0 : Int))) (c_setV (r := fun w => .own (oD eI eI w)) (v := [((a_reads.length : Int), (0 : Int))]) fun found_1 => (c_nxK (c_nm [.is (.dat ((eT eI) a_reads)), .is (.dat ((eT eI) a_writes)), .is (.dat (eI a_length)), .is (.dat (eI a_price)), .is (.own (oD eI eI found_1)), .pl, .pl, .pl, .pl, .pl, .pl] rfl (c_seq (c_asc (c_rng3 (c_bin (c_ap1 (c_gv rfl (c_of (lenT eI a_reads) (c_ret (c_of (subI_ii ((a_reads.length : Int)) ((1 : Int))) (c_una (c_ret (c_of (negI_i _) (c_una (c_ret (c_of (negI_i _) (c_ofp (List.map eI) (rng3E (((a_reads.length : Int) - (1 : Int))) ((-(1 : Int))) ((-(1 : Int)))) fun v_2 => (c_forN (en := eI) (xs := v_2) (s0 := found_1) (fun s_4 => [.is (.dat ((eT eI) a_reads)), .is (.dat ((eT eI) a_writes)), .is (.dat (eI a_length)), .is (.dat (eI a_price)), .is (.own (oD eI eI s_4)), .pl, .pl, .pl, .pl, .pl, .pl]) (wk_c le_is (wk_c le_is (wk_c le_is (wk_c le_is (wk_c le_is (wk_c le_plP (wk_c le_plP (wk_c le_plP (wk_c le_plP (wk_c le_plP (wk_c le_plP wk_n))))))))))) (fun x_3 s_4 => (c_setD (c_seq (c_stM (c_mkLst (c_nilA (c_lstK rfl (c_setR (c_nxK (c_nm [.is (.dat ((eT eI) a_reads)), .is (.dat ((eT eI) a_writes)), .is (.dat (eI a_length)), .is (.dat (eI a_price)), .is (.own (oD eI eI s_4)), .is (.dat (eI x_3)), .is (.own (oL eI ([]))), .pl, .pl, .pl, .pl] rfl (c_seq (c_asc (c_rng2 (c_frzV (c_bin (c_gv rfl (c_ret (c_of (addV_ii x_3 ((1 : Int))) (c_frzD (c_frzV (c_bin (c_ap1 (c_gv rfl (c_of (lenT eI a_reads) (c_ret (c_of (addV_ii ((a_reads.length : Int)) ((1 : Int))) (c_frzD (c_ofp (List.map eI) (rng2E ((x_3 + (1 : Int))) (((a_reads.length : Int) + (1 : Int)))) fun v_5 => (c_forN (en := eI) (xs := v_5) (s0 := []) (fun s_7 => [.is (.dat ((eT eI) a_reads)), .is (.dat ((eT eI) a_writes)), .is (.dat (eI a_length)), .is (.dat (eI a_price)), .is (.own (oD eI eI s_4)), .is (.dat (eI x_3)), .is (.own (oL eI s_7)), .pl, .pl, .pl, .pl]) (wk_c le_is (wk_c le_is (wk_c le_is (wk_c le_is (wk_c le_is (wk_c le_is (wk_c le_is (wk_c le_plP (wk_c le_plP (wk_c le_plP (wk_c le_plP wk_n))))))))))) (fun x_6 s_7 => (c_setD (c_iteM (c_orT (c_tbin (c_gv rfl (c_frzV (c_bin (c_gv rfl (c_ret (c_of (addV_ii x_3 ((1 : Int))) (c_frzD (c_of (eqE qI x_6 ((x_3 + (1 : Int)))) (c_orp (c_fin (c_tbin (c_bin (c_gv rfl (c_bin (c_gv rfl (c_ret (c_of (subI_ii x_6 ((1 : Int))) (c_ofp eI (ixT eI a_reads ((x_6 - (1 : Int)))) fun v_8 => (c_frzV (c_bin (c_bin (c_gv rfl (c_gv rfl (c_ofp eI (ixT eI a_reads x_3) fun v_9 => (c_gv rfl (c_of (addV_ii v_9 a_length) (c_frzD (c_of (ltB_ii v_8 ((v_9 + a_length))) (x_ret rfl (Wk.refl _))))))))))))))))))))) fun b_10 => (c_ifk (c_seq (c_stM (c_ifD (c_tbin (c_gv rfl (c_ap1 (c_gv rfl (c_of (lenT eI a_reads) (c_of (ltB_ii x_6 ((a_reads.length : Int))) (c_ifx (eO eI) (fun _ => [.is (.dat ((eT eI) a_reads)), .is (.dat ((eT eI) a_writes)), .is (.dat (eI a_length)), .is (.dat (eI a_price)), .is (.own (oD eI eI s_4)), .is (.dat (eI x_3)), .is (.own (oL eI s_7)), .is (.dat (eI x_6)), .pl, .pl, .pl]) (c_fin (c_bin (c_gv rfl (c_gv rfl (c_ofp eI (ixT eI a_reads x_6) fun v_11 => (x_ret rfl (Wk.refl _))))))) (c_fin (c_ret (x_ret rfl (Wk.refl _)))) fun v_12 => (c_setR (c_nxK (c_nm [.is (.dat ((eT eI) a_reads)), .is (.dat ((eT eI) a_writes)), .is (.dat (eI a_length)), .is (.dat (eI a_price)), .is (.own (oD eI eI s_4)), .is (.dat (eI x_3)), .is (.own (oL eI s_7)), .is (.dat (eI x_6)), .is (.dat ((eO eI) v_12)), .pl, .pl] rfl (c_seq (c_stM (c_lcM (c_itM (c_gv rfl (c_of rfl (c_lc (en := eI) (xs := a_writes) eI rfl (fun x_13 => (c_turn (c_setD (c_andT (c_tbin (c_bin (c_gv rfl (c_gv rfl (c_ofp eI (ixT eI a_reads x_3) fun v_15 => (c_gv rfl (c_of (leB_ii v_15 x_13) (c_andp (c_fin (c_orT (c_tbin (c_gv rfl (c_ret (c_of (isE nnI v_12) (c_orp (c_fin (c_tbin (c_gv rfl (c_gvO (en := eI) rfl fun end_16 => (c_of (ltB_ii x_13 end_16) (x_ret rfl (Wk.refl _))))))) fun b_17 => (x_ret rfl (Wk.refl _))))))))) fun b_18 => (c_ifk (c_asc (c_gv rfl (x_ret rfl (wk_c le_is (wk_c le_is (wk_c le_is (wk_c le_is (wk_c le_is (wk_c le_is (wk_c le_is (wk_c le_is (wk_c le_is (wk_c le_plP (wk_c le_any wk_n)))))))))))))) (c_ret (x_ret rfl (wk_c le_is (wk_c le_is (wk_c le_is (wk_c le_is (wk_c le_is (wk_c le_is (wk_c le_is (wk_c le_is (wk_c le_is (wk_c le_plP (wk_c le_any wk_n)))))))))))))))))))))))))) fun v_19 => (c_setR (c_nxK (c_seq (c_frzM rfl (c_nxK (c_asc (c_appM (c_getL rfl (c_frzV (c_bin (c_frzV (c_bin (c_ret (c_frzV (c_bin (c_gv rfl (c_ap1 (c_frzV (c_callN (c_consR (c_fz (c_mkLst (c_consA (c_bin (c_gv rfl (c_gv rfl (c_ofp eI (ixT eI a_reads x_3) fun v_20 => (c_nilA (c_lstK rfl (c_consR (c_gv rfl (c_consR (c_gv rfl (c_ret (c_callK (fun w => .dat ((eL eI) w)) rfl rfl (t__law_waitsL ([v_20]) v_19 a_length) fun r_21 => (c_frzD (c_of (sumE r_21) (c_ofp (fun w => .dat (.int w)) (mulE a_price r_21.sum) fun v_22 => (c_frzD (c_of (addV_ii ((1 : Int)) v_22) (c_frzD (c_odget (c_getDc rfl (c_gv rfl (c_getDc rfl (c_ofp eI (odgetE (ev := eI) kI s_4 x_6) fun v_23 => (c_of (addV_ii (((1 : Int) + v_22)) v_23) (c_frzD (c_getL rfl (c_appK (en := eI) (x := (((1 : Int) + v_22) + v_23)) (xs := s_7) fun costs_24 => (c_nx (x_ret rfl (wk_c le_is (wk_c le_is (wk_c le_is (wk_c le_is (wk_c le_is (wk_c le_is (wk_c le_is (wk_c le_plD (wk_c le_plD (wk_c le_plD (wk_c le_plP wk_n))))))))))))))))))))))))))))))))))))))))))))))))))))))))))))))))))))))))))))))))))) (c_nx (x_ret rfl (wk_c le_is (wk_c le_is (wk_c le_is (wk_c le_is (wk_c le_is (wk_c le_is (wk_c le_is (wk_c le_plD (wk_c le_plP (wk_c le_plP (wk_c le_plP wk_n)))))))))))))))))))))))))))) fun s_25 => (c_nxK (c_nm [.is (.dat ((eT eI) a_reads)), .is (.dat ((eT eI) a_writes)), .is (.dat (eI a_length)), .is (.dat (eI a_price)), .is (.own (oD eI eI s_4)), .is (.dat (eI x_3)), .is (.own (oL eI s_25)), .pl, .pl, .pl, .pl] rfl (c_seq (c_frzM rfl (c_nxK (c_odput (c_ap1 (c_gv rfl (c_ofp eI (minE ordI qI s_25) fun v_26 => (c_getDc rfl (c_gv rfl (c_getDc rfl (c_odputK (ev := eI) kI (x := v_26) (y := x_3) (kvs := s_4) fun found_27 => (c_nx (x_ret rfl (wk_c le_is (wk_c le_is (wk_c le_is (wk_c le_is (wk_c le_is (wk_c le_plD (wk_c le_plD (wk_c le_plP (wk_c le_plP (wk_c le_plP (wk_c le_plP wk_n))))))))))))))))))))))))))))))))))))))))))))))))))))))) fun s_28 => (c_nxK (c_nm [.is (.dat ((eT eI) a_reads)), .is (.dat ((eT eI) a_writes)), .is (.dat (eI a_length)), .is (.dat (eI a_price)), .is (.own (oD eI eI s_28)), .pl, .pl, .pl, .pl, .pl, .pl] rfl (c_retM (c_odget (c_getDc rfl (c_ret (c_getDc rfl (c_ofp eI (odgetE (ev := eI) kI s_28 ((0 : Int))) fun v_29 => (c_ret (x_ret rfl (wk_c le_any (wk_c le_any (wk_c le_any (wk_c le_any (wk_c le_any (wk_c le_any (wk_c le_any (wk_c le_any (wk_c le_any (wk_c le_any (wk_c le_any wk_n))))))))))))))))))))))))))))))))))))))))))))))))) hv (at_c ok_is (at_c ok_is (at_c ok_is (at_c ok_is (at_c ok_pl (at_c ok_pl (at_c ok_pl (at_c ok_pl (at_c ok_pl (at_c ok_pl (at_c ok_pl at_n)))))))))))
def T_shows_cost (a_reads : (List Int)) (a_writes : (List Int)) (a_length : Int) (a_price : Int) (a_value : (Int × (List Int))) : Option Bool := ((T_least_cost a_reads a_writes a_length a_price).bind fun r_1 => ((T_is_tuple a_value ((2 : Int)) ((2 : Int))).bind fun r_2 => ((orO ((!r_2)) (((powT ((10 : Int)) ((14 : Int))).bind fun v_3 => ((T_is_integer a_value.1 ((0 : Int)) v_3).bind fun r_4 => ((orO ((!r_4)) (((T_is_beats a_value.2).bind fun r_5 => (some ((!r_5)))))).bind fun b_6 => (some b_6)))))).bind fun b_7 => (if b_7 = true then (some false) else ((orO ((!decide (a_value.1 = r_1.1))) (((mapF (fun (_ : Int) => true) (fun (x_8 : Int) => (decide (x_8 ∈ a_reads))) a_value.2).bind fun v_10 => (some ((!(v_10.all id))))))).bind fun b_11 => (if b_11 = true then (some false) else ((T_cost_of a_reads a_writes a_length a_price a_value.2).bind fun r_12 => (some ((decide (r_12 = (some r_1.1))))))))))))
theorem t_shows_cost (a_reads : (List Int)) (a_writes : (List Int)) (a_length : Int) (a_price : Int) (a_value : (Int × (List Int))) : ∀ v, T_shows_cost a_reads a_writes a_length a_price a_value = some v → D_shows_cost [.dat ((eT eI) a_reads), .dat ((eT eI) a_writes), .dat (eI a_length), .dat (eI a_price), .dat ((eP eI (eT eI)) a_value)] = some (.dat (eB v), noCn) := fun v hv =>
  den_bx (t := T_shows_cost a_reads a_writes a_length a_price a_value) (e' := (fun w => .rt (.dat (eB w)))) (q' := (fun w => [.any, .any, .any, .any, .any, .any, .any])) (p0 := [.is (.dat ((eT eI) a_reads)), .is (.dat ((eT eI) a_writes)), .is (.dat (eI a_length)), .is (.dat (eI a_price)), .is (.dat ((eP eI (eT eI)) a_value)), .pl, .pl]) (c_seq (c_stM (c_frzV (c_callN (c_consR (c_gv rfl (c_consR (c_gv rfl (c_consR (c_gv rfl (c_consR (c_gv rfl (c_ret (c_callK (fun w => .dat ((eP eI (eT eI)) w)) rfl rfl (t_least_cost a_reads a_writes a_length a_price) fun r_1 => (c_frzD (c_setR (c_nxK (c_nm [.is (.dat ((eT eI) a_reads)), .is (.dat ((eT eI) a_writes)), .is (.dat (eI a_length)), .is (.dat (eI a_price)), .is (.dat ((eP eI (eT eI)) a_value)), .is (.dat ((eP eI (eT eI)) r_1)), .pl] rfl (c_seq (c_iteM (c_orT (c_notT (c_asc (c_frzV (c_callN (c_consR (c_gv rfl (c_consR (c_ret (c_consR (c_ret (c_ret (c_callK (fun w => .dat (eB w)) rfl rfl (t_is_tuple a_value ((2 : Int)) ((2 : Int))) fun r_2 => (c_frzD (c_boolOf (c_orp (c_fin (c_orT (c_notT (c_asc (c_frzV (c_callN (c_consR (c_bin (c_gv rfl (c_ret (c_of rfl (c_consR (c_ret (c_consR (c_bin (c_ret (c_ret (c_ofp eI (powE ((10 : Int)) ((14 : Int))) fun v_3 => (c_ret (c_callK (fun w => .dat (eB w)) rfl rfl (t_is_integer a_value.1 ((0 : Int)) v_3) fun r_4 => (c_frzD (c_boolOf (c_orp (c_fin (c_notT (c_asc (c_frzV (c_callN (c_consR (c_bin (c_gv rfl (c_ret (c_of rfl (c_ret (c_callK (fun w => .dat (eB w)) rfl rfl (t_is_beats a_value.2) fun r_5 => (c_frzD (c_boolOf (x_ret rfl (Wk.refl _)))))))))))))))) fun b_6 => (x_ret rfl (Wk.refl _))))))))))))))))))))))))) fun b_7 => (c_ifk (c_retM (c_ret (c_rtK (c_ret (x_ret rfl (wk_c le_any (wk_c le_any (wk_c le_any (wk_c le_any (wk_c le_any (wk_c le_any (wk_c le_any wk_n)))))))))))) (c_nxK (c_seq (c_iteM (c_orT (c_tbin (c_bin (c_gv rfl (c_ret (c_of rfl (c_bin (c_gv rfl (c_ret (c_of rfl (c_of (neE qI a_value.1 r_1.1) (c_orp (c_fin (c_notT (c_asc (c_ap1 (c_fz (c_lcM (c_itM (c_bin (c_gv rfl (c_ret (c_of rfl (c_of rfl (c_lcp (en := eI) (xs := a_value.2) eB rfl (fun x_8 => (c_turn (c_setD (c_yes (c_bin (c_gv rfl (c_gv rfl (c_of (bDs (inT qI x_8 a_reads)) (x_ret rfl (wk_c le_is (wk_c le_is (wk_c le_is (wk_c le_is (wk_c le_is (wk_c le_is (wk_c le_any wk_n)))))))))))))))) fun v_10 => (c_of (allE v_10) (c_boolOf (x_ret rfl (Wk.refl _))))))))))))))))) fun b_11 => (c_ifk (c_retM (c_ret (c_rtK (c_ret (x_ret rfl (wk_c le_any (wk_c le_any (wk_c le_any (wk_c le_any (wk_c le_any (wk_c le_any (wk_c le_any wk_n)))))))))))) (c_nxK (c_retM (c_bin (c_frzV (c_callN (c_consR (c_gv rfl (c_consR (c_gv rfl (c_consR (c_gv rfl (c_consR (c_gv rfl (c_consR (c_bin (c_gv rfl (c_ret (c_of rfl (c_ret (c_callK (fun w => .dat ((eO eI) w)) rfl rfl (t_cost_of a_reads a_writes a_length a_price a_value.2) fun r_12 => (c_frzD (c_bin (c_gv rfl (c_ret (c_of rfl (c_of (bDs (eqE (qO qI nnI) r_12 ((some r_1.1)))) (c_ret (x_ret rfl (wk_c le_any (wk_c le_any (wk_c le_any (wk_c le_any (wk_c le_any (wk_c le_any (wk_c le_any wk_n)))))))))))))))))))))))))))))))))))))))))))))))))))))))))))))))))))))))))))))))))))))))) hv (at_c ok_is (at_c ok_is (at_c ok_is (at_c ok_is (at_c ok_is (at_c ok_pl (at_c ok_pl at_n)))))))
def T__law_right (a_pot : (List Int)) : Option (Bool × List Int) := ((powT ((10 : Int)) ((6 : Int))).bind fun v_1 => ((T__law_of a_pot ([(60 : Int), (60 : Int), v_1])).bind fun r_2 => ((T__law_take r_2.2 ((31 : Int))).bind fun r_3 => ((rng1T r_3.1).bind fun v_4 => ((lcST (fun (x_5 : Int) s_6 => ((T__law_take s_6 r_2.1).bind fun r_7 => (some ((some r_7.1), r_7.2)))) v_4 r_3.2).bind fun v_8 => ((ssT v_8.1).bind fun v_9 => ((T__law_take v_8.2 ((31 : Int))).bind fun r_10 => ((rng1T r_10.1).bind fun v_11 => ((lcST (fun (x_12 : Int) s_13 => ((T__law_take s_13 r_2.1).bind fun r_14 => (some ((some r_14.1), r_14.2)))) v_11 r_10.2).bind fun v_15 => ((ssT v_15.1).bind fun v_16 => ((T__law_take v_15.2 ((r_2.1 / (3 : Int)))).bind fun r_17 => ((T__law_of r_17.2 ([(2 : Int), (50 : Int)])).bind fun r_18 => ((T__law_take r_18.2 r_18.1).bind fun r_19 => ((T__law_day v_9 v_16 (((1 : Int) + r_17.1))).bind fun r_20 => ((T_asked v_9 (((1 : Int) + r_17.1))).bind fun r_21 => ((orO ((!decide (r_21 = r_20.1))) (((T_wrong v_9 v_16 (((1 : Int) + r_17.1))).bind fun r_22 => (some ((!decide (r_22 = r_20.2))))))).bind fun b_23 => (if b_23 = true then (some ((false, r_19.2))) else ((T__law_waits v_9 v_16 (((1 : Int) + r_17.1))).bind fun r_24 => ((mapF (fun (_ : (Int × Int)) => true) (fun (x_25 : (Int × Int)) => (x_25.1 + x_25.2)) ((v_16.zip r_24))).bind fun v_27 => ((T_done v_16 v_9 (((1 : Int) + r_17.1))).bind fun r_28 => (if (!decide (r_28 = v_27)) = true then (some ((false, r_19.2))) else (if (!decide (v_9 = [])) = true then ((T_least_cost v_9 v_16 (((1 : Int) + r_17.1)) r_19.1).bind fun r_29 => ((T__law_least v_9 v_16 (((1 : Int) + r_17.1)) r_19.1).bind fun r_30 => ((orO ((!decide (r_29.1 = r_30))) (((T__law_cost v_9 v_16 (((1 : Int) + r_17.1)) r_19.1 r_29.2).bind fun r_31 => (some ((!decide (r_31 = (some r_29.1)))))))).bind fun b_32 => (if b_32 = true then (some ((false, r_19.2))) else ((stepT r_29.2 ((-(1 : Int)))).bind fun v_33 => (((some ([(r_29.1, r_29.2), ((r_29.1 + (1 : Int)), r_29.2), (r_29.1, (cutT r_29.2 (some (1 : Int)) none)), (r_29.1, v_33), (r_29.1, v_9), (r_29.1, r_20.1)]))).bind fun some_34 => ((T__law_take r_19.2 ((v_9.length : Int))).bind fun r_35 => ((atI v_9 r_35.1).bind fun v_36 => ((addTT r_29.2 ([v_36])).bind fun v_37 => ((ssT v_37).bind fun v_38 => ((appT some_34 ((r_29.1, v_38))).bind fun some_39 => ((lcT (fun (x_40 : Int) => ((atI v_9 r_35.1).bind fun v_42 => (if (!decide (x_40 = v_42)) = true then (some ((some x_40))) else (some none)))) r_29.2).bind fun v_43 => ((appT some_39 ((r_29.1, v_43))).bind fun some_44 => ((forR (β := (Bool × List Int)) (fun (x_45 : (Int × (List Int))) (s_46 : Unit) => ((ssT x_45.2).bind fun v_47 => (((some (((decide (x_45.2 = v_47)) && (decide (x_45.1 = r_29.1)))))).bind fun is_row_48 => ((andO is_row_48 (((T__law_cost v_9 v_16 (((1 : Int) + r_17.1)) r_19.1 x_45.2).bind fun r_49 => (some ((decide (r_49 = (some r_29.1)))))))).bind fun b_50 => ((T_shows_cost v_9 v_16 (((1 : Int) + r_17.1)) r_19.1 x_45).bind fun r_51 => (if (!decide (r_51 = b_50)) = true then (some (.inr (false, r_35.2))) else (some (.inl ())))))))) some_44 ()).bind fun rr => Sum.elim (fun s_52 => ((forT (fun (x_54 : Int) (s_55 : ((List Int) × (Option Int))) => ((orO ((!s_55.2.isSome)) (((lcT (fun (x_56 : Int) => ((s_55.2).bind fun open_to_58 => (some ((some (((decide (open_to_58 < x_56)) && (decide (x_56 ≤ x_54))))))))) v_16).bind fun v_59 => (some ((v_59.any id)))))).bind fun b_60 => (if b_60 = true then ((appT s_55.1 x_54).bind fun few_61 => (some (few_61, (some x_54)))) else (some (s_55.1, s_55.2))))) v_9 ([], none)).bind fun s_62 => ((T_fewest_asked v_9 v_16).bind fun r_63 => (if (!decide (r_63 = s_62.1)) = true then (some ((false, r_35.2))) else (if (decide (r_2.1 = (60 : Int))) = true then ((rng2T ((1 : Int)) ((70 : Int))).bind fun v_64 => ((lcT (fun (x_65 : Int) => ((T__law_day v_9 v_16 x_65).bind fun r_67 => (if (decide (r_67.2 = [])) = true then (some ((some x_65))) else (some none)))) v_64).bind fun v_68 => ((forT (fun (x_69 : Int) (s_70 : (List (Int × Int))) => ((andO ((!decide (s_70 = []))) (((atI s_70 ((-(1 : Int)))).bind fun v_71 => (some ((decide (v_71.2 = (x_69 - (1 : Int))))))))).bind fun b_72 => (if b_72 = true then ((atI s_70 ((-(1 : Int)))).bind fun v_73 => ((setT s_70 ((-(1 : Int))) ((v_73.1, x_69))).bind fun spans_74 => (some spans_74))) else ((appT s_70 ((x_69, x_69))).bind fun spans_75 => (some spans_75))))) v_68 []).bind fun s_76 => ((T_lengths_right v_9 v_16).bind fun r_77 => ((lcT (fun (x_78 : (Int × (Option Int))) => ((if (!x_78.2.isSome) = true then (some ((69 : Int))) else ((x_78.2).bind fun most_80 => (some most_80))).bind fun v_81 => (some ((some ((x_78.1, v_81))))))) r_77).bind fun v_82 => ((orO ((!decide (v_82 = s_76))) (((mapF (fun (_ : (Int × (Option Int))) => true) (fun (x_83 : (Int × (Option Int))) => (!x_83.2.isSome)) ((cutT r_77 none (some (-(1 : Int)))))).bind fun v_85 => (some ((v_85.any id)))))).bind fun b_86 => (if b_86 = true then (some ((false, r_35.2))) else (some ((true, r_35.2)))))))))) else (some ((true, r_35.2)))))))) (fun r_53 => (some r_53)) rr)))))))))))))) else ((forT (fun (x_87 : Int) (s_88 : ((List Int) × (Option Int))) => ((orO ((!s_88.2.isSome)) (((lcT (fun (x_89 : Int) => ((s_88.2).bind fun open_to_91 => (some ((some (((decide (open_to_91 < x_89)) && (decide (x_89 ≤ x_87))))))))) v_16).bind fun v_92 => (some ((v_92.any id)))))).bind fun b_93 => (if b_93 = true then ((appT s_88.1 x_87).bind fun few_94 => (some (few_94, (some x_87)))) else (some (s_88.1, s_88.2))))) v_9 ([], none)).bind fun s_95 => ((T_fewest_asked v_9 v_16).bind fun r_96 => (if (!decide (r_96 = s_95.1)) = true then (some ((false, r_19.2))) else (if (decide (r_2.1 = (60 : Int))) = true then ((rng2T ((1 : Int)) ((70 : Int))).bind fun v_97 => ((lcT (fun (x_98 : Int) => ((T__law_day v_9 v_16 x_98).bind fun r_100 => (if (decide (r_100.2 = [])) = true then (some ((some x_98))) else (some none)))) v_97).bind fun v_101 => ((forT (fun (x_102 : Int) (s_103 : (List (Int × Int))) => ((andO ((!decide (s_103 = []))) (((atI s_103 ((-(1 : Int)))).bind fun v_104 => (some ((decide (v_104.2 = (x_102 - (1 : Int))))))))).bind fun b_105 => (if b_105 = true then ((atI s_103 ((-(1 : Int)))).bind fun v_106 => ((setT s_103 ((-(1 : Int))) ((v_106.1, x_102))).bind fun spans_107 => (some spans_107))) else ((appT s_103 ((x_102, x_102))).bind fun spans_108 => (some spans_108))))) v_101 []).bind fun s_109 => ((T_lengths_right v_9 v_16).bind fun r_110 => ((lcT (fun (x_111 : (Int × (Option Int))) => ((if (!x_111.2.isSome) = true then (some ((69 : Int))) else ((x_111.2).bind fun most_113 => (some most_113))).bind fun v_114 => (some ((some ((x_111.1, v_114))))))) r_110).bind fun v_115 => ((orO ((!decide (v_115 = s_109))) (((mapF (fun (_ : (Int × (Option Int))) => true) (fun (x_116 : (Int × (Option Int))) => (!x_116.2.isSome)) ((cutT r_110 none (some (-(1 : Int)))))).bind fun v_118 => (some ((v_118.any id)))))).bind fun b_119 => (if b_119 = true then (some ((false, r_19.2))) else (some ((true, r_19.2)))))))))) else (some ((true, r_19.2)))))))))))))))))))))))))))))
theorem t__law_right (a_pot : (List Int)) : ∀ v, T__law_right a_pot = some v → D__law_right [.own (oL eI a_pot)] = some (.dat (eB v.1), oL eI v.2) := fun v hv =>
  den_bxI (pr := [.any, .any, .any, .any, .any, .any, .any, .any, .any, .any, .any, .any, .any, .any, .any, .any, .any, .any, .any, .any, .any, .any, .any, .any, .any, .any, .any, .any]) (t := T__law_right a_pot) (e' := (fun w => .rt (.dat (eB w.1)))) (q' := (fun w => [.is (.own (oL eI w.2)), .any, .any, .any, .any, .any, .any, .any, .any, .any, .any, .any, .any, .any, .any, .any, .any, .any, .any, .any, .any, .any, .any, .any, .any, .any, .any, .any, .any])) (p0 := [.is (.own (oL eI a_pot)), .pl, .pl, .pl, .pl, .pl, .pl, .pl, .pl, .pl, .pl, .pl, .pl, .pl, .pl, .pl, .pl, .pl, .pl, .pl, .pl, .pl, .pl, .pl, .pl, .pl, .pl, .pl, .pl]) (c_seq (c_stM (c_frzV (c_callIO rfl (c_consR (c_fz (c_mkLst (c_consA (c_ret (c_consA (c_ret (c_consA (c_bin (c_ret (c_ret (c_ofp eI (powE ((10 : Int)) ((6 : Int))) fun v_1 => (c_nilA (c_lstK rfl (c_ret (c_callIOK (fun w => .dat (eI w.1)) (fun w => oL eI w.2) rfl rfl rfl (t__law_of eI a_pot ([(60 : Int), (60 : Int), v_1])) fun r_2 => (c_frzD (c_setR (c_nxK (c_nm [.is (.own (oL eI r_2.2)), .is (.dat (eI r_2.1)), .pl, .pl, .pl, .pl, .pl, .pl, .pl, .pl, .pl, .pl, .pl, .pl, .pl, .pl, .pl, .pl, .pl, .pl, .pl, .pl, .pl, .pl, .pl, .pl, .pl, .pl, .pl] rfl (c_seq (c_stM (c_ap1 (c_fz (c_sortSet (c_fz (c_lcM (c_rng1 (c_frzV (c_callIO rfl (c_consR (c_ret (c_ret (c_callIOK (fun w => .dat (eI w.1)) (fun w => oL eI w.2) rfl rfl rfl (t__law_take r_2.2 ((31 : Int))) fun r_3 => (c_frzD (c_ofp (List.map eI) (rng1E r_3.1) fun v_4 => (c_lcS (en := eI) (s0 := r_3.2) (xs := v_4) eI (fun s_6 => [.is (.own (oL eI s_6)), .is (.dat (eI r_2.1)), .pl, .pl, .pl, .pl, .pl, .pl, .pl, .pl, .pl, .pl, .pl, .pl, .pl, .pl, .pl, .pl, .pl, .pl, .pl, .pl, .pl, .pl, .pl, .pl, .pl, .pl, .pl]) rfl rfl (fun _ => rfl) (fun x_5 s_6 => (c_turn (c_setD (c_yes (c_frzV (c_callIO rfl (c_consR (c_gv rfl (c_ret (c_callIOK (fun w => .dat (eI w.1)) (fun w => oL eI w.2) rfl rfl rfl (t__law_take s_6 r_2.1) fun r_7 => (c_frzD (x_ret rfl (wk_c le_is (wk_c le_is (wk_c le_plP (wk_c le_plP (wk_c le_plP (wk_c le_plP (wk_c le_plP (wk_c le_plP (wk_c le_plP (wk_c le_plP (wk_c le_plP (wk_c le_plP (wk_c le_plP (wk_c le_plP (wk_c le_plP (wk_c le_plP (wk_c le_plP (wk_c le_plP (wk_c le_plP (wk_c le_plP (wk_c le_plP (wk_c le_plP (wk_c le_plP (wk_c le_any (wk_c le_plP (wk_c le_plP (wk_c le_plP (wk_c le_plP (wk_c le_plP wk_n))))))))))))))))))))))))))))))))))))))))) fun v_8 => (c_ofp (oL eI) (ssE v_8.1) fun v_9 => (c_of rfl (c_setR (c_nxK (c_nm [.is (.own (oL eI v_8.2)), .is (.dat (eI r_2.1)), .is (.dat ((eT eI) v_9)), .pl, .pl, .pl, .pl, .pl, .pl, .pl, .pl, .pl, .pl, .pl, .pl, .pl, .pl, .pl, .pl, .pl, .pl, .pl, .pl, .pl, .pl, .pl, .pl, .pl, .pl] rfl (c_seq (c_stM (c_ap1 (c_fz (c_sortSet (c_fz (c_lcM (c_rng1 (c_frzV (c_callIO rfl (c_consR (c_ret (c_ret (c_callIOK (fun w => .dat (eI w.1)) (fun w => oL eI w.2) rfl rfl rfl (t__law_take v_8.2 ((31 : Int))) fun r_10 => (c_frzD (c_ofp (List.map eI) (rng1E r_10.1) fun v_11 => (c_lcS (en := eI) (s0 := r_10.2) (xs := v_11) eI (fun s_13 => [.is (.own (oL eI s_13)), .is (.dat (eI r_2.1)), .is (.dat ((eT eI) v_9)), .pl, .pl, .pl, .pl, .pl, .pl, .pl, .pl, .pl, .pl, .pl, .pl, .pl, .pl, .pl, .pl, .pl, .pl, .pl, .pl, .pl, .pl, .pl, .pl, .pl, .pl]) rfl rfl (fun _ => rfl) (fun x_12 s_13 => (c_turn (c_setD (c_yes (c_frzV (c_callIO rfl (c_consR (c_gv rfl (c_ret (c_callIOK (fun w => .dat (eI w.1)) (fun w => oL eI w.2) rfl rfl rfl (t__law_take s_13 r_2.1) fun r_14 => (c_frzD (x_ret rfl (wk_c le_is (wk_c le_is (wk_c le_is (wk_c le_plP (wk_c le_plP (wk_c le_plP (wk_c le_plP (wk_c le_plP (wk_c le_plP (wk_c le_plP (wk_c le_plP (wk_c le_plP (wk_c le_plP (wk_c le_plP (wk_c le_plP (wk_c le_plP (wk_c le_plP (wk_c le_plP (wk_c le_plP (wk_c le_plP (wk_c le_plP (wk_c le_plP (wk_c le_plP (wk_c le_any (wk_c le_plP (wk_c le_plP (wk_c le_plP (wk_c le_plP (wk_c le_plP wk_n))))))))))))))))))))))))))))))))))))))))) fun v_15 => (c_ofp (oL eI) (ssE v_15.1) fun v_16 => (c_of rfl (c_setR (c_nxK (c_nm [.is (.own (oL eI v_15.2)), .is (.dat (eI r_2.1)), .is (.dat ((eT eI) v_9)), .is (.dat ((eT eI) v_16)), .pl, .pl, .pl, .pl, .pl, .pl, .pl, .pl, .pl, .pl, .pl, .pl, .pl, .pl, .pl, .pl, .pl, .pl, .pl, .pl, .pl, .pl, .pl, .pl, .pl] rfl (c_seq (c_parM (c_consR (c_frzV (c_bin (c_ret (c_frzV (c_callIO rfl (c_consR (c_bin (c_gv rfl (c_ret (c_of (fdivI_ii (a := r_2.1) (b := (3 : Int)) (by decide) (by decide)) (c_ret (c_callIOK (fun w => .dat (eI w.1)) (fun w => oL eI w.2) rfl rfl rfl (t__law_take v_15.2 ((r_2.1 / (3 : Int)))) fun r_17 => (c_frzD (c_of (addV_ii ((1 : Int)) r_17.1) (c_frzD (c_consR (c_frzV (c_callIO rfl (c_consR (c_frzV (c_callIO rfl (c_consR (c_fz (c_mkLst (c_consA (c_ret (c_consA (c_ret (c_nilA (c_lstK rfl (c_ret (c_callIOK (fun w => .dat (eI w.1)) (fun w => oL eI w.2) rfl rfl rfl (t__law_of eI r_17.2 ([(2 : Int), (50 : Int)])) fun r_18 => (c_frzD (c_ret (c_callIOK (fun w => .dat (eI w.1)) (fun w => oL eI w.2) rfl rfl rfl (t__law_take r_18.2 r_18.1) fun r_19 => (c_frzD (c_ret (c_parK rfl (c_nxK (c_nm [.is (.own (oL eI r_19.2)), .is (.dat (eI r_2.1)), .is (.dat ((eT eI) v_9)), .is (.dat ((eT eI) v_16)), .is (.dat (eI (((1 : Int) + r_17.1)))), .is (.dat (eI r_19.1)), .pl, .pl, .pl, .pl, .pl, .pl, .pl, .pl, .pl, .pl, .pl, .pl, .pl, .pl, .pl, .pl, .pl, .pl, .pl, .pl, .pl, .pl, .pl] rfl (c_seq (c_asgM (c_frzV (c_callN (c_consR (c_gv rfl (c_consR (c_gv rfl (c_consR (c_gv rfl (c_ret (c_callK (fun w => .dat ((eP (eT eI) (eT eI)) w)) rfl rfl (t__law_day v_9 v_16 (((1 : Int) + r_17.1))) fun r_20 => (c_frzD (c_gTup rfl (c_gCons (c_setD (c_gCons (c_setD (c_gNil (c_nxK (c_nm [.is (.own (oL eI r_19.2)), .is (.dat (eI r_2.1)), .is (.dat ((eT eI) v_9)), .is (.dat ((eT eI) v_16)), .is (.dat (eI (((1 : Int) + r_17.1)))), .is (.dat (eI r_19.1)), .is (.dat ((eT eI) r_20.1)), .is (.dat ((eT eI) r_20.2)), .pl, .pl, .pl, .pl, .pl, .pl, .pl, .pl, .pl, .pl, .pl, .pl, .pl, .pl, .pl, .pl, .pl, .pl, .pl, .pl, .pl] rfl (c_seq (c_iteM (c_orT (c_tbin (c_frzV (c_callN (c_consR (c_gv rfl (c_consR (c_gv rfl (c_ret (c_callK (fun w => .dat ((eT eI) w)) rfl rfl (t_asked v_9 (((1 : Int) + r_17.1))) fun r_21 => (c_frzD (c_gv rfl (c_of (neE (qT qI) r_21 r_20.1) (c_orp (c_fin (c_tbin (c_frzV (c_callN (c_consR (c_gv rfl (c_consR (c_gv rfl (c_consR (c_gv rfl (c_ret (c_callK (fun w => .dat ((eT eI) w)) rfl rfl (t_wrong v_9 v_16 (((1 : Int) + r_17.1))) fun r_22 => (c_frzD (c_gv rfl (c_of (neE (qT qI) r_22 r_20.2) (x_ret rfl (Wk.refl _))))))))))))))))) fun b_23 => (c_ifk (c_retM (c_ret (c_rtK (c_ret (x_ret rfl (wk_c le_is (wk_c le_any (wk_c le_any (wk_c le_any (wk_c le_any (wk_c le_any (wk_c le_any (wk_c le_any (wk_c le_any (wk_c le_any (wk_c le_any (wk_c le_any (wk_c le_any (wk_c le_any (wk_c le_any (wk_c le_any (wk_c le_any (wk_c le_any (wk_c le_any (wk_c le_any (wk_c le_any (wk_c le_any (wk_c le_any (wk_c le_any (wk_c le_any (wk_c le_any (wk_c le_any (wk_c le_any (wk_c le_any wk_n)))))))))))))))))))))))))))))))))) (c_nxK (c_seq (c_stM (c_ap1 (c_fz (c_lcM (c_zip (c_gv rfl (c_frzV (c_callN (c_consR (c_gv rfl (c_consR (c_gv rfl (c_consR (c_gv rfl (c_ret (c_callK (fun w => .dat ((eL eI) w)) rfl rfl (t__law_waits v_9 v_16 (((1 : Int) + r_17.1))) fun r_24 => (c_frzD (c_of (zipE eI eI v_16 r_24 rfl rfl) (c_lcp (en := (eP eI eI)) (xs := (v_16.zip r_24)) eI rfl (fun x_25 => (c_turn (c_gTup rfl (c_gCons (c_setD (c_gCons (c_setD (c_gNil (c_yes (c_frzV (c_bin (c_gv rfl (c_gv rfl (c_of (addV_ii x_25.1 x_25.2) (c_frzD (x_ret rfl (wk_c le_is (wk_c le_is (wk_c le_is (wk_c le_is (wk_c le_is (wk_c le_is (wk_c le_is (wk_c le_is (wk_c le_plP (wk_c le_plP (wk_c le_plP (wk_c le_plP (wk_c le_plP (wk_c le_plP (wk_c le_plP (wk_c le_plP (wk_c le_plP (wk_c le_plP (wk_c le_plP (wk_c le_plP (wk_c le_plP (wk_c le_plP (wk_c le_plP (wk_c le_plP (wk_c le_any (wk_c le_any (wk_c le_plP (wk_c le_plP (wk_c le_plP wk_n))))))))))))))))))))))))))))))))))))))))))))) fun v_27 => (c_of rfl (c_setR (c_nxK (c_nm [.is (.own (oL eI r_19.2)), .is (.dat (eI r_2.1)), .is (.dat ((eT eI) v_9)), .is (.dat ((eT eI) v_16)), .is (.dat (eI (((1 : Int) + r_17.1)))), .is (.dat (eI r_19.1)), .is (.dat ((eT eI) r_20.1)), .is (.dat ((eT eI) r_20.2)), .is (.dat ((eT eI) v_27)), .pl, .pl, .pl, .pl, .pl, .pl, .pl, .pl, .pl, .pl, .pl, .pl, .pl, .pl, .pl, .pl, .pl, .pl, .pl, .pl] rfl (c_seq (c_iteM (c_tbin (c_frzV (c_callN (c_consR (c_gv rfl (c_consR (c_gv rfl (c_consR (c_gv rfl (c_ret (c_callK (fun w => .dat ((eT eI) w)) rfl rfl (t_done v_16 v_9 (((1 : Int) + r_17.1))) fun r_28 => (c_frzD (c_gv rfl (c_of (neE (qT qI) r_28 v_27) (c_ifk (c_retM (c_ret (c_rtK (c_ret (x_ret rfl (wk_c le_is (wk_c le_any (wk_c le_any (wk_c le_any (wk_c le_any (wk_c le_any (wk_c le_any (wk_c le_any (wk_c le_any (wk_c le_any (wk_c le_any (wk_c le_any (wk_c le_any (wk_c le_any (wk_c le_any (wk_c le_any (wk_c le_any (wk_c le_any (wk_c le_any (wk_c le_any (wk_c le_any (wk_c le_any (wk_c le_any (wk_c le_any (wk_c le_any (wk_c le_any (wk_c le_any (wk_c le_any (wk_c le_any wk_n)))))))))))))))))))))))))))))))))) (c_nxK (c_seq (c_iteM (c_tbin (c_gv rfl (c_mkTup (c_nilA (c_tupK rfl (c_of (neE (qT qI) v_9 ([])) (c_ifk (c_seq (c_asgM (c_frzV (c_callN (c_consR (c_gv rfl (c_consR (c_gv rfl (c_consR (c_gv rfl (c_consR (c_gv rfl (c_ret (c_callK (fun w => .dat ((eP eI (eT eI)) w)) rfl rfl (t_least_cost v_9 v_16 (((1 : Int) + r_17.1)) r_19.1) fun r_29 => (c_frzD (c_gTup rfl (c_gCons (c_setD (c_gCons (c_setD (c_gNil (c_nxK (c_nm [.is (.own (oL eI r_19.2)), .is (.dat (eI r_2.1)), .is (.dat ((eT eI) v_9)), .is (.dat ((eT eI) v_16)), .is (.dat (eI (((1 : Int) + r_17.1)))), .is (.dat (eI r_19.1)), .is (.dat ((eT eI) r_20.1)), .is (.dat ((eT eI) r_20.2)), .is (.dat ((eT eI) v_27)), .is (.dat (eI r_29.1)), .is (.dat ((eT eI) r_29.2)), .pl, .pl, .pl, .pl, .pl, .pl, .pl, .pl, .pl, .pl, .pl, .pl, .pl, .pl, .pl, .pl, .pl, .pl] rfl (c_seq (c_iteM (c_orT (c_tbin (c_gv rfl (c_frzV (c_callN (c_consR (c_gv rfl (c_consR (c_gv rfl (c_consR (c_gv rfl (c_consR (c_gv rfl (c_ret (c_callK (fun w => .dat (eI w)) rfl rfl (t__law_least v_9 v_16 (((1 : Int) + r_17.1)) r_19.1) fun r_30 => (c_frzD (c_of (neE qI r_29.1 r_30) (c_orp (c_fin (c_tbin (c_frzV (c_callN (c_consR (c_gv rfl (c_consR (c_gv rfl (c_consR (c_gv rfl (c_consR (c_gv rfl (c_consR (c_gv rfl (c_ret (c_callK (fun w => .dat ((eO eI) w)) rfl rfl (t__law_cost v_9 v_16 (((1 : Int) + r_17.1)) r_19.1 r_29.2) fun r_31 => (c_frzD (c_gv rfl (c_of (neE (qO qI nnI) r_31 ((some r_29.1))) (x_ret rfl (Wk.refl _))))))))))))))))))))) fun b_32 => (c_ifk (c_retM (c_ret (c_rtK (c_rtK (c_ret (x_ret rfl (wk_c le_is (wk_c le_any (wk_c le_any (wk_c le_any (wk_c le_any (wk_c le_any (wk_c le_any (wk_c le_any (wk_c le_any (wk_c le_any (wk_c le_any (wk_c le_any (wk_c le_any (wk_c le_any (wk_c le_any (wk_c le_any (wk_c le_any (wk_c le_any (wk_c le_any (wk_c le_any (wk_c le_any (wk_c le_any (wk_c le_any (wk_c le_any (wk_c le_any (wk_c le_any (wk_c le_any (wk_c le_any (wk_c le_any wk_n))))))))))))))))))))))))))))))))))) (c_nxK (c_seq (c_stM (c_mkLst (c_consA (c_mkTup (c_consA (c_gv rfl (c_consA (c_gv rfl (c_nilA (c_tupK rfl (c_consA (c_mkTup (c_consA (c_frzV (c_bin (c_gv rfl (c_ret (c_of (addV_ii r_29.1 ((1 : Int))) (c_frzD (c_consA (c_gv rfl (c_nilA (c_tupK rfl (c_consA (c_mkTup (c_consA (c_gv rfl (c_consA (c_frzV (c_slM (c_gv rfl (c_intO (c_ret (c_intK (c_ret (c_of (slT eI r_29.2 (some (1 : Int)) none) (c_frzD (c_nilA (c_tupK rfl (c_consA (c_mkTup (c_consA (c_gv rfl (c_consA (c_bin (c_gv rfl (c_una (c_ret (c_of (negI_i _) (c_ofp (eT eI) (stepE eI r_29.2 ((-(1 : Int)))) fun v_33 => (c_nilA (c_tupK rfl (c_consA (c_mkTup (c_consA (c_gv rfl (c_consA (c_gv rfl (c_nilA (c_tupK rfl (c_consA (c_mkTup (c_consA (c_gv rfl (c_consA (c_gv rfl (c_nilA (c_tupK rfl (c_nilA (c_lstK rfl (c_setV (r := fun w => .own (oL (eP eI (eT eI)) w)) (v := [(r_29.1, r_29.2), ((r_29.1 + (1 : Int)), r_29.2), (r_29.1, (cutT r_29.2 (some (1 : Int)) none)), (r_29.1, v_33), (r_29.1, v_9), (r_29.1, r_20.1)]) fun some_34 => (c_nxK (c_nm [.is (.own (oL eI r_19.2)), .is (.dat (eI r_2.1)), .is (.dat ((eT eI) v_9)), .is (.dat ((eT eI) v_16)), .is (.dat (eI (((1 : Int) + r_17.1)))), .is (.dat (eI r_19.1)), .is (.dat ((eT eI) r_20.1)), .is (.dat ((eT eI) r_20.2)), .is (.dat ((eT eI) v_27)), .is (.dat (eI r_29.1)), .is (.dat ((eT eI) r_29.2)), .is (.own (oL (eP eI (eT eI)) some_34)), .pl, .pl, .pl, .pl, .pl, .pl, .pl, .pl, .pl, .pl, .pl, .pl, .pl, .pl, .pl, .pl, .pl] rfl (c_seq (c_stM (c_frzV (c_callIO rfl (c_consR (c_ap1 (c_gv rfl (c_of (lenT eI v_9) (c_ret (c_callIOK (fun w => .dat (eI w.1)) (fun w => oL eI w.2) rfl rfl rfl (t__law_take r_19.2 ((v_9.length : Int))) fun r_35 => (c_frzD (c_setR (c_nxK (c_nm [.is (.own (oL eI r_35.2)), .is (.dat (eI r_2.1)), .is (.dat ((eT eI) v_9)), .is (.dat ((eT eI) v_16)), .is (.dat (eI (((1 : Int) + r_17.1)))), .is (.dat (eI r_19.1)), .is (.dat ((eT eI) r_20.1)), .is (.dat ((eT eI) r_20.2)), .is (.dat ((eT eI) v_27)), .is (.dat (eI r_29.1)), .is (.dat ((eT eI) r_29.2)), .is (.own (oL (eP eI (eT eI)) some_34)), .is (.dat (eI r_35.1)), .pl, .pl, .pl, .pl, .pl, .pl, .pl, .pl, .pl, .pl, .pl, .pl, .pl, .pl, .pl, .pl] rfl (c_seq (c_asc (c_appM (c_getL rfl (c_mkTup (c_consA (c_gv rfl (c_consA (c_ap1 (c_fz (c_sortSet (c_frzV (c_bin (c_gv rfl (c_mkTup (c_consA (c_bin (c_gv rfl (c_gv rfl (c_ofp eI (ixT eI v_9 r_35.1) fun v_36 => (c_nilA (c_tupK rfl (c_ofp (fun w => .dat (eT eI w)) (addTE eI r_29.2 ([v_36])) fun v_37 => (c_frzD (c_ofp (oL eI) (ssET v_37) fun v_38 => (c_of rfl (c_nilA (c_tupK rfl (c_getL rfl (c_appK (en := (eP eI (eT eI))) (x := (r_29.1, v_38)) (xs := some_34) fun some_39 => (c_nxK (c_nm [.is (.own (oL eI r_35.2)), .is (.dat (eI r_2.1)), .is (.dat ((eT eI) v_9)), .is (.dat ((eT eI) v_16)), .is (.dat (eI (((1 : Int) + r_17.1)))), .is (.dat (eI r_19.1)), .is (.dat ((eT eI) r_20.1)), .is (.dat ((eT eI) r_20.2)), .is (.dat ((eT eI) v_27)), .is (.dat (eI r_29.1)), .is (.dat ((eT eI) r_29.2)), .is (.own (oL (eP eI (eT eI)) some_39)), .is (.dat (eI r_35.1)), .pl, .pl, .pl, .pl, .pl, .pl, .pl, .pl, .pl, .pl, .pl, .pl, .pl, .pl, .pl, .pl] rfl (c_seq (c_asc (c_appM (c_getL rfl (c_mkTup (c_consA (c_gv rfl (c_consA (c_ap1 (c_fz (c_lcM (c_itM (c_gv rfl (c_of rfl (c_lc (en := eI) (xs := r_29.2) eI rfl (fun x_40 => (c_turn (c_setD (c_tbin (c_gv rfl (c_bin (c_gv rfl (c_gv rfl (c_ofp eI (ixT eI v_9 r_35.1) fun v_42 => (c_of (neE qI x_40 v_42) (c_ifk (c_asc (c_gv rfl (x_ret rfl (wk_c le_is (wk_c le_is (wk_c le_is (wk_c le_is (wk_c le_is (wk_c le_is (wk_c le_is (wk_c le_is (wk_c le_is (wk_c le_is (wk_c le_is (wk_c le_is (wk_c le_is (wk_c le_plP (wk_c le_plP (wk_c le_plP (wk_c le_plP (wk_c le_plP (wk_c le_plP (wk_c le_plP (wk_c le_plP (wk_c le_plP (wk_c le_plP (wk_c le_plP (wk_c le_plP (wk_c le_plP (wk_c le_any (wk_c le_plP (wk_c le_plP wk_n)))))))))))))))))))))))))))))))) (c_ret (x_ret rfl (wk_c le_is (wk_c le_is (wk_c le_is (wk_c le_is (wk_c le_is (wk_c le_is (wk_c le_is (wk_c le_is (wk_c le_is (wk_c le_is (wk_c le_is (wk_c le_is (wk_c le_is (wk_c le_plP (wk_c le_plP (wk_c le_plP (wk_c le_plP (wk_c le_plP (wk_c le_plP (wk_c le_plP (wk_c le_plP (wk_c le_plP (wk_c le_plP (wk_c le_plP (wk_c le_plP (wk_c le_plP (wk_c le_any (wk_c le_plP (wk_c le_plP wk_n)))))))))))))))))))))))))))))))))))))))))) fun v_43 => (c_of rfl (c_nilA (c_tupK rfl (c_getL rfl (c_appK (en := (eP eI (eT eI))) (x := (r_29.1, v_43)) (xs := some_39) fun some_44 => (c_nxK (c_nm [.is (.own (oL eI r_35.2)), .is (.dat (eI r_2.1)), .is (.dat ((eT eI) v_9)), .is (.dat ((eT eI) v_16)), .is (.dat (eI (((1 : Int) + r_17.1)))), .is (.dat (eI r_19.1)), .is (.dat ((eT eI) r_20.1)), .is (.dat ((eT eI) r_20.2)), .is (.dat ((eT eI) v_27)), .is (.dat (eI r_29.1)), .is (.dat ((eT eI) r_29.2)), .is (.own (oL (eP eI (eT eI)) some_44)), .is (.dat (eI r_35.1)), .pl, .pl, .pl, .pl, .pl, .pl, .pl, .pl, .pl, .pl, .pl, .pl, .pl, .pl, .pl, .pl] rfl (c_seq (c_frzM rfl (c_nxK (c_asc (c_itM (c_gv rfl (c_of rfl (c_forRN (en := (eP eI (eT eI))) (xs := some_44) (s0 := ()) (fun w => .dat (eB w.1)) (fun s_46 => [.is (.own (oL eI r_35.2)), .is (.dat (eI r_2.1)), .is (.dat ((eT eI) v_9)), .is (.dat ((eT eI) v_16)), .is (.dat (eI (((1 : Int) + r_17.1)))), .is (.dat (eI r_19.1)), .is (.dat ((eT eI) r_20.1)), .is (.dat ((eT eI) r_20.2)), .is (.dat ((eT eI) v_27)), .is (.dat (eI r_29.1)), .is (.dat ((eT eI) r_29.2)), .is (.dat ((eL (eP eI (eT eI))) some_44)), .is (.dat (eI r_35.1)), .pl, .pl, .pl, .pl, .pl, .pl, .pl, .pl, .pl, .pl, .pl, .pl, .pl, .pl, .pl, .pl]) (fun r_53 => [.is (.own (oL eI r_53.2)), .any, .any, .any, .any, .any, .any, .any, .any, .any, .any, .any, .any, .any, .any, .any, .any, .any, .any, .any, .any, .any, .any, .any, .any, .any, .any, .any, .any]) (wk_c le_is (wk_c le_is (wk_c le_is (wk_c le_is (wk_c le_is (wk_c le_is (wk_c le_is (wk_c le_is (wk_c le_is (wk_c le_is (wk_c le_is (wk_c le_is (wk_c le_is (wk_c le_plP (wk_c le_plP (wk_c le_plP (wk_c le_plP (wk_c le_plP (wk_c le_plP (wk_c le_plP (wk_c le_plP (wk_c le_plP (wk_c le_plP (wk_c le_plP (wk_c le_plP (wk_c le_plP (wk_c le_plP (wk_c le_plP (wk_c le_plP wk_n))))))))))))))))))))))))))))) (fun x_45 s_46 => (c_setD (c_seq (c_stM (c_andD (c_bin (c_fz (c_ap1 (c_bin (c_gv rfl (c_ret (c_of rfl (c_of rfl (c_fz (c_sortSet (c_bin (c_gv rfl (c_ret (c_of rfl (c_ofp (oL eI) (ssET x_45.2) fun v_47 => (c_of (bDs (eqE (qL qI) x_45.2 v_47)) (c_andK (c_fin (c_bin (c_bin (c_gv rfl (c_ret (c_of rfl (c_gv rfl (c_of (bDs (eqE qI x_45.1 r_29.1)) (x_ret rfl (Wk.refl _)))))))))) (c_setV (r := fun w => .dat (eB w)) (v := ((decide (x_45.2 = v_47)) && (decide (x_45.1 = r_29.1)))) fun is_row_48 => (c_nxK (c_nm [.is (.own (oL eI r_35.2)), .is (.dat (eI r_2.1)), .is (.dat ((eT eI) v_9)), .is (.dat ((eT eI) v_16)), .is (.dat (eI (((1 : Int) + r_17.1)))), .is (.dat (eI r_19.1)), .is (.dat ((eT eI) r_20.1)), .is (.dat ((eT eI) r_20.2)), .is (.dat ((eT eI) v_27)), .is (.dat (eI r_29.1)), .is (.dat ((eT eI) r_29.2)), .is (.dat ((eL (eP eI (eT eI))) some_44)), .is (.dat (eI r_35.1)), .is (.dat ((eP eI (eT eI)) x_45)), .is (.dat (eB is_row_48)), .pl, .pl, .pl, .pl, .pl, .pl, .pl, .pl, .pl, .pl, .pl, .pl, .pl, .pl] rfl (c_seq (c_stM (c_andD (c_gv rfl (c_andKp (c_fin (c_bin (c_frzV (c_callN (c_consR (c_gv rfl (c_consR (c_gv rfl (c_consR (c_gv rfl (c_consR (c_gv rfl (c_consR (c_bin (c_gv rfl (c_ret (c_of rfl (c_ret (c_callK (fun w => .dat ((eO eI) w)) rfl rfl (t__law_cost v_9 v_16 (((1 : Int) + r_17.1)) r_19.1 x_45.2) fun r_49 => (c_frzD (c_gv rfl (c_of (bDs (eqE (qO qI nnI) r_49 ((some r_29.1)))) (x_ret rfl (Wk.refl _)))))))))))))))))))))))) fun b_50 => (c_setR (c_nxK (c_nm [.is (.own (oL eI r_35.2)), .is (.dat (eI r_2.1)), .is (.dat ((eT eI) v_9)), .is (.dat ((eT eI) v_16)), .is (.dat (eI (((1 : Int) + r_17.1)))), .is (.dat (eI r_19.1)), .is (.dat ((eT eI) r_20.1)), .is (.dat ((eT eI) r_20.2)), .is (.dat ((eT eI) v_27)), .is (.dat (eI r_29.1)), .is (.dat ((eT eI) r_29.2)), .is (.dat ((eL (eP eI (eT eI))) some_44)), .is (.dat (eI r_35.1)), .is (.dat ((eP eI (eT eI)) x_45)), .is (.dat (eB is_row_48)), .is (.dat (eB b_50)), .pl, .pl, .pl, .pl, .pl, .pl, .pl, .pl, .pl, .pl, .pl, .pl, .pl] rfl (c_iteM (c_tbin (c_ap1 (c_frzV (c_callN (c_consR (c_gv rfl (c_consR (c_gv rfl (c_consR (c_gv rfl (c_consR (c_gv rfl (c_consR (c_gv rfl (c_ret (c_callK (fun w => .dat (eB w)) rfl rfl (t_shows_cost v_9 v_16 (((1 : Int) + r_17.1)) r_19.1 x_45) fun r_51 => (c_frzD (c_of (reprBE r_51) (c_ap1 (c_gv rfl (c_of (reprBE b_50) (c_of (neE qRB r_51 b_50) (c_ifk (c_retM (c_ret (c_ret (x_ret rfl (wk_c le_is (wk_c le_any (wk_c le_any (wk_c le_any (wk_c le_any (wk_c le_any (wk_c le_any (wk_c le_any (wk_c le_any (wk_c le_any (wk_c le_any (wk_c le_any (wk_c le_any (wk_c le_any (wk_c le_any (wk_c le_any (wk_c le_any (wk_c le_any (wk_c le_any (wk_c le_any (wk_c le_any (wk_c le_any (wk_c le_any (wk_c le_any (wk_c le_any (wk_c le_any (wk_c le_any (wk_c le_any (wk_c le_any wk_n))))))))))))))))))))))))))))))))) (c_nx (x_ret rfl (wk_c le_is (wk_c le_is (wk_c le_is (wk_c le_is (wk_c le_is (wk_c le_is (wk_c le_is (wk_c le_is (wk_c le_is (wk_c le_is (wk_c le_is (wk_c le_is (wk_c le_is (wk_c le_plD (wk_c le_plD (wk_c le_plD (wk_c le_plP (wk_c le_plP (wk_c le_plP (wk_c le_plP (wk_c le_plP (wk_c le_plP (wk_c le_plP (wk_c le_plP (wk_c le_plP (wk_c le_plP (wk_c le_plP (wk_c le_plP (wk_c le_plP wk_n)))))))))))))))))))))))))))))))))))))))))))))))))))))))))))))))))))))))))))))))))))))))) (fun s_52 => (c_nxK (c_nm [.is (.own (oL eI r_35.2)), .is (.dat (eI r_2.1)), .is (.dat ((eT eI) v_9)), .is (.dat ((eT eI) v_16)), .is (.dat (eI (((1 : Int) + r_17.1)))), .is (.dat (eI r_19.1)), .is (.dat ((eT eI) r_20.1)), .is (.dat ((eT eI) r_20.2)), .is (.dat ((eT eI) v_27)), .is (.dat (eI r_29.1)), .is (.dat ((eT eI) r_29.2)), .is (.dat ((eL (eP eI (eT eI))) some_44)), .is (.dat (eI r_35.1)), .pl, .pl, .pl, .pl, .pl, .pl, .pl, .pl, .pl, .pl, .pl, .pl, .pl, .pl, .pl, .pl] rfl (c_seq (c_parM (c_consR (c_mkLst (c_nilA (c_lstK rfl (c_consR (c_ret (c_ret (c_parK rfl (c_nxK (c_nm [.is (.own (oL eI r_35.2)), .is (.dat (eI r_2.1)), .is (.dat ((eT eI) v_9)), .is (.dat ((eT eI) v_16)), .is (.dat (eI (((1 : Int) + r_17.1)))), .is (.dat (eI r_19.1)), .is (.dat ((eT eI) r_20.1)), .is (.dat ((eT eI) r_20.2)), .is (.dat ((eT eI) v_27)), .is (.dat (eI r_29.1)), .is (.dat ((eT eI) r_29.2)), .is (.dat ((eL (eP eI (eT eI))) some_44)), .is (.dat (eI r_35.1)), .pl, .pl, .pl, .is (.own (oL eI ([]))), .is (.dat ((eO eI) none)), .pl, .pl, .pl, .pl, .pl, .pl, .pl, .pl, .pl, .pl, .pl] rfl (c_seq (c_asc (c_itM (c_gv rfl (c_of rfl (c_forN (en := eI) (xs := v_9) (s0 := ([], none)) (fun s_55 => [.is (.own (oL eI r_35.2)), .is (.dat (eI r_2.1)), .is (.dat ((eT eI) v_9)), .is (.dat ((eT eI) v_16)), .is (.dat (eI (((1 : Int) + r_17.1)))), .is (.dat (eI r_19.1)), .is (.dat ((eT eI) r_20.1)), .is (.dat ((eT eI) r_20.2)), .is (.dat ((eT eI) v_27)), .is (.dat (eI r_29.1)), .is (.dat ((eT eI) r_29.2)), .is (.dat ((eL (eP eI (eT eI))) some_44)), .is (.dat (eI r_35.1)), .pl, .pl, .pl, .is (.own (oL eI s_55.1)), .is (.dat ((eO eI) s_55.2)), .pl, .pl, .pl, .pl, .pl, .pl, .pl, .pl, .pl, .pl, .pl]) (wk_c le_is (wk_c le_is (wk_c le_is (wk_c le_is (wk_c le_is (wk_c le_is (wk_c le_is (wk_c le_is (wk_c le_is (wk_c le_is (wk_c le_is (wk_c le_is (wk_c le_is (wk_c le_plP (wk_c le_plP (wk_c le_plP (wk_c le_is (wk_c le_is (wk_c le_plP (wk_c le_plP (wk_c le_plP (wk_c le_plP (wk_c le_plP (wk_c le_plP (wk_c le_plP (wk_c le_plP (wk_c le_plP (wk_c le_plP (wk_c le_plP wk_n))))))))))))))))))))))))))))) (fun x_54 s_55 => (c_setD (c_iteM (c_orT (c_tbin (c_gv rfl (c_ret (c_of (isE nnI s_55.2) (c_orp (c_fin (c_asc (c_ap1 (c_fz (c_lcM (c_itM (c_gv rfl (c_of rfl (c_lc (en := eI) (xs := v_16) eB rfl (fun x_56 => (c_turn (c_setD (c_yes (c_chain (c_gvO (en := eI) rfl fun open_to_58 => (c_gv rfl (c_of (ltB_ii open_to_58 x_56) (c_chAnd (c_fin (c_asc (c_gv rfl (c_of (bDs (leB_ii x_56 x_54)) (x_ret rfl (Wk.refl _)))))) (x_ret rfl (wk_c le_is (wk_c le_is (wk_c le_is (wk_c le_is (wk_c le_is (wk_c le_is (wk_c le_is (wk_c le_is (wk_c le_is (wk_c le_is (wk_c le_is (wk_c le_is (wk_c le_is (wk_c le_plP (wk_c le_plP (wk_c le_plP (wk_c le_is (wk_c le_is (wk_c le_is (wk_c le_plP (wk_c le_plP (wk_c le_plP (wk_c le_plP (wk_c le_plP (wk_c le_any (wk_c le_plP (wk_c le_plP (wk_c le_plP (wk_c le_plP wk_n))))))))))))))))))))))))))))))))))))))) fun v_59 => (c_of (anyE v_59) (c_boolOf (x_ret rfl (Wk.refl _))))))))))))) fun b_60 => (c_ifk (c_seq (c_asc (c_appM (c_getL rfl (c_gv rfl (c_getL rfl (c_appK (en := eI) (x := x_54) (xs := s_55.1) fun few_61 => (c_nxK (c_nm [.is (.own (oL eI r_35.2)), .is (.dat (eI r_2.1)), .is (.dat ((eT eI) v_9)), .is (.dat ((eT eI) v_16)), .is (.dat (eI (((1 : Int) + r_17.1)))), .is (.dat (eI r_19.1)), .is (.dat ((eT eI) r_20.1)), .is (.dat ((eT eI) r_20.2)), .is (.dat ((eT eI) v_27)), .is (.dat (eI r_29.1)), .is (.dat ((eT eI) r_29.2)), .is (.dat ((eL (eP eI (eT eI))) some_44)), .is (.dat (eI r_35.1)), .pl, .pl, .pl, .is (.own (oL eI few_61)), .is (.dat ((eO eI) s_55.2)), .is (.dat (eI x_54)), .pl, .pl, .pl, .pl, .pl, .pl, .pl, .pl, .pl, .pl] rfl (c_stM (c_gv rfl (c_setR (c_nx (x_ret rfl (wk_c le_is (wk_c le_is (wk_c le_is (wk_c le_is (wk_c le_is (wk_c le_is (wk_c le_is (wk_c le_is (wk_c le_is (wk_c le_is (wk_c le_is (wk_c le_is (wk_c le_is (wk_c le_plP (wk_c le_plP (wk_c le_plP (wk_c le_is (wk_c le_is (wk_c le_plD (wk_c le_plP (wk_c le_plP (wk_c le_plP (wk_c le_plP (wk_c le_plP (wk_c le_plP (wk_c le_plP (wk_c le_plP (wk_c le_plP (wk_c le_plP wk_n))))))))))))))))))))))))))))))))))))))))))) (c_nx (x_ret rfl (wk_c le_is (wk_c le_is (wk_c le_is (wk_c le_is (wk_c le_is (wk_c le_is (wk_c le_is (wk_c le_is (wk_c le_is (wk_c le_is (wk_c le_is (wk_c le_is (wk_c le_is (wk_c le_plP (wk_c le_plP (wk_c le_plP (wk_c le_is (wk_c le_is (wk_c le_plD (wk_c le_plP (wk_c le_plP (wk_c le_plP (wk_c le_plP (wk_c le_plP (wk_c le_plP (wk_c le_plP (wk_c le_plP (wk_c le_plP (wk_c le_plP wk_n))))))))))))))))))))))))))))))))))))))))) fun s_62 => (c_nxK (c_nm [.is (.own (oL eI r_35.2)), .is (.dat (eI r_2.1)), .is (.dat ((eT eI) v_9)), .is (.dat ((eT eI) v_16)), .is (.dat (eI (((1 : Int) + r_17.1)))), .is (.dat (eI r_19.1)), .is (.dat ((eT eI) r_20.1)), .is (.dat ((eT eI) r_20.2)), .is (.dat ((eT eI) v_27)), .is (.dat (eI r_29.1)), .is (.dat ((eT eI) r_29.2)), .is (.dat ((eL (eP eI (eT eI))) some_44)), .is (.dat (eI r_35.1)), .pl, .pl, .pl, .is (.own (oL eI s_62.1)), .is (.dat ((eO eI) s_62.2)), .pl, .pl, .pl, .pl, .pl, .pl, .pl, .pl, .pl, .pl, .pl] rfl (c_seq (c_frzM rfl (c_nxK (c_seq (c_iteM (c_tbin (c_frzV (c_callN (c_consR (c_gv rfl (c_consR (c_gv rfl (c_ret (c_callK (fun w => .dat ((eT eI) w)) rfl rfl (t_fewest_asked v_9 v_16) fun r_63 => (c_frzD (c_ap1 (c_gv rfl (c_of rfl (c_of (neE (qT qI) r_63 s_62.1) (c_ifk (c_retM (c_ret (c_rtK (c_ret (x_ret rfl (wk_c le_is (wk_c le_any (wk_c le_any (wk_c le_any (wk_c le_any (wk_c le_any (wk_c le_any (wk_c le_any (wk_c le_any (wk_c le_any (wk_c le_any (wk_c le_any (wk_c le_any (wk_c le_any (wk_c le_any (wk_c le_any (wk_c le_any (wk_c le_any (wk_c le_any (wk_c le_any (wk_c le_any (wk_c le_any (wk_c le_any (wk_c le_any (wk_c le_any (wk_c le_any (wk_c le_any (wk_c le_any (wk_c le_any wk_n)))))))))))))))))))))))))))))))))) (c_nxK (c_seq (c_iteM (c_tbin (c_gv rfl (c_ret (c_of (eqE qI r_2.1 ((60 : Int))) (c_ifk (c_seq (c_stM (c_lcM (c_rng2 (c_ret (c_ret (c_ofp (List.map eI) (rng2E ((1 : Int)) ((70 : Int))) fun v_64 => (c_lc (en := eI) (xs := v_64) eI rfl (fun x_65 => (c_turn (c_setD (c_tbin (c_bin (c_frzV (c_callN (c_consR (c_gv rfl (c_consR (c_gv rfl (c_consR (c_gv rfl (c_ret (c_callK (fun w => .dat ((eP (eT eI) (eT eI)) w)) rfl rfl (t__law_day v_9 v_16 x_65) fun r_67 => (c_frzD (c_ret (c_of rfl (c_mkTup (c_nilA (c_tupK rfl (c_of (eqE (qT qI) r_67.2 ([])) (c_ifk (c_asc (c_gv rfl (x_ret rfl (wk_c le_is (wk_c le_is (wk_c le_is (wk_c le_is (wk_c le_any (wk_c le_is (wk_c le_is (wk_c le_is (wk_c le_is (wk_c le_is (wk_c le_is (wk_c le_is (wk_c le_is (wk_c le_plP (wk_c le_plP (wk_c le_plP (wk_c le_is (wk_c le_is (wk_c le_plP (wk_c le_plP (wk_c le_plP (wk_c le_plP (wk_c le_plP (wk_c le_plP (wk_c le_plP (wk_c le_plP (wk_c le_plP (wk_c le_plP (wk_c le_plP wk_n)))))))))))))))))))))))))))))))) (c_ret (x_ret rfl (wk_c le_is (wk_c le_is (wk_c le_is (wk_c le_is (wk_c le_any (wk_c le_is (wk_c le_is (wk_c le_is (wk_c le_is (wk_c le_is (wk_c le_is (wk_c le_is (wk_c le_is (wk_c le_plP (wk_c le_plP (wk_c le_plP (wk_c le_is (wk_c le_is (wk_c le_plP (wk_c le_plP (wk_c le_plP (wk_c le_plP (wk_c le_plP (wk_c le_plP (wk_c le_plP (wk_c le_plP (wk_c le_plP (wk_c le_plP (wk_c le_plP wk_n)))))))))))))))))))))))))))))))))))))))))))))))))))))) fun v_68 => (c_setR (c_nxK (c_seq (c_frzM rfl (c_nxK (c_seq (c_stM (c_mkLst (c_nilA (c_lstK rfl (c_setR (c_nxK (c_nm [.is (.own (oL eI r_35.2)), .is (.dat (eI r_2.1)), .is (.dat ((eT eI) v_9)), .is (.dat ((eT eI) v_16)), .is (.dat (eI (((1 : Int) + r_17.1)))), .is (.dat (eI r_19.1)), .is (.dat ((eT eI) r_20.1)), .is (.dat ((eT eI) r_20.2)), .is (.dat ((eT eI) v_27)), .is (.dat (eI r_29.1)), .is (.dat ((eT eI) r_29.2)), .is (.dat ((eL (eP eI (eT eI))) some_44)), .is (.dat (eI r_35.1)), .pl, .pl, .pl, .is (.dat ((eL eI) s_62.1)), .is (.dat ((eO eI) s_62.2)), .pl, .is (.dat ((eL eI) v_68)), .is (.own (oL (eP eI eI) ([]))), .pl, .pl, .pl, .pl, .pl, .pl, .pl, .pl] rfl (c_seq (c_asc (c_itM (c_gv rfl (c_of rfl (c_forN (en := eI) (xs := v_68) (s0 := []) (fun s_70 => [.is (.own (oL eI r_35.2)), .is (.dat (eI r_2.1)), .is (.dat ((eT eI) v_9)), .is (.dat ((eT eI) v_16)), .pl, .is (.dat (eI r_19.1)), .is (.dat ((eT eI) r_20.1)), .is (.dat ((eT eI) r_20.2)), .is (.dat ((eT eI) v_27)), .is (.dat (eI r_29.1)), .is (.dat ((eT eI) r_29.2)), .is (.dat ((eL (eP eI (eT eI))) some_44)), .is (.dat (eI r_35.1)), .pl, .pl, .pl, .is (.dat ((eL eI) s_62.1)), .is (.dat ((eO eI) s_62.2)), .pl, .is (.dat ((eL eI) v_68)), .is (.own (oL (eP eI eI) s_70)), .pl, .pl, .pl, .pl, .pl, .pl, .pl, .pl]) (wk_c le_is (wk_c le_is (wk_c le_is (wk_c le_is (wk_c le_plD (wk_c le_is (wk_c le_is (wk_c le_is (wk_c le_is (wk_c le_is (wk_c le_is (wk_c le_is (wk_c le_is (wk_c le_plP (wk_c le_plP (wk_c le_plP (wk_c le_is (wk_c le_is (wk_c le_plP (wk_c le_is (wk_c le_is (wk_c le_plP (wk_c le_plP (wk_c le_plP (wk_c le_plP (wk_c le_plP (wk_c le_plP (wk_c le_plP (wk_c le_plP wk_n))))))))))))))))))))))))))))) (fun x_69 s_70 => (c_setD (c_iteM (c_andT (c_tocmp (c_getL rfl (c_fz (c_mkLst (c_nilA (c_lstK rfl (c_getL rfl (c_of (neE (qL (qP qI qI)) s_70 ([])) (c_andp (c_fin (c_tbin (c_bin (c_oix (c_getL rfl (c_una (c_ret (c_of (negI_i _) (c_getL rfl (c_ofp (eP eI eI) (ixL (eP eI eI) s_70 ((-(1 : Int)))) fun v_71 => (c_ret (c_of rfl (c_bin (c_gv rfl (c_ret (c_of (subI_ii x_69 ((1 : Int))) (c_of (eqE qI v_71.2 ((x_69 - (1 : Int)))) (x_ret rfl (Wk.refl _))))))))))))))))))) fun b_72 => (c_ifk (c_asgM (c_mkTup (c_consA (c_bin (c_oix (c_getL rfl (c_una (c_ret (c_of (negI_i _) (c_getL rfl (c_ofp (eP eI eI) (ixL (eP eI eI) s_70 ((-(1 : Int)))) fun v_73 => (c_ret (c_of rfl (c_consA (c_gv rfl (c_nilA (c_tupK rfl (c_gOix (c_getL rfl (c_una (c_ret (c_of (negI_i _) (c_getL rfl (c_gOixK (en := (eP eI eI)) (x := (v_73.1, x_69)) (k := (-(1 : Int))) (xs := s_70) fun spans_74 => (c_nx (x_ret rfl (wk_c le_is (wk_c le_is (wk_c le_is (wk_c le_is (wk_c le_plD (wk_c le_is (wk_c le_is (wk_c le_is (wk_c le_is (wk_c le_is (wk_c le_is (wk_c le_is (wk_c le_is (wk_c le_plP (wk_c le_plP (wk_c le_plP (wk_c le_is (wk_c le_is (wk_c le_plP (wk_c le_is (wk_c le_is (wk_c le_plP (wk_c le_plP (wk_c le_plP (wk_c le_plP (wk_c le_plP (wk_c le_plP (wk_c le_plP (wk_c le_plP wk_n))))))))))))))))))))))))))))))))))))))))))))))))))))))) (c_asc (c_appM (c_getL rfl (c_mkTup (c_consA (c_gv rfl (c_consA (c_gv rfl (c_nilA (c_tupK rfl (c_getL rfl (c_appK (en := (eP eI eI)) (x := (x_69, x_69)) (xs := s_70) fun spans_75 => (c_nx (x_ret rfl (wk_c le_is (wk_c le_is (wk_c le_is (wk_c le_is (wk_c le_plD (wk_c le_is (wk_c le_is (wk_c le_is (wk_c le_is (wk_c le_is (wk_c le_is (wk_c le_is (wk_c le_is (wk_c le_plP (wk_c le_plP (wk_c le_plP (wk_c le_is (wk_c le_is (wk_c le_plP (wk_c le_is (wk_c le_is (wk_c le_plP (wk_c le_plP (wk_c le_plP (wk_c le_plP (wk_c le_plP (wk_c le_plP (wk_c le_plP (wk_c le_plP wk_n))))))))))))))))))))))))))))))))))))))))))))))))))))))))) fun s_76 => (c_nxK (c_nm [.is (.own (oL eI r_35.2)), .is (.dat (eI r_2.1)), .is (.dat ((eT eI) v_9)), .is (.dat ((eT eI) v_16)), .pl, .is (.dat (eI r_19.1)), .is (.dat ((eT eI) r_20.1)), .is (.dat ((eT eI) r_20.2)), .is (.dat ((eT eI) v_27)), .is (.dat (eI r_29.1)), .is (.dat ((eT eI) r_29.2)), .is (.dat ((eL (eP eI (eT eI))) some_44)), .is (.dat (eI r_35.1)), .pl, .pl, .pl, .is (.dat ((eL eI) s_62.1)), .is (.dat ((eO eI) s_62.2)), .pl, .is (.dat ((eL eI) v_68)), .is (.own (oL (eP eI eI) s_76)), .pl, .pl, .pl, .pl, .pl, .pl, .pl, .pl] rfl (c_seq (c_stM (c_frzV (c_callN (c_consR (c_gv rfl (c_consR (c_gv rfl (c_ret (c_callK (fun w => .dat ((eT (eP eI (eO eI))) w)) rfl rfl (t_lengths_right v_9 v_16) fun r_77 => (c_frzD (c_setR (c_nxK (c_nm [.is (.own (oL eI r_35.2)), .is (.dat (eI r_2.1)), .is (.dat ((eT eI) v_9)), .is (.dat ((eT eI) v_16)), .pl, .is (.dat (eI r_19.1)), .is (.dat ((eT eI) r_20.1)), .is (.dat ((eT eI) r_20.2)), .is (.dat ((eT eI) v_27)), .is (.dat (eI r_29.1)), .is (.dat ((eT eI) r_29.2)), .is (.dat ((eL (eP eI (eT eI))) some_44)), .is (.dat (eI r_35.1)), .pl, .pl, .pl, .is (.dat ((eL eI) s_62.1)), .is (.dat ((eO eI) s_62.2)), .pl, .is (.dat ((eL eI) v_68)), .is (.own (oL (eP eI eI) s_76)), .is (.dat ((eT (eP eI (eO eI))) r_77)), .pl, .pl, .pl, .pl, .pl, .pl, .pl] rfl (c_seq (c_stM (c_lcM (c_itM (c_gv rfl (c_of rfl (c_lc (en := (eP eI (eO eI))) (xs := r_77) (eP eI eI) rfl (fun x_78 => (c_turn (c_gTup rfl (c_gCons (c_setD (c_gCons (c_setD (c_gNil (c_yes (c_mkTup (c_consA (c_gv rfl (c_consA (c_ifD (c_tbin (c_gv rfl (c_ret (c_of (isE nnI x_78.2) (c_ifx eI (fun _ => [.is (.own (oL eI r_35.2)), .is (.dat (eI r_2.1)), .is (.dat ((eT eI) v_9)), .is (.dat ((eT eI) v_16)), .pl, .is (.dat (eI r_19.1)), .is (.dat ((eT eI) r_20.1)), .is (.dat ((eT eI) r_20.2)), .is (.dat ((eT eI) v_27)), .is (.dat (eI r_29.1)), .is (.dat ((eT eI) r_29.2)), .is (.dat ((eL (eP eI (eT eI))) some_44)), .is (.dat (eI r_35.1)), .pl, .pl, .pl, .is (.dat ((eL eI) s_62.1)), .is (.dat ((eO eI) s_62.2)), .pl, .is (.dat ((eL eI) v_68)), .is (.own (oL (eP eI eI) s_76)), .is (.dat ((eT (eP eI (eO eI))) r_77)), .pl, .pl, .pl, .pl, .pl, .is (.dat (eI x_78.1)), .is (.dat ((eO eI) x_78.2))]) (c_fin (c_ret (x_ret rfl (Wk.refl _)))) (c_fin (c_gvO (en := eI) rfl fun most_80 => (x_ret rfl (Wk.refl _)))) fun v_81 => (c_nilA (c_tupK rfl (x_ret rfl (wk_c le_is (wk_c le_is (wk_c le_is (wk_c le_is (wk_c le_plP (wk_c le_is (wk_c le_is (wk_c le_is (wk_c le_is (wk_c le_is (wk_c le_is (wk_c le_is (wk_c le_is (wk_c le_plP (wk_c le_plP (wk_c le_plP (wk_c le_is (wk_c le_is (wk_c le_plP (wk_c le_is (wk_c le_is (wk_c le_is (wk_c le_plP (wk_c le_plP (wk_c le_plP (wk_c le_plP (wk_c le_plP (wk_c le_any (wk_c le_any wk_n))))))))))))))))))))))))))))))))))))))))))))))))))) fun v_82 => (c_setR (c_nxK (c_seq (c_frzM rfl (c_nxK (c_seq (c_frzM rfl (c_nxK (c_iteM (c_orT (c_tbin (c_gv rfl (c_gv rfl (c_of (neE (qL (qP qI qI)) v_82 s_76) (c_orp (c_fin (c_asc (c_ap1 (c_fz (c_lcM (c_itM (c_frzV (c_slM (c_gv rfl (c_ret (c_intO (c_una (c_ret (c_of (negI_i _) (c_intK (c_of (slT (eP eI (eO eI)) r_77 none (some (-(1 : Int)))) (c_frzD (c_of rfl (c_lcp (en := (eP eI (eO eI))) (xs := (cutT r_77 none (some (-(1 : Int))))) eB rfl (fun x_83 => (c_turn (c_gTup rfl (c_gCons (c_setD (c_gCons (c_setD (c_gNil (c_yes (c_bin (c_gv rfl (c_ret (c_of (bDs (isE nnI x_83.2)) (x_ret rfl (wk_c le_is (wk_c le_is (wk_c le_is (wk_c le_is (wk_c le_plP (wk_c le_is (wk_c le_is (wk_c le_is (wk_c le_is (wk_c le_is (wk_c le_is (wk_c le_is (wk_c le_is (wk_c le_plP (wk_c le_plP (wk_c le_plP (wk_c le_is (wk_c le_is (wk_c le_plP (wk_c le_is (wk_c le_is (wk_c le_is (wk_c le_is (wk_c le_plP (wk_c le_plP (wk_c le_plP (wk_c le_plP (wk_c le_any (wk_c le_any wk_n))))))))))))))))))))))))))))))))))))))))))) fun v_85 => (c_of (anyE v_85) (c_boolOf (x_ret rfl (Wk.refl _))))))))))))))))))))))) fun b_86 => (c_ifk (c_retM (c_ret (c_rtK (c_ret (x_ret rfl (wk_c le_is (wk_c le_any (wk_c le_any (wk_c le_any (wk_c le_any (wk_c le_any (wk_c le_any (wk_c le_any (wk_c le_any (wk_c le_any (wk_c le_any (wk_c le_any (wk_c le_any (wk_c le_any (wk_c le_any (wk_c le_any (wk_c le_any (wk_c le_any (wk_c le_any (wk_c le_any (wk_c le_any (wk_c le_any (wk_c le_any (wk_c le_any (wk_c le_any (wk_c le_any (wk_c le_any (wk_c le_any (wk_c le_any wk_n)))))))))))))))))))))))))))))))))) (c_nxK (c_nm [.is (.own (oL eI r_35.2)), .is (.dat (eI r_2.1)), .is (.dat ((eT eI) v_9)), .is (.dat ((eT eI) v_16)), .pl, .is (.dat (eI r_19.1)), .is (.dat ((eT eI) r_20.1)), .is (.dat ((eT eI) r_20.2)), .is (.dat ((eT eI) v_27)), .is (.dat (eI r_29.1)), .is (.dat ((eT eI) r_29.2)), .is (.dat ((eL (eP eI (eT eI))) some_44)), .is (.dat (eI r_35.1)), .pl, .pl, .pl, .is (.dat ((eL eI) s_62.1)), .is (.dat ((eO eI) s_62.2)), .pl, .is (.dat ((eL eI) v_68)), .is (.dat ((eL (eP eI eI)) s_76)), .is (.dat ((eT (eP eI (eO eI))) r_77)), .is (.dat ((eL (eP eI eI)) v_82)), .pl, .pl, .pl, .pl, .pl, .pl] rfl (c_retM (c_ret (c_ret (x_ret rfl (wk_c le_is (wk_c le_any (wk_c le_any (wk_c le_any (wk_c le_any (wk_c le_any (wk_c le_any (wk_c le_any (wk_c le_any (wk_c le_any (wk_c le_any (wk_c le_any (wk_c le_any (wk_c le_any (wk_c le_any (wk_c le_any (wk_c le_any (wk_c le_any (wk_c le_any (wk_c le_any (wk_c le_any (wk_c le_any (wk_c le_any (wk_c le_any (wk_c le_any (wk_c le_any (wk_c le_any (wk_c le_any (wk_c le_any wk_n))))))))))))))))))))))))))))))))))))))))))))))))))))))))))))))))))))))))))))))))))))))))))))))))))))) (c_nxK (c_retM (c_ret (c_ret (x_ret rfl (wk_c le_is (wk_c le_any (wk_c le_any (wk_c le_any (wk_c le_any (wk_c le_any (wk_c le_any (wk_c le_any (wk_c le_any (wk_c le_any (wk_c le_any (wk_c le_any (wk_c le_any (wk_c le_any (wk_c le_any (wk_c le_any (wk_c le_any (wk_c le_any (wk_c le_any (wk_c le_any (wk_c le_any (wk_c le_any (wk_c le_any (wk_c le_any (wk_c le_any (wk_c le_any (wk_c le_any (wk_c le_any (wk_c le_any wk_n))))))))))))))))))))))))))))))))))))))))))))))))))))))))))))))))))))))))))))))))))))) (fun r_53 => (c_rtK (c_ret (x_ret rfl (wk_c le_is (wk_c le_any (wk_c le_any (wk_c le_any (wk_c le_any (wk_c le_any (wk_c le_any (wk_c le_any (wk_c le_any (wk_c le_any (wk_c le_any (wk_c le_any (wk_c le_any (wk_c le_any (wk_c le_any (wk_c le_any (wk_c le_any (wk_c le_any (wk_c le_any (wk_c le_any (wk_c le_any (wk_c le_any (wk_c le_any (wk_c le_any (wk_c le_any (wk_c le_any (wk_c le_any (wk_c le_any (wk_c le_any wk_n)))))))))))))))))))))))))))))))))))))))))))))))))))))))))))))))))))))))))))))))))))))))))))))))))))))))))))))))))))))))))))))))))))))))))))))))))))))))))))))))))))))))))))))))))))))))))))))))))))))))))))))))))))))))))))))))))))) (c_nxK (c_seq (c_parM (c_consR (c_mkLst (c_nilA (c_lstK rfl (c_consR (c_ret (c_ret (c_parK rfl (c_nxK (c_nm [.is (.own (oL eI r_19.2)), .is (.dat (eI r_2.1)), .is (.dat ((eT eI) v_9)), .is (.dat ((eT eI) v_16)), .is (.dat (eI (((1 : Int) + r_17.1)))), .is (.dat (eI r_19.1)), .is (.dat ((eT eI) r_20.1)), .is (.dat ((eT eI) r_20.2)), .is (.dat ((eT eI) v_27)), .pl, .pl, .pl, .pl, .pl, .pl, .pl, .is (.own (oL eI ([]))), .is (.dat ((eO eI) none)), .pl, .pl, .pl, .pl, .pl, .pl, .pl, .pl, .pl, .pl, .pl] rfl (c_seq (c_asc (c_itM (c_gv rfl (c_of rfl (c_forN (en := eI) (xs := v_9) (s0 := ([], none)) (fun s_88 => [.is (.own (oL eI r_19.2)), .is (.dat (eI r_2.1)), .is (.dat ((eT eI) v_9)), .is (.dat ((eT eI) v_16)), .is (.dat (eI (((1 : Int) + r_17.1)))), .is (.dat (eI r_19.1)), .is (.dat ((eT eI) r_20.1)), .is (.dat ((eT eI) r_20.2)), .is (.dat ((eT eI) v_27)), .pl, .pl, .pl, .pl, .pl, .pl, .pl, .is (.own (oL eI s_88.1)), .is (.dat ((eO eI) s_88.2)), .pl, .pl, .pl, .pl, .pl, .pl, .pl, .pl, .pl, .pl, .pl]) (wk_c le_is (wk_c le_is (wk_c le_is (wk_c le_is (wk_c le_is (wk_c le_is (wk_c le_is (wk_c le_is (wk_c le_is (wk_c le_plP (wk_c le_plP (wk_c le_plP (wk_c le_plP (wk_c le_plP (wk_c le_plP (wk_c le_plP (wk_c le_is (wk_c le_is (wk_c le_plP (wk_c le_plP (wk_c le_plP (wk_c le_plP (wk_c le_plP (wk_c le_plP (wk_c le_plP (wk_c le_plP (wk_c le_plP (wk_c le_plP (wk_c le_plP wk_n))))))))))))))))))))))))))))) (fun x_87 s_88 => (c_setD (c_iteM (c_orT (c_tbin (c_gv rfl (c_ret (c_of (isE nnI s_88.2) (c_orp (c_fin (c_asc (c_ap1 (c_fz (c_lcM (c_itM (c_gv rfl (c_of rfl (c_lc (en := eI) (xs := v_16) eB rfl (fun x_89 => (c_turn (c_setD (c_yes (c_chain (c_gvO (en := eI) rfl fun open_to_91 => (c_gv rfl (c_of (ltB_ii open_to_91 x_89) (c_chAnd (c_fin (c_asc (c_gv rfl (c_of (bDs (leB_ii x_89 x_87)) (x_ret rfl (Wk.refl _)))))) (x_ret rfl (wk_c le_is (wk_c le_is (wk_c le_is (wk_c le_is (wk_c le_is (wk_c le_is (wk_c le_is (wk_c le_is (wk_c le_is (wk_c le_plP (wk_c le_plP (wk_c le_plP (wk_c le_plP (wk_c le_plP (wk_c le_plP (wk_c le_plP (wk_c le_is (wk_c le_is (wk_c le_is (wk_c le_plP (wk_c le_plP (wk_c le_plP (wk_c le_plP (wk_c le_plP (wk_c le_any (wk_c le_plP (wk_c le_plP (wk_c le_plP (wk_c le_plP wk_n))))))))))))))))))))))))))))))))))))))) fun v_92 => (c_of (anyE v_92) (c_boolOf (x_ret rfl (Wk.refl _))))))))))))) fun b_93 => (c_ifk (c_seq (c_asc (c_appM (c_getL rfl (c_gv rfl (c_getL rfl (c_appK (en := eI) (x := x_87) (xs := s_88.1) fun few_94 => (c_nxK (c_nm [.is (.own (oL eI r_19.2)), .is (.dat (eI r_2.1)), .is (.dat ((eT eI) v_9)), .is (.dat ((eT eI) v_16)), .is (.dat (eI (((1 : Int) + r_17.1)))), .is (.dat (eI r_19.1)), .is (.dat ((eT eI) r_20.1)), .is (.dat ((eT eI) r_20.2)), .is (.dat ((eT eI) v_27)), .pl, .pl, .pl, .pl, .pl, .pl, .pl, .is (.own (oL eI few_94)), .is (.dat ((eO eI) s_88.2)), .is (.dat (eI x_87)), .pl, .pl, .pl, .pl, .pl, .pl, .pl, .pl, .pl, .pl] rfl (c_stM (c_gv rfl (c_setR (c_nx (x_ret rfl (wk_c le_is (wk_c le_is (wk_c le_is (wk_c le_is (wk_c le_is (wk_c le_is (wk_c le_is (wk_c le_is (wk_c le_is (wk_c le_plP (wk_c le_plP (wk_c le_plP (wk_c le_plP (wk_c le_plP (wk_c le_plP (wk_c le_plP (wk_c le_is (wk_c le_is (wk_c le_plD (wk_c le_plP (wk_c le_plP (wk_c le_plP (wk_c le_plP (wk_c le_plP (wk_c le_plP (wk_c le_plP (wk_c le_plP (wk_c le_plP (wk_c le_plP wk_n))))))))))))))))))))))))))))))))))))))))))) (c_nx (x_ret rfl (wk_c le_is (wk_c le_is (wk_c le_is (wk_c le_is (wk_c le_is (wk_c le_is (wk_c le_is (wk_c le_is (wk_c le_is (wk_c le_plP (wk_c le_plP (wk_c le_plP (wk_c le_plP (wk_c le_plP (wk_c le_plP (wk_c le_plP (wk_c le_is (wk_c le_is (wk_c le_plD (wk_c le_plP (wk_c le_plP (wk_c le_plP (wk_c le_plP (wk_c le_plP (wk_c le_plP (wk_c le_plP (wk_c le_plP (wk_c le_plP (wk_c le_plP wk_n))))))))))))))))))))))))))))))))))))))))) fun s_95 => (c_nxK (c_nm [.is (.own (oL eI r_19.2)), .is (.dat (eI r_2.1)), .is (.dat ((eT eI) v_9)), .is (.dat ((eT eI) v_16)), .is (.dat (eI (((1 : Int) + r_17.1)))), .is (.dat (eI r_19.1)), .is (.dat ((eT eI) r_20.1)), .is (.dat ((eT eI) r_20.2)), .is (.dat ((eT eI) v_27)), .pl, .pl, .pl, .pl, .pl, .pl, .pl, .is (.own (oL eI s_95.1)), .is (.dat ((eO eI) s_95.2)), .pl, .pl, .pl, .pl, .pl, .pl, .pl, .pl, .pl, .pl, .pl] rfl (c_seq (c_frzM rfl (c_nxK (c_seq (c_iteM (c_tbin (c_frzV (c_callN (c_consR (c_gv rfl (c_consR (c_gv rfl (c_ret (c_callK (fun w => .dat ((eT eI) w)) rfl rfl (t_fewest_asked v_9 v_16) fun r_96 => (c_frzD (c_ap1 (c_gv rfl (c_of rfl (c_of (neE (qT qI) r_96 s_95.1) (c_ifk (c_retM (c_ret (c_rtK (c_ret (x_ret rfl (wk_c le_is (wk_c le_any (wk_c le_any (wk_c le_any (wk_c le_any (wk_c le_any (wk_c le_any (wk_c le_any (wk_c le_any (wk_c le_any (wk_c le_any (wk_c le_any (wk_c le_any (wk_c le_any (wk_c le_any (wk_c le_any (wk_c le_any (wk_c le_any (wk_c le_any (wk_c le_any (wk_c le_any (wk_c le_any (wk_c le_any (wk_c le_any (wk_c le_any (wk_c le_any (wk_c le_any (wk_c le_any (wk_c le_any wk_n)))))))))))))))))))))))))))))))))) (c_nxK (c_seq (c_iteM (c_tbin (c_gv rfl (c_ret (c_of (eqE qI r_2.1 ((60 : Int))) (c_ifk (c_seq (c_stM (c_lcM (c_rng2 (c_ret (c_ret (c_ofp (List.map eI) (rng2E ((1 : Int)) ((70 : Int))) fun v_97 => (c_lc (en := eI) (xs := v_97) eI rfl (fun x_98 => (c_turn (c_setD (c_tbin (c_bin (c_frzV (c_callN (c_consR (c_gv rfl (c_consR (c_gv rfl (c_consR (c_gv rfl (c_ret (c_callK (fun w => .dat ((eP (eT eI) (eT eI)) w)) rfl rfl (t__law_day v_9 v_16 x_98) fun r_100 => (c_frzD (c_ret (c_of rfl (c_mkTup (c_nilA (c_tupK rfl (c_of (eqE (qT qI) r_100.2 ([])) (c_ifk (c_asc (c_gv rfl (x_ret rfl (wk_c le_is (wk_c le_is (wk_c le_is (wk_c le_is (wk_c le_any (wk_c le_is (wk_c le_is (wk_c le_is (wk_c le_is (wk_c le_plP (wk_c le_plP (wk_c le_plP (wk_c le_plP (wk_c le_plP (wk_c le_plP (wk_c le_plP (wk_c le_is (wk_c le_is (wk_c le_plP (wk_c le_plP (wk_c le_plP (wk_c le_plP (wk_c le_plP (wk_c le_plP (wk_c le_plP (wk_c le_plP (wk_c le_plP (wk_c le_plP (wk_c le_plP wk_n)))))))))))))))))))))))))))))))) (c_ret (x_ret rfl (wk_c le_is (wk_c le_is (wk_c le_is (wk_c le_is (wk_c le_any (wk_c le_is (wk_c le_is (wk_c le_is (wk_c le_is (wk_c le_plP (wk_c le_plP (wk_c le_plP (wk_c le_plP (wk_c le_plP (wk_c le_plP (wk_c le_plP (wk_c le_is (wk_c le_is (wk_c le_plP (wk_c le_plP (wk_c le_plP (wk_c le_plP (wk_c le_plP (wk_c le_plP (wk_c le_plP (wk_c le_plP (wk_c le_plP (wk_c le_plP (wk_c le_plP wk_n)))))))))))))))))))))))))))))))))))))))))))))))))))))) fun v_101 => (c_setR (c_nxK (c_seq (c_frzM rfl (c_nxK (c_seq (c_stM (c_mkLst (c_nilA (c_lstK rfl (c_setR (c_nxK (c_nm [.is (.own (oL eI r_19.2)), .is (.dat (eI r_2.1)), .is (.dat ((eT eI) v_9)), .is (.dat ((eT eI) v_16)), .is (.dat (eI (((1 : Int) + r_17.1)))), .is (.dat (eI r_19.1)), .is (.dat ((eT eI) r_20.1)), .is (.dat ((eT eI) r_20.2)), .is (.dat ((eT eI) v_27)), .pl, .pl, .pl, .pl, .pl, .pl, .pl, .is (.dat ((eL eI) s_95.1)), .is (.dat ((eO eI) s_95.2)), .pl, .is (.dat ((eL eI) v_101)), .is (.own (oL (eP eI eI) ([]))), .pl, .pl, .pl, .pl, .pl, .pl, .pl, .pl] rfl (c_seq (c_asc (c_itM (c_gv rfl (c_of rfl (c_forN (en := eI) (xs := v_101) (s0 := []) (fun s_103 => [.is (.own (oL eI r_19.2)), .is (.dat (eI r_2.1)), .is (.dat ((eT eI) v_9)), .is (.dat ((eT eI) v_16)), .pl, .is (.dat (eI r_19.1)), .is (.dat ((eT eI) r_20.1)), .is (.dat ((eT eI) r_20.2)), .is (.dat ((eT eI) v_27)), .pl, .pl, .pl, .pl, .pl, .pl, .pl, .is (.dat ((eL eI) s_95.1)), .is (.dat ((eO eI) s_95.2)), .pl, .is (.dat ((eL eI) v_101)), .is (.own (oL (eP eI eI) s_103)), .pl, .pl, .pl, .pl, .pl, .pl, .pl, .pl]) (wk_c le_is (wk_c le_is (wk_c le_is (wk_c le_is (wk_c le_plD (wk_c le_is (wk_c le_is (wk_c le_is (wk_c le_is (wk_c le_plP (wk_c le_plP (wk_c le_plP (wk_c le_plP (wk_c le_plP (wk_c le_plP (wk_c le_plP (wk_c le_is (wk_c le_is (wk_c le_plP (wk_c le_is (wk_c le_is (wk_c le_plP (wk_c le_plP (wk_c le_plP (wk_c le_plP (wk_c le_plP (wk_c le_plP (wk_c le_plP (wk_c le_plP wk_n))))))))))))))))))))))))))))) (fun x_102 s_103 => (c_setD (c_iteM (c_andT (c_tocmp (c_getL rfl (c_fz (c_mkLst (c_nilA (c_lstK rfl (c_getL rfl (c_of (neE (qL (qP qI qI)) s_103 ([])) (c_andp (c_fin (c_tbin (c_bin (c_oix (c_getL rfl (c_una (c_ret (c_of (negI_i _) (c_getL rfl (c_ofp (eP eI eI) (ixL (eP eI eI) s_103 ((-(1 : Int)))) fun v_104 => (c_ret (c_of rfl (c_bin (c_gv rfl (c_ret (c_of (subI_ii x_102 ((1 : Int))) (c_of (eqE qI v_104.2 ((x_102 - (1 : Int)))) (x_ret rfl (Wk.refl _))))))))))))))))))) fun b_105 => (c_ifk (c_asgM (c_mkTup (c_consA (c_bin (c_oix (c_getL rfl (c_una (c_ret (c_of (negI_i _) (c_getL rfl (c_ofp (eP eI eI) (ixL (eP eI eI) s_103 ((-(1 : Int)))) fun v_106 => (c_ret (c_of rfl (c_consA (c_gv rfl (c_nilA (c_tupK rfl (c_gOix (c_getL rfl (c_una (c_ret (c_of (negI_i _) (c_getL rfl (c_gOixK (en := (eP eI eI)) (x := (v_106.1, x_102)) (k := (-(1 : Int))) (xs := s_103) fun spans_107 => (c_nx (x_ret rfl (wk_c le_is (wk_c le_is (wk_c le_is (wk_c le_is (wk_c le_plD (wk_c le_is (wk_c le_is (wk_c le_is (wk_c le_is (wk_c le_plP (wk_c le_plP (wk_c le_plP (wk_c le_plP (wk_c le_plP (wk_c le_plP (wk_c le_plP (wk_c le_is (wk_c le_is (wk_c le_plP (wk_c le_is (wk_c le_is (wk_c le_plP (wk_c le_plP (wk_c le_plP (wk_c le_plP (wk_c le_plP (wk_c le_plP (wk_c le_plP (wk_c le_plP wk_n))))))))))))))))))))))))))))))))))))))))))))))))))))))) (c_asc (c_appM (c_getL rfl (c_mkTup (c_consA (c_gv rfl (c_consA (c_gv rfl (c_nilA (c_tupK rfl (c_getL rfl (c_appK (en := (eP eI eI)) (x := (x_102, x_102)) (xs := s_103) fun spans_108 => (c_nx (x_ret rfl (wk_c le_is (wk_c le_is (wk_c le_is (wk_c le_is (wk_c le_plD (wk_c le_is (wk_c le_is (wk_c le_is (wk_c le_is (wk_c le_plP (wk_c le_plP (wk_c le_plP (wk_c le_plP (wk_c le_plP (wk_c le_plP (wk_c le_plP (wk_c le_is (wk_c le_is (wk_c le_plP (wk_c le_is (wk_c le_is (wk_c le_plP (wk_c le_plP (wk_c le_plP (wk_c le_plP (wk_c le_plP (wk_c le_plP (wk_c le_plP (wk_c le_plP wk_n))))))))))))))))))))))))))))))))))))))))))))))))))))))))) fun s_109 => (c_nxK (c_nm [.is (.own (oL eI r_19.2)), .is (.dat (eI r_2.1)), .is (.dat ((eT eI) v_9)), .is (.dat ((eT eI) v_16)), .pl, .is (.dat (eI r_19.1)), .is (.dat ((eT eI) r_20.1)), .is (.dat ((eT eI) r_20.2)), .is (.dat ((eT eI) v_27)), .pl, .pl, .pl, .pl, .pl, .pl, .pl, .is (.dat ((eL eI) s_95.1)), .is (.dat ((eO eI) s_95.2)), .pl, .is (.dat ((eL eI) v_101)), .is (.own (oL (eP eI eI) s_109)), .pl, .pl, .pl, .pl, .pl, .pl, .pl, .pl] rfl (c_seq (c_stM (c_frzV (c_callN (c_consR (c_gv rfl (c_consR (c_gv rfl (c_ret (c_callK (fun w => .dat ((eT (eP eI (eO eI))) w)) rfl rfl (t_lengths_right v_9 v_16) fun r_110 => (c_frzD (c_setR (c_nxK (c_nm [.is (.own (oL eI r_19.2)), .is (.dat (eI r_2.1)), .is (.dat ((eT eI) v_9)), .is (.dat ((eT eI) v_16)), .pl, .is (.dat (eI r_19.1)), .is (.dat ((eT eI) r_20.1)), .is (.dat ((eT eI) r_20.2)), .is (.dat ((eT eI) v_27)), .pl, .pl, .pl, .pl, .pl, .pl, .pl, .is (.dat ((eL eI) s_95.1)), .is (.dat ((eO eI) s_95.2)), .pl, .is (.dat ((eL eI) v_101)), .is (.own (oL (eP eI eI) s_109)), .is (.dat ((eT (eP eI (eO eI))) r_110)), .pl, .pl, .pl, .pl, .pl, .pl, .pl] rfl (c_seq (c_stM (c_lcM (c_itM (c_gv rfl (c_of rfl (c_lc (en := (eP eI (eO eI))) (xs := r_110) (eP eI eI) rfl (fun x_111 => (c_turn (c_gTup rfl (c_gCons (c_setD (c_gCons (c_setD (c_gNil (c_yes (c_mkTup (c_consA (c_gv rfl (c_consA (c_ifD (c_tbin (c_gv rfl (c_ret (c_of (isE nnI x_111.2) (c_ifx eI (fun _ => [.is (.own (oL eI r_19.2)), .is (.dat (eI r_2.1)), .is (.dat ((eT eI) v_9)), .is (.dat ((eT eI) v_16)), .pl, .is (.dat (eI r_19.1)), .is (.dat ((eT eI) r_20.1)), .is (.dat ((eT eI) r_20.2)), .is (.dat ((eT eI) v_27)), .pl, .pl, .pl, .pl, .pl, .pl, .pl, .is (.dat ((eL eI) s_95.1)), .is (.dat ((eO eI) s_95.2)), .pl, .is (.dat ((eL eI) v_101)), .is (.own (oL (eP eI eI) s_109)), .is (.dat ((eT (eP eI (eO eI))) r_110)), .pl, .pl, .pl, .pl, .pl, .is (.dat (eI x_111.1)), .is (.dat ((eO eI) x_111.2))]) (c_fin (c_ret (x_ret rfl (Wk.refl _)))) (c_fin (c_gvO (en := eI) rfl fun most_113 => (x_ret rfl (Wk.refl _)))) fun v_114 => (c_nilA (c_tupK rfl (x_ret rfl (wk_c le_is (wk_c le_is (wk_c le_is (wk_c le_is (wk_c le_plP (wk_c le_is (wk_c le_is (wk_c le_is (wk_c le_is (wk_c le_plP (wk_c le_plP (wk_c le_plP (wk_c le_plP (wk_c le_plP (wk_c le_plP (wk_c le_plP (wk_c le_is (wk_c le_is (wk_c le_plP (wk_c le_is (wk_c le_is (wk_c le_is (wk_c le_plP (wk_c le_plP (wk_c le_plP (wk_c le_plP (wk_c le_plP (wk_c le_any (wk_c le_any wk_n))))))))))))))))))))))))))))))))))))))))))))))))))) fun v_115 => (c_setR (c_nxK (c_seq (c_frzM rfl (c_nxK (c_seq (c_frzM rfl (c_nxK (c_iteM (c_orT (c_tbin (c_gv rfl (c_gv rfl (c_of (neE (qL (qP qI qI)) v_115 s_109) (c_orp (c_fin (c_asc (c_ap1 (c_fz (c_lcM (c_itM (c_frzV (c_slM (c_gv rfl (c_ret (c_intO (c_una (c_ret (c_of (negI_i _) (c_intK (c_of (slT (eP eI (eO eI)) r_110 none (some (-(1 : Int)))) (c_frzD (c_of rfl (c_lcp (en := (eP eI (eO eI))) (xs := (cutT r_110 none (some (-(1 : Int))))) eB rfl (fun x_116 => (c_turn (c_gTup rfl (c_gCons (c_setD (c_gCons (c_setD (c_gNil (c_yes (c_bin (c_gv rfl (c_ret (c_of (bDs (isE nnI x_116.2)) (x_ret rfl (wk_c le_is (wk_c le_is (wk_c le_is (wk_c le_is (wk_c le_plP (wk_c le_is (wk_c le_is (wk_c le_is (wk_c le_is (wk_c le_plP (wk_c le_plP (wk_c le_plP (wk_c le_plP (wk_c le_plP (wk_c le_plP (wk_c le_plP (wk_c le_is (wk_c le_is (wk_c le_plP (wk_c le_is (wk_c le_is (wk_c le_is (wk_c le_is (wk_c le_plP (wk_c le_plP (wk_c le_plP (wk_c le_plP (wk_c le_any (wk_c le_any wk_n))))))))))))))))))))))))))))))))))))))))))) fun v_118 => (c_of (anyE v_118) (c_boolOf (x_ret rfl (Wk.refl _))))))))))))))))))))))) fun b_119 => (c_ifk (c_retM (c_ret (c_rtK (c_ret (x_ret rfl (wk_c le_is (wk_c le_any (wk_c le_any (wk_c le_any (wk_c le_any (wk_c le_any (wk_c le_any (wk_c le_any (wk_c le_any (wk_c le_any (wk_c le_any (wk_c le_any (wk_c le_any (wk_c le_any (wk_c le_any (wk_c le_any (wk_c le_any (wk_c le_any (wk_c le_any (wk_c le_any (wk_c le_any (wk_c le_any (wk_c le_any (wk_c le_any (wk_c le_any (wk_c le_any (wk_c le_any (wk_c le_any (wk_c le_any wk_n)))))))))))))))))))))))))))))))))) (c_nxK (c_nm [.is (.own (oL eI r_19.2)), .is (.dat (eI r_2.1)), .is (.dat ((eT eI) v_9)), .is (.dat ((eT eI) v_16)), .pl, .is (.dat (eI r_19.1)), .is (.dat ((eT eI) r_20.1)), .is (.dat ((eT eI) r_20.2)), .is (.dat ((eT eI) v_27)), .pl, .pl, .pl, .pl, .pl, .pl, .pl, .is (.dat ((eL eI) s_95.1)), .is (.dat ((eO eI) s_95.2)), .pl, .is (.dat ((eL eI) v_101)), .is (.dat ((eL (eP eI eI)) s_109)), .is (.dat ((eT (eP eI (eO eI))) r_110)), .is (.dat ((eL (eP eI eI)) v_115)), .pl, .pl, .pl, .pl, .pl, .pl] rfl (c_retM (c_ret (c_ret (x_ret rfl (wk_c le_is (wk_c le_any (wk_c le_any (wk_c le_any (wk_c le_any (wk_c le_any (wk_c le_any (wk_c le_any (wk_c le_any (wk_c le_any (wk_c le_any (wk_c le_any (wk_c le_any (wk_c le_any (wk_c le_any (wk_c le_any (wk_c le_any (wk_c le_any (wk_c le_any (wk_c le_any (wk_c le_any (wk_c le_any (wk_c le_any (wk_c le_any (wk_c le_any (wk_c le_any (wk_c le_any (wk_c le_any (wk_c le_any wk_n))))))))))))))))))))))))))))))))))))))))))))))))))))))))))))))))))))))))))))))))))))))))))))))))))))) (c_nxK (c_retM (c_ret (c_ret (x_ret rfl (wk_c le_is (wk_c le_any (wk_c le_any (wk_c le_any (wk_c le_any (wk_c le_any (wk_c le_any (wk_c le_any (wk_c le_any (wk_c le_any (wk_c le_any (wk_c le_any (wk_c le_any (wk_c le_any (wk_c le_any (wk_c le_any (wk_c le_any (wk_c le_any (wk_c le_any (wk_c le_any (wk_c le_any (wk_c le_any (wk_c le_any (wk_c le_any (wk_c le_any (wk_c le_any (wk_c le_any (wk_c le_any (wk_c le_any wk_n)))))))))))))))))))))))))))))))))))))))))))))))))))))))))))))))))))))))))))))))))))))))))))))))))))))))))))))))))))))))))))))))))))))))))))))))))))))))))))))))))))))))))))))))))))))))))))))))))))))))))))))))))))))))))))))))))))))))))))))))))))))))))))))))))))))))))))))))))))))))))))) hv (at_c ok_is (at_c ok_pl (at_c ok_pl (at_c ok_pl (at_c ok_pl (at_c ok_pl (at_c ok_pl (at_c ok_pl (at_c ok_pl (at_c ok_pl (at_c ok_pl (at_c ok_pl (at_c ok_pl (at_c ok_pl (at_c ok_pl (at_c ok_pl (at_c ok_pl (at_c ok_pl (at_c ok_pl (at_c ok_pl (at_c ok_pl (at_c ok_pl (at_c ok_pl (at_c ok_pl (at_c ok_pl (at_c ok_pl (at_c ok_pl (at_c ok_pl (at_c ok_pl at_n))))))))))))))))))))))))))))) rfl
def T_law (a_script : List Int) : Option Bool := ((T__law_places a_script ((3 : Int))).bind fun r_1 => ((forR (β := Bool) (fun (x_2 : Int) (s_3 : Unit) => ((T__law_pot a_script x_2).bind fun r_4 => ((rng1T ((2 : Int))).bind fun v_5 => ((lcST (fun (x_6 : Int) s_7 => ((T__law_right s_7).bind fun r_8 => (some ((some r_8.1), r_8.2)))) v_5 r_4).bind fun v_9 => (if (!(v_9.1.all id)) = true then (some (.inr false)) else ((T__law_take v_9.2 ((9 : Int))).bind fun r_10 => ((T__law_take r_10.2 ((6 : Int))).bind fun r_11 => ((rng1T ((30 : Int))).bind fun v_12 => ((lcT (fun (x_13 : Int) => ((mulT (((1 : Int) + r_10.1)) x_13).bind fun v_15 => (some ((some v_15))))) v_12).bind fun v_16 => ((mulT (((1 : Int) + r_10.1)) (((1 : Int) + r_11.1))).bind fun v_17 => ((T_asked v_16 v_17).bind fun r_18 => ((stepT v_16 (((1 : Int) + r_11.1))).bind fun v_19 => ((orO ((!decide (r_18 = v_19))) (((mulT (((1 : Int) + r_10.1)) (((1 : Int) + r_11.1))).bind fun v_20 => ((T_least_cost v_16 ([]) v_20 ((5 : Int))).bind fun r_21 => ((fdivT (((29 : Int) + ((1 : Int) + r_11.1))) (((1 : Int) + r_11.1))).bind fun v_22 => (some ((!decide (r_21.1 = v_22))))))))).bind fun b_23 => (if b_23 = true then (some (.inr false)) else ((mulT (((1 : Int) + r_10.1)) (((1 : Int) + r_11.1))).bind fun v_24 => ((mulT (((1 : Int) + r_10.1)) (((1 : Int) + r_11.1))).bind fun v_25 => ((T_least_cost v_16 ([((((1 : Int) + r_10.1) * (29 : Int)) + v_24)]) v_25 ((9 : Int))).bind fun r_26 => ((fdivT (((29 : Int) + ((1 : Int) + r_11.1))) (((1 : Int) + r_11.1))).bind fun v_27 => (if (!decide (r_26.1 = v_27)) = true then (some (.inr false)) else (some (.inl ()))))))))))))))))))))) r_1 ()).bind fun rr => Sum.elim (fun s_28 => (some true)) (fun r_29 => (some r_29)) rr))
theorem t_law (a_script : List Int) : ∀ v, T_law a_script = some v → D_law [.scr a_script] = some (.dat (eB v), noCn) := fun v hv =>
  den_bx (t := T_law a_script) (e' := (fun w => .rt (.dat (eB w)))) (q' := (fun w => [.any, .any, .any, .any, .any, .any, .any, .any])) (p0 := [.is (.scr a_script), .pl, .pl, .pl, .pl, .pl, .pl, .pl]) (c_seq (c_asc (c_itM (c_frzV (c_callN (c_consR (c_gsV (c_getS rfl (c_consR (c_ret (c_ret (c_callK (fun w => .dat ((eL eI) w)) rfl rfl (t__law_places a_script ((3 : Int))) fun r_1 => (c_frzD (c_of rfl (c_forRN (en := eI) (xs := r_1) (s0 := ()) (fun w => .dat (eB w)) (fun s_3 => [.is (.scr a_script), .pl, .any, .pl, .pl, .pl, .pl, .pl]) (fun r_29 => [.any, .any, .any, .any, .any, .any, .any, .any]) (wk_c le_is (wk_c le_plP (wk_c le_any (wk_c le_plP (wk_c le_plP (wk_c le_plP (wk_c le_plP (wk_c le_plP wk_n)))))))) (fun x_2 s_3 => (c_setD (c_seq (c_stM (c_ownV (c_callN (c_consR (c_gsV (c_getS rfl (c_consR (c_gv rfl (c_ret (c_callK (fun w => .own (oL eI w)) rfl rfl (t__law_pot a_script x_2) fun r_4 => (c_ownO (c_setR (c_nxK (c_nm [.is (.scr a_script), .is (.dat (eI x_2)), .is (.own (oL eI r_4)), .pl, .pl, .pl, .pl, .pl] rfl (c_seq (c_iteM (c_notT (c_asc (c_ap1 (c_fz (c_lcM (c_rng1 (c_ret (c_ofp (List.map eI) (rng1E ((2 : Int))) fun v_5 => (c_lcS (en := eI) (s0 := r_4) (xs := v_5) eB (fun s_7 => [.is (.scr a_script), .is (.dat (eI x_2)), .is (.own (oL eI s_7)), .pl, .pl, .pl, .pl, .pl]) rfl rfl (fun _ => rfl) (fun x_6 s_7 => (c_turn (c_setD (c_yes (c_frzV (c_callIO rfl (c_ret (c_callIOK (fun w => .dat (eB w.1)) (fun w => oL eI w.2) rfl rfl rfl (t__law_right s_7) fun r_8 => (c_frzD (x_ret rfl (wk_c le_is (wk_c le_is (wk_c le_is (wk_c le_plP (wk_c le_plP (wk_c le_plP (wk_c le_any (wk_c le_plP wk_n)))))))))))))))))) fun v_9 => (c_of (allE v_9.1) (c_boolOf (c_ifk (c_retM (c_ret (c_rtK (c_ret (x_ret rfl (wk_c le_any (wk_c le_any (wk_c le_any (wk_c le_any (wk_c le_any (wk_c le_any (wk_c le_any (wk_c le_any wk_n))))))))))))) (c_nxK (c_nm [.is (.scr a_script), .is (.dat (eI x_2)), .is (.own (oL eI v_9.2)), .pl, .pl, .pl, .pl, .pl] rfl (c_seq (c_parM (c_consR (c_frzV (c_bin (c_ret (c_frzV (c_callIO rfl (c_consR (c_ret (c_ret (c_callIOK (fun w => .dat (eI w.1)) (fun w => oL eI w.2) rfl rfl rfl (t__law_take v_9.2 ((9 : Int))) fun r_10 => (c_frzD (c_of (addV_ii ((1 : Int)) r_10.1) (c_frzD (c_consR (c_frzV (c_bin (c_ret (c_frzV (c_callIO rfl (c_consR (c_ret (c_ret (c_callIOK (fun w => .dat (eI w.1)) (fun w => oL eI w.2) rfl rfl rfl (t__law_take r_10.2 ((6 : Int))) fun r_11 => (c_frzD (c_of (addV_ii ((1 : Int)) r_11.1) (c_frzD (c_ret (c_parK rfl (c_nxK (c_nm [.is (.scr a_script), .is (.dat (eI x_2)), .is (.own (oL eI r_11.2)), .is (.dat (eI (((1 : Int) + r_10.1)))), .is (.dat (eI (((1 : Int) + r_11.1)))), .pl, .pl, .pl] rfl (c_seq (c_stM (c_ap1 (c_fz (c_lcM (c_rng1 (c_ret (c_ofp (List.map eI) (rng1E ((30 : Int))) fun v_12 => (c_lc (en := eI) (xs := v_12) eI rfl (fun x_13 => (c_turn (c_setD (c_yes (c_frzV (c_bin (c_gv rfl (c_gv rfl (c_ofp (fun w => .dat (.int w)) (mulE (((1 : Int) + r_10.1)) x_13) fun v_15 => (c_frzD (x_ret rfl (wk_c le_is (wk_c le_is (wk_c le_is (wk_c le_is (wk_c le_is (wk_c le_plP (wk_c le_plP (wk_c le_any wk_n))))))))))))))))))) fun v_16 => (c_of rfl (c_setR (c_nxK (c_nm [.is (.scr a_script), .is (.dat (eI x_2)), .is (.own (oL eI r_11.2)), .is (.dat (eI (((1 : Int) + r_10.1)))), .is (.dat (eI (((1 : Int) + r_11.1)))), .is (.dat ((eT eI) v_16)), .pl, .pl] rfl (c_seq (c_iteM (c_orT (c_tbin (c_frzV (c_callN (c_consR (c_gv rfl (c_consR (c_frzV (c_bin (c_gv rfl (c_gv rfl (c_ofp (fun w => .dat (.int w)) (mulE (((1 : Int) + r_10.1)) (((1 : Int) + r_11.1))) fun v_17 => (c_frzD (c_ret (c_callK (fun w => .dat ((eT eI) w)) rfl rfl (t_asked v_16 v_17) fun r_18 => (c_frzD (c_bin (c_gv rfl (c_gv rfl (c_ofp (eT eI) (stepE eI v_16 (((1 : Int) + r_11.1))) fun v_19 => (c_of (neE (qT qI) r_18 v_19) (c_orp (c_fin (c_tbin (c_bin (c_frzV (c_callN (c_consR (c_gv rfl (c_consR (c_mkTup (c_nilA (c_tupK rfl (c_consR (c_frzV (c_bin (c_gv rfl (c_gv rfl (c_ofp (fun w => .dat (.int w)) (mulE (((1 : Int) + r_10.1)) (((1 : Int) + r_11.1))) fun v_20 => (c_frzD (c_consR (c_ret (c_ret (c_callK (fun w => .dat ((eP eI (eT eI)) w)) rfl rfl (t_least_cost v_16 ([]) v_20 ((5 : Int))) fun r_21 => (c_frzD (c_ret (c_of rfl (c_bin (c_frzV (c_bin (c_ret (c_gv rfl (c_of (addV_ii ((29 : Int)) (((1 : Int) + r_11.1))) (c_frzD (c_gv rfl (c_ofp eI (fdivE (((29 : Int) + ((1 : Int) + r_11.1))) (((1 : Int) + r_11.1))) fun v_22 => (c_of (neE qI r_21.1 v_22) (x_ret rfl (Wk.refl _))))))))))))))))))))))))))))))))))))) fun b_23 => (c_ifk (c_retM (c_ret (c_rtK (c_ret (x_ret rfl (wk_c le_any (wk_c le_any (wk_c le_any (wk_c le_any (wk_c le_any (wk_c le_any (wk_c le_any (wk_c le_any wk_n))))))))))))) (c_nxK (c_iteM (c_tbin (c_bin (c_frzV (c_callN (c_consR (c_gv rfl (c_consR (c_mkTup (c_consA (c_frzV (c_bin (c_frzV (c_bin (c_gv rfl (c_ret (c_of (mulV_ii (a := ((1 : Int) + r_10.1)) (b := (29 : Int)) (mulOk_r (by decide) (by decide))) (c_frzD (c_frzV (c_bin (c_gv rfl (c_gv rfl (c_ofp (fun w => .dat (.int w)) (mulE (((1 : Int) + r_10.1)) (((1 : Int) + r_11.1))) fun v_24 => (c_frzD (c_of (addV_ii ((((1 : Int) + r_10.1) * (29 : Int))) v_24) (c_frzD (c_nilA (c_tupK rfl (c_consR (c_frzV (c_bin (c_gv rfl (c_gv rfl (c_ofp (fun w => .dat (.int w)) (mulE (((1 : Int) + r_10.1)) (((1 : Int) + r_11.1))) fun v_25 => (c_frzD (c_consR (c_ret (c_ret (c_callK (fun w => .dat ((eP eI (eT eI)) w)) rfl rfl (t_least_cost v_16 ([((((1 : Int) + r_10.1) * (29 : Int)) + v_24)]) v_25 ((9 : Int))) fun r_26 => (c_frzD (c_ret (c_of rfl (c_bin (c_frzV (c_bin (c_ret (c_gv rfl (c_of (addV_ii ((29 : Int)) (((1 : Int) + r_11.1))) (c_frzD (c_gv rfl (c_ofp eI (fdivE (((29 : Int) + ((1 : Int) + r_11.1))) (((1 : Int) + r_11.1))) fun v_27 => (c_of (neE qI r_26.1 v_27) (c_ifk (c_retM (c_ret (c_ret (x_ret rfl (wk_c le_any (wk_c le_any (wk_c le_any (wk_c le_any (wk_c le_any (wk_c le_any (wk_c le_any (wk_c le_any wk_n)))))))))))) (c_nx (x_ret rfl (wk_c le_is (wk_c le_plD (wk_c le_any (wk_c le_plD (wk_c le_plD (wk_c le_plD (wk_c le_plP (wk_c le_plP wk_n))))))))))))))))))))))))))))))))))))))))))))))))))))))))))))))))))))))))))))))))))))))))))))))))))))))))))))))))))))))))))))))))))))))))))))))))))))))))))))))))))))))) (fun s_28 => (c_nxK (c_nm [.is (.scr a_script), .pl, .any, .pl, .pl, .pl, .pl, .pl] rfl (c_retM (c_ret (c_ret (x_ret rfl (wk_c le_any (wk_c le_any (wk_c le_any (wk_c le_any (wk_c le_any (wk_c le_any (wk_c le_any (wk_c le_any wk_n))))))))))))))) (fun r_29 => (c_rtK (c_ret (x_ret rfl (wk_c le_any (wk_c le_any (wk_c le_any (wk_c le_any (wk_c le_any (wk_c le_any (wk_c le_any (wk_c le_any wk_n))))))))))))))))))))))))))) hv (at_c ok_is (at_c ok_pl (at_c ok_pl (at_c ok_pl (at_c ok_pl (at_c ok_pl (at_c ok_pl (at_c ok_pl at_n))))))))
end K78

set_option maxHeartbeats 200000
namespace K78
open PySem PySem.Spec PyProof.Rows L2 DL
/-! the least cost, by suffixes -/
def cand (ws : List Int) (n pr r : Int) : List Int → List (Int × List Int) → List (Int × List Int)
  | post, b :: bs => (1 + pr * waitsS r post.head? ws n + b.1, r :: b.2) :: (match post with
    | [] => []
    | x :: post' => if x < r + n then cand ws n pr r post' bs else [])
  | _, [] => []
abbrev ltc : Int × List Int → Int × List Int → Bool := ltP ltI (ltL ltI)
def minP (l : List (Int × List Int)) : Int × List Int := (minT ltc l).getD (0, [])
def DPs (ws : List Int) (n pr : Int) : List Int → List (Int × List Int)
  | [] => [(0, [])]
  | r :: rest => minP (cand ws n pr r rest (DPs ws n pr rest)) :: DPs ws n pr rest
def dp (ws : List Int) (n pr : Int) (rs : List Int) : Int × List Int := (DPs ws n pr rs).headD (0, [])
variable {ws : List Int} {n pr : Int}
theorem DPs_len : ∀ rs : List Int, (DPs ws n pr rs).length = rs.length + 1
  | [] => rfl
  | r :: rest => by rw [DPs, List.length_cons, DPs_len rest]; rfl
theorem DPs_drop : ∀ (rs : List Int) (j : Nat), j ≤ rs.length → (DPs ws n pr rs).drop j = DPs ws n pr (rs.drop j)
  | rs, 0, _ => rfl
  | [], j + 1, h => by simp at h
  | r :: rest, j + 1, h => by
    rw [DPs, List.drop_succ_cons, List.drop_succ_cons]
    exact DPs_drop rest j (by simpa using h)
theorem DPs_at (rs : List Int) (j : Nat) (h : j ≤ rs.length) : (DPs ws n pr rs)[j]? = some (dp ws n pr (rs.drop j)) := by
  have := DPs_drop (ws := ws) (n := n) (pr := pr) rs j h
  rw [← List.head?_drop, this]
  unfold dp
  cases e : DPs ws n pr (rs.drop j) with
  | nil => have := DPs_len (ws := ws) (n := n) (pr := pr) (rs.drop j); rw [e] at this; simp at this
  | cons a l => rfl
theorem DPs_cons (rs : List Int) : DPs ws n pr rs = dp ws n pr rs :: (DPs ws n pr rs).tail := by
  unfold dp
  cases e : DPs ws n pr rs with
  | nil => have := DPs_len (ws := ws) (n := n) (pr := pr) rs; rw [e] at this; simp at this
  | cons a l => rfl
theorem cand_ne (r : Int) (rest : List Int) (rs : List Int) : cand ws n pr r rest (DPs ws n pr rs) ≠ [] := by
  rw [DPs_cons]
  unfold cand
  exact List.cons_ne_nil _ _
theorem cand_len (r : Int) : ∀ (post : List Int) (bs : List (Int × List Int)), (cand ws n pr r post bs).length ≤ bs.length
  | post, [] => by cases post <;> simp [cand]
  | [], b :: bs => by simp [cand]
  | x :: post, b :: bs => by
    unfold cand
    dsimp only
    split
    · have := cand_len r post bs
      simp only [List.length_cons]; omega
    · simp
theorem minT_some {α : Type} (l : α → α → Bool) {xs : List α} (h : xs ≠ []) : ∃ v, minT l xs = some v ∧ v ∈ xs := by
  cases xs with
  | nil => exact absurd rfl h
  | cons x xs =>
    refine ⟨_, rfl, ?_⟩
    have : ∀ (xs : List α) (a : α), xs.foldl (fun a y => if l y a = true then y else a) a ∈ a :: xs := by
      intro xs
      induction xs with
      | nil => intro a; simp
      | cons y xs ih =>
        intro a
        rw [List.foldl_cons]
        have := ih (if l y a = true then y else a)
        rcases List.mem_cons.mp this with h | h
        · rw [h]; split <;> simp
        · simp [h]
    exact this xs x
theorem minP_mem {l : List (Int × List Int)} (h : l ≠ []) : minT ltc l = some (minP l) ∧ minP l ∈ l := by
  obtain ⟨v, e, m⟩ := minT_some ltc h
  unfold minP
  rw [e]
  exact ⟨rfl, m⟩
/-- what a best row is -/
inductive Row (ws : List Int) (n pr : Int) : List Int → Int × List Int → Prop
  | nil : Row ws n pr [] (0, [])
  | cons {r : Int} {pre post : List Int} {b : Int × List Int} : (∀ x ∈ pre, x < r + n) → Row ws n pr post b → Row ws n pr (r :: (pre ++ post)) (1 + pr * waitsS r post.head? ws n + b.1, r :: b.2)
theorem cand_row (r : Int) : ∀ (post pre : List Int) (z : Int × List Int), (∀ x ∈ pre, x < r + n) → (∀ j, j ≤ post.length → Row ws n pr (post.drop j) (dp ws n pr (post.drop j))) → z ∈ cand ws n pr r post (DPs ws n pr post) → Row ws n pr (r :: (pre ++ post)) z
  | [], pre, z, hp, hd, hz => by
    simp [DPs, cand] at hz
    subst hz
    have := Row.cons (ws := ws) (pr := pr) (r := r) hp .nil
    simpa using this
  | x :: post, pre, z, hp, hd, hz => by
    rw [DPs_cons] at hz
    unfold cand at hz
    dsimp only at hz
    rcases List.mem_cons.mp hz with rfl | hz
    · exact .cons hp (hd 0 (Nat.zero_le _))
    · split at hz
      · rename_i hx
        have e : (DPs ws n pr (x :: post)).tail = DPs ws n pr post := rfl
        rw [e] at hz
        have := cand_row r post (pre ++ [x]) z (fun y hy => by
          rcases List.mem_append.mp hy with h | h
          · exact hp y h
          · rw [List.mem_singleton.mp h]; exact hx) (fun j hj => by simpa using hd (j + 1) (by simpa using hj)) hz
        simpa using this
      · cases hz
theorem dp_cons (r : Int) (rest : List Int) : dp ws n pr (r :: rest) = minP (cand ws n pr r rest (DPs ws n pr rest)) := rfl
theorem dp_row : ∀ rs : List Int, Row ws n pr rs (dp ws n pr rs)
  | [] => .nil
  | r :: rest => by
    have all : ∀ j, j ≤ rest.length → Row ws n pr (rest.drop j) (dp ws n pr (rest.drop j)) := by
      intro j hj
      exact dp_row (rest.drop j)
    rw [dp_cons]
    have := (minP_mem (cand_ne (ws := ws) (n := n) (pr := pr) r rest rest)).2
    simpa using cand_row r rest [] _ (fun x h => nomatch h) all this
termination_by rs => rs.length
decreasing_by
  rw [List.length_drop, List.length_cons]; omega
theorem Row.sub {rs : List Int} {z : Int × List Int} (h : Row ws n pr rs z) : z.2.Sublist rs := by
  induction h with
  | nil => exact List.Sublist.refl _
  | cons hp h ih => exact List.Sublist.cons₂ _ (ih.trans (List.sublist_append_right _ _))
theorem Row.head {rs : List Int} {z : Int × List Int} (h : Row ws n pr rs z) : z.2.head? = rs.head? := by
  cases h <;> rfl
theorem dp_sub (rs : List Int) : (dp ws n pr rs).2.Sublist rs := (dp_row rs).sub
theorem dp_head (rs : List Int) : (dp ws n pr rs).2.head? = rs.head? := (dp_row rs).head
end K78

namespace K78
open PySem PySem.Spec PyProof.Rows L2 DL
/-! the program's table -/
def FinA (a_reads a_writes : List Int) (a_length a_price many_1 x_4 : Int) (s_5 : List (Int × (Int × List Int))) (x_7 : Int) (s_8 : List (Int × List Int)) : Option (List (Int × List Int)) := ((rng2T ((x_4 + 1)) x_7).bind fun v_9 => ((lcT (fun (x_10 : Int) => ((atI a_reads x_10).bind fun v_12 => ((atI a_reads x_4).bind fun v_13 => (some ((some ((decide (v_12 < (v_13 + a_length)))))))))) v_9).bind fun v_14 => (if (v_14.all id) = true then ((if (decide (x_7 < many_1)) = true then ((atI a_reads x_7).bind fun v_15 => (some ((some v_15)))) else (some none)).bind fun v_16 => ((lookT s_5 x_7).bind fun v_17 => ((atI a_reads x_4).bind fun v_18 => ((T_waits_by v_18 v_16 a_writes a_length).bind fun r_19 => ((mulT a_price r_19).bind fun v_20 => ((atI a_reads x_4).bind fun v_21 => ((okL ((v_21 :: v_17.2))).bind fun v_22 => ((appT s_8 ((((1 + v_20) + v_17.1), v_22))).bind fun some_23 => (some some_23))))))))) else (some s_8))))
def FoutA (a_reads a_writes : List Int) (a_length a_price many_1 : Int) (x_4 : Int) (s_5 : List (Int × (Int × List Int))) : Option (List (Int × (Int × List Int))) := ((rng2T ((x_4 + 1)) ((many_1 + 1))).bind fun v_6 => ((forT (FinA a_reads a_writes a_length a_price many_1 x_4 s_5) v_6 []).bind fun s_24 => ((minT (ltP ltI (ltL ltI)) s_24).bind fun v_25 => ((putO s_5 x_4 v_25).bind fun best_26 => (some best_26)))))
theorem least_of_eq (rs ws : List Int) (n pr : Int) : T_least_of rs ws n pr = (((some ((rs.length : Int)))).bind fun many_1 => (((some ([(many_1, (0, []))]))).bind fun best_2 => ((rng3T ((many_1 - 1)) ((-1)) ((-1))).bind fun v_3 => ((forT (FoutA rs ws n pr many_1) v_3 best_2).bind fun s_27 => ((lookT s_27 (0)).bind fun v_28 => (some v_28)))))) := rfl
section
variable {rs ws : List Int} {n pr : Int} (hl : rs.length ≤ 1000) (hw : ws.length ≤ 1000) (hp : 0 ≤ pr) (hp2 : pr ≤ 1000000)
include hl hw hp hp2
def okR (rs : List Int) (n : Int) (i j : Nat) : Bool := ((rs.take j).drop (i + 1)).all fun x => decide (x < (rs[i]?.getD 0) + n)
theorem okR_succ (i j : Nat) (hij : i < j) (hj : j < rs.length) : okR rs n i (j + 1) = (okR rs n i j && decide (rs[j] < (rs[i]?.getD 0) + n)) := by
  unfold okR
  rw [List.take_succ, List.getElem?_eq_getElem hj]
  rw [List.drop_append_of_le_length (by rw [List.length_take]; omega)]
  rw [List.all_append]; simp
omit hw hp hp2 in
theorem okR_all (i j : Nat) (hij : i < j) (hj : j ≤ rs.length) : lcT (fun (x : Int) => (atI rs x).bind fun a => (atI rs (i : Int)).bind fun b => some (some (decide (a < b + n)))) (rngI ((i : Int) + 1) (j - (i + 1))) = some (((rs.take j).drop (i + 1)).map fun x => decide (x < (rs[i]?.getD 0) + n)) := by
  have hi : i < rs.length := by omega
  rw [lcT_map (g := fun x : Int => decide ((rs[x.toNat]?.getD 0) < (rs[i]?.getD 0) + n)) (by rw [rngI_len]; exact lim_of (by omega)) (fun x hx => by
    obtain ⟨h1, h2⟩ := mem_rngI.mp hx
    obtain ⟨k, rfl⟩ := Int.eq_ofNat_of_zero_le (show 0 ≤ x by omega)
    have hk : k < rs.length := by omega
    rw [atI_some hk, atI_some hi]
    simp [hk, hi])]
  congr 1
  unfold rngI
  rw [List.map_map]
  apply List.ext_getElem
  · simp; omega
  · intro k h1 h2
    simp at h1 h2 ⊢
    have : ((i : Int) + 1 + k).toNat = i + 1 + k := by omega
    rw [this]
    have hk : i + 1 + k < rs.length := by omega
    simp [hk]
theorem stepA_eq {i j : Nat} (hij : i < j) (hj : j ≤ rs.length) (s5 : List (Int × (Int × List Int))) (hs : lookT s5 (j : Int) = some (dp ws n pr (rs.drop j))) (acc : List (Int × List Int)) (ha : acc.length ≤ 1000) : FinA rs ws n pr rs.length i s5 j acc = some (if okR rs n i j = true then acc ++ [(1 + pr * waitsS (rs[i]?.getD 0) (rs.drop j).head? ws n + (dp ws n pr (rs.drop j)).1, (rs[i]?.getD 0) :: (dp ws n pr (rs.drop j)).2)] else acc) := by
  have hi : i < rs.length := by omega
  unfold FinA
  refine bind_eq (rng2T_ok (by omega) (by omega) (by omega) (by omega)) ?_
  have e1 : ((j : Int) - ((i : Int) + 1)).toNat = j - (i + 1) := by omega
  rw [e1]
  refine bind_eq (okR_all hl i j hij hj) ?_
  have e2 : (List.map (fun x => decide (x < (rs[i]?.getD 0) + n)) ((rs.take j).drop (i + 1))).all id = okR rs n i j := by
    rw [List.all_map]; rfl
  rw [e2]
  by_cases c : okR rs n i j = true
  · rw [if_pos c, if_pos c]
    have e3 : (if (decide ((j : Int) < (rs.length : Int))) = true then ((atI rs (j : Int)).bind fun v_15 => (some ((some v_15)))) else (some none)) = some (rs.drop j).head? := by
      rw [List.head?_drop]
      by_cases h : j < rs.length
      · rw [if_pos (decide_eq_true (by omega)), atI_some h]
        simp [h]
      · rw [if_neg (by simp; omega), List.getElem?_eq_none (by omega)]
    refine bind_eq e3 ?_
    refine bind_eq hs ?_
    refine bind_eq (atI_some hi) ?_
    have e4 : rs[i]?.getD 0 = rs[i] := by simp [hi]
    rw [e4]
    refine bind_eq (show T_waits_by rs[i] (rs.drop j).head? ws n = some (waitsS rs[i] (rs.drop j).head? ws n) by unfold T_waits_by; rw [if_pos hw]) ?_
    refine bind_eq (mulT_l (by omega) (by omega)) ?_
    refine bind_eq (atI_some hi) ?_
    have hsub := (dp_sub (ws := ws) (n := n) (pr := pr) (rs.drop j)).length_le
    rw [List.length_drop] at hsub
    refine bind_eq (okL_ok (by rw [List.length_cons]; exact lim_of (by omega))) ?_
    refine bind_eq (appT_ok (lim_lt ha)) ?_
    rfl
  · rw [if_neg c, if_neg c]
theorem innerA {i : Nat} (hi : i < rs.length) (s5 : List (Int × (Int × List Int))) (hs : ∀ j : Nat, i < j → j ≤ rs.length → lookT s5 (j : Int) = some (dp ws n pr (rs.drop j))) : ∀ (m j : Nat) (acc : List (Int × List Int)), m + j = rs.length → i < j → acc.length ≤ j → forT (FinA rs ws n pr rs.length i s5) (rngI (j : Int) (m + 1)) acc = some (acc ++ if okR rs n i j = true then cand ws n pr (rs[i]?.getD 0) (rs.drop j) (DPs ws n pr (rs.drop j)) else [])
  | 0, j, acc, hm, hij, hacc => by
    have e : rs.drop j = [] := List.drop_eq_nil_of_le (by omega)
    rw [rngI_succ, rngI_zero, forT_cons]
    refine bind_eq (stepA_eq hl hw hp hp2 hij (by omega) s5 (hs j hij (by omega)) acc (by omega)) ?_
    rw [e]
    show some _ = _
    by_cases c : okR rs n i j = true
    · rw [if_pos c, if_pos c]; rfl
    · rw [if_neg c, if_neg c, List.append_nil]
  | m + 1, j, acc, hm, hij, hacc => by
    have hj : j < rs.length := by omega
    rw [rngI_succ, forT_cons]
    refine bind_eq (stepA_eq hl hw hp hp2 hij (by omega) s5 (hs j hij (by omega)) acc (by omega)) ?_
    have e1 : (j : Int) + 1 = ((j + 1 : Nat) : Int) := by omega
    rw [e1]
    have ih := fun acc h => innerA hi s5 hs m (j + 1) acc (by omega) (by omega) h
    have ed : rs.drop j = rs[j] :: rs.drop (j + 1) := List.drop_eq_getElem_cons hj
    have es := okR_succ hl hw hp hp2 (rs := rs) (n := n) i j hij hj
    by_cases c : okR rs n i j = true
    · rw [if_pos c, if_pos c]
      rw [ih _ (by simp; omega), es, c, Bool.true_and, List.append_assoc, ed, DPs_cons]
      congr 2
      show _ = cand ws n pr (rs[i]?.getD 0) (rs[j] :: rs.drop (j + 1)) (dp ws n pr (rs[j] :: rs.drop (j + 1)) :: DPs ws n pr (rs.drop (j + 1)))
      rw [show ∀ (b : Int × List Int) bs, cand ws n pr (rs[i]?.getD 0) (rs[j] :: rs.drop (j + 1)) (b :: bs) = (1 + pr * waitsS (rs[i]?.getD 0) (some rs[j]) ws n + b.1, (rs[i]?.getD 0) :: b.2) :: (if rs[j] < (rs[i]?.getD 0) + n then cand ws n pr (rs[i]?.getD 0) (rs.drop (j + 1)) bs else []) from fun _ _ => rfl]
      rw [List.singleton_append]
      congr 1
      by_cases x : rs[j] < (rs[i]?.getD 0) + n
      · rw [if_pos x, if_pos (decide_eq_true x), ← DPs_cons]
      · rw [if_neg x, if_neg (by simp [x])]
    · rw [if_neg c, if_neg c]
      have c' : okR rs n i j = false := by simpa using c
      rw [ih _ (by omega), es, c']
      simp
theorem okR_first (i : Nat) : okR rs n i (i + 1) = true := by
  unfold okR
  rw [List.drop_eq_nil_of_le (by rw [List.length_take]; omega)]; rfl
theorem outerA : ∀ (m i : Nat) (s : List (Int × (Int × List Int))), i = m → m ≤ rs.length → s.length ≤ rs.length + 1 - m → (∀ j : Nat, m ≤ j → j ≤ rs.length → lookT s (j : Int) = some (dp ws n pr (rs.drop j))) → Gd (forT (FoutA rs ws n pr rs.length) (rngDI ((m : Int) - 1) m) s) fun s' => lookT s' (0 : Int) = some (dp ws n pr rs)
  | 0, i, s, _, hm, hs, h => Gd.of (by simpa using h 0 (Nat.le_refl _) (Nat.zero_le _))
  | m + 1, i, s, _, hm, hs, h => by
    have hi : m < rs.length := by omega
    rw [rngDI_succ, forT_cons]
    have e0 : ((m + 1 : Nat) : Int) - 1 = (m : Int) := by omega
    rw [e0]
    have step : FoutA rs ws n pr rs.length (m : Int) s = some (putT s (m : Int) (dp ws n pr (rs.drop m))) := by
      unfold FoutA
      refine bind_eq (rng2T_ok (by omega) (by omega) (by omega) (by omega)) ?_
      have e1 : (((rs.length : Int) + 1) - ((m : Int) + 1)).toNat = (rs.length - (m + 1)) + 1 := by omega
      have e2 : (m : Int) + 1 = ((m + 1 : Nat) : Int) := by omega
      rw [e1, e2]
      refine bind_eq (innerA hl hw hp hp2 hi s (fun j h1 h2 => h j (by omega) h2) (rs.length - (m + 1)) (m + 1) [] (by omega) (by omega) (by simp)) ?_
      rw [okR_first hl hw hp hp2, if_pos rfl, List.nil_append]
      have ed : rs.drop m = rs[m] :: rs.drop (m + 1) := List.drop_eq_getElem_cons hi
      have e3 : rs[m]?.getD 0 = rs[m] := by simp [hi]
      rw [e3]
      refine bind_eq (minP_mem (cand_ne _ _ _)).1 ?_
      refine bind_eq (putO_ok (lim_lt (by omega))) ?_
      rw [ed]; rfl
    refine Gd.step step ?_
    refine outerA m m _ rfl (by omega) (by have := putT_len s (m : Int) (dp ws n pr (rs.drop m)); omega) fun j h1 h2 => ?_
    rw [lookT_put]
    by_cases c : m = j
    · subst c; rw [if_pos rfl]
    · rw [if_neg (by omega)]; exact h j (by omega) h2
theorem least_of_dp : T_least_of rs ws n pr = some (dp ws n pr rs) := by
  rw [least_of_eq]
  refine bind_eq rfl ?_
  refine bind_eq rfl ?_
  refine bind_eq (rng3T_dn (by omega) (by omega) (by omega) (by omega)) ?_
  have e1 : (((rs.length : Int) - 1) - -1).toNat = rs.length := by omega
  rw [e1]
  obtain ⟨s', e, h⟩ := outerA hl hw hp hp2 rs.length rs.length [((rs.length : Int), ((0 : Int), ([] : List Int)))] rfl (Nat.le_refl _) (by simp) (fun j h1 h2 => by
    have : j = rs.length := by omega
    subst this
    rw [List.drop_eq_nil_of_le (Nat.le_refl _)]
    show (if (rs.length : Int) = (rs.length : Int) then some ((0 : Int), ([] : List Int)) else none) = _
    rw [if_pos rfl]; rfl)
  refine bind_eq e ?_
  exact bind_eq h rfl
end
end K78

namespace K78
open PySem PySem.Spec PyProof.Rows L2 DL
/-! the law's waits -/
theorem maxT_I (x : Int) (xs : List Int) : maxT ltI (x :: xs) = some (maxI (x :: xs)) := by
  show some (xs.foldl (fun a y => if ltI a y = true then y else a) x) = some (xs.foldl max x)
  congr 2
  funext a y
  show (if decide (a < y) = true then y else a) = max a y
  by_cases h : a < y
  · rw [if_pos (decide_eq_true h)]; omega
  · rw [if_neg (by simp [h])]; omega
theorem law_waits_T (as ws : List Int) (n : Int) (ha : as.length ≤ 1000) (hw : ws.length ≤ 1000) : T__law_waits as ws n = some (lwaits as ws n) := by
  unfold T__law_waits
  have key := forT_fold (f := fun (x_1 : Int) (s_2 : List Int) => ((mapF (fun (x_3 : Int) => (decide (x_3 ≤ x_1))) (fun (x_3 : Int) => (x_3 + n)) as).bind fun v_5 => ((mapF (fun (_ : Int) => true) (fun (x_6 : Int) => (x_6 - x_1)) v_5).bind fun v_8 => ((extT ([0]) v_8).bind fun v_9 => ((maxT ltI v_9).bind fun v_10 => ((appT s_2 v_10).bind fun found_11 => (some found_11))))))) (fun s x => s ++ [lwait as n x]) (fun pre s => s = lwaits as pre n) ws [] [] rfl (fun pre x post s e hs => by
    have hf : (as.filter fun a => decide (a ≤ x)).length ≤ 1000 := Nat.le_trans (List.length_filter_le _ _) ha
    have hlen : pre.length < ws.length := by
      have := congrArg List.length e
      simp at this; omega
    refine ⟨?_, by rw [hs]; simp [lwaits]⟩
    refine bind_eq (mapF_ok (lim_of ha)) ?_
    refine bind_eq (mapT_ok (by rw [List.length_map]; exact lim_of hf)) ?_
    refine bind_eq (extT_ok (by simp [lim]; omega)) ?_
    refine bind_eq (maxT_I _ _) ?_
    refine bind_eq (appT_ok (by rw [hs]; simp [lwaits, lim]; omega)) ?_
    rw [List.map_map]; rfl)
  refine bind_eq key.1 ?_
  rw [key.2]; rfl
theorem law_waitsL_T (as ws : List Int) (n : Int) (ha : as.length ≤ 1000) (hw : ws.length ≤ 1000) : T__law_waitsL as ws n = some (lwaits as ws n) := law_waits_T as ws n ha hw
theorem law_waitsM_T (as ws : List Int) (n : Int) (ha : as.length ≤ 1000) (hw : ws.length ≤ 1000) : T__law_waitsM as ws n = some (lwaits as ws n) := law_waits_T as ws n ha hw
def endB (l : Option Int) (w : Int) : Bool := match l with | none => true | some l => decide (w < l)
theorem waits_one (r n : Int) (l : Option Int) : ∀ ws : List Int, (lwaits [r] (ws.filter fun w => decide (r ≤ w) && endB l w) n).sum = waitsS r l ws n
  | [] => rfl
  | w :: ws => by
    have ih := waits_one r n l ws
    unfold lwaits waitsS at ih ⊢
    by_cases h1 : r ≤ w
    · by_cases h2 : endB l w = true
      · have hl : lwait [r] n w = max 0 (r + n - w) := by
          unfold lwait
          simp [h1, maxI]
        rw [List.filter_cons_of_pos (by simp [h1, h2]), List.map_cons, List.sum_cons, ih, hl]
        by_cases h3 : w < r + n
        · have hq : qW r n l w = true := by
            unfold qW
            cases l with
            | none => simp [h1, h3]
            | some l => simpa [h1, h3, endB] using h2
          rw [List.filter_cons_of_pos hq, List.map_cons, List.sum_cons]
          omega
        · have hq : ¬ qW r n l w = true := by
            unfold qW
            simp [h3]
          rw [List.filter_cons_of_neg hq]
          omega
      · have hq : ¬ qW r n l w = true := by
          unfold qW
          cases l with
          | none => simp [endB] at h2
          | some l => simp [endB] at h2 ⊢; intro _ _; exact h2
        rw [List.filter_cons_of_neg (by simp [h2]), List.filter_cons_of_neg hq, ih]
    · have hq : ¬ qW r n l w = true := by
        unfold qW
        simp [h1]
      rw [List.filter_cons_of_neg (by simp [h1]), List.filter_cons_of_neg hq, ih]
/-! the law's table -/
def FinB (a_reads a_writes : List Int) (a_length a_price x_3 : Int) (s_4 : List (Int × Int)) (x_6 : Int) (s_7 : List Int) : Option (List Int) := ((orO ((decide (x_6 = (x_3 + 1)))) (((atI a_reads ((x_6 - 1))).bind fun v_8 => ((atI a_reads x_3).bind fun v_9 => (some ((decide (v_8 < (v_9 + a_length))))))))).bind fun b_10 => (if b_10 = true then ((if (decide (x_6 < (a_reads.length : Int))) = true then ((atI a_reads x_6).bind fun v_11 => (some ((some v_11)))) else (some none)).bind fun v_12 => ((lcT (fun (x_13 : Int) => ((atI a_reads x_3).bind fun v_15 => ((andO ((decide (v_15 ≤ x_13))) (((orO ((!v_12.isSome)) (((v_12).bind fun end_16 => (some ((decide (x_13 < end_16))))))).bind fun b_17 => (some b_17)))).bind fun b_18 => (if b_18 = true then (some ((some x_13))) else (some none))))) a_writes).bind fun v_19 => ((atI a_reads x_3).bind fun v_20 => ((T__law_waitsL ([v_20]) v_19 a_length).bind fun r_21 => ((mulT a_price r_21.sum).bind fun v_22 => ((lookT s_4 x_6).bind fun v_23 => ((appT s_7 (((1 + v_22) + v_23))).bind fun costs_24 => (some costs_24)))))))) else (some s_7)))
def FoutB (a_reads a_writes : List Int) (a_length a_price : Int) (x_3 : Int) (s_4 : List (Int × Int)) : Option (List (Int × Int)) := ((rng2T ((x_3 + 1)) (((a_reads.length : Int) + 1))).bind fun v_5 => ((forT (FinB a_reads a_writes a_length a_price x_3 s_4) v_5 []).bind fun s_25 => ((minT ltI s_25).bind fun v_26 => ((putO s_4 x_3 v_26).bind fun found_27 => (some found_27)))))
theorem law_least_eq (rs ws : List Int) (n pr : Int) : T__law_least rs ws n pr = (((some ([((rs.length : Int), 0)]))).bind fun found_1 => ((rng3T (((rs.length : Int) - 1)) ((-1)) ((-1))).bind fun v_2 => ((forT (FoutB rs ws n pr) v_2 found_1).bind fun s_28 => ((lookT s_28 (0)).bind fun v_29 => (some v_29))))) := rfl
theorem min_fst : ∀ l : List (Int × List Int), minT ltI (l.map (·.1)) = (minT ltc l).map (·.1)
  | [] => rfl
  | x :: xs => by
    show some (List.foldl _ _ _) = some _
    congr 1
    have : ∀ (xs : List (Int × List Int)) (a : Int × List Int), (xs.map (·.1)).foldl (fun a y => if ltI y a = true then y else a) a.1 = (xs.foldl (fun a y => if ltc y a = true then y else a) a).1 := by
      intro xs
      induction xs with
      | nil => intro a; rfl
      | cons y xs ih =>
        intro a
        rw [List.map_cons, List.foldl_cons, List.foldl_cons, ← ih]
        congr 1
        show (if decide (y.1 < a.1) = true then y.1 else a.1) = _
        have hl : ltc y a = (if y.1 = a.1 then ltL ltI y.2 a.2 else decide (y.1 < a.1)) := rfl
        rw [hl]
        by_cases h : y.1 = a.1
        · rw [if_pos h]
          have : ¬ y.1 < a.1 := by omega
          simp [this]
          split <;> simp [h]
        · rw [if_neg h]
          by_cases h2 : y.1 < a.1
          · simp [h2]
          · simp [h2]
    exact this xs x
section
variable {rs ws : List Int} {n pr : Int} (hl : rs.length ≤ 1000) (hw : ws.length ≤ 1000) (hp : 0 ≤ pr) (hp2 : pr ≤ 1000000) (hr : rs.Pairwise (· < ·))
include hl hw hp hp2 hr
def flB (rs : List Int) (n : Int) (i j : Nat) : Bool := decide (j = i + 1) || decide ((rs[j - 1]?.getD 0) < (rs[i]?.getD 0) + n)
theorem stepB_eq {i j : Nat} (hij : i < j) (hj : j ≤ rs.length) (s4 : List (Int × Int)) (hs : lookT s4 (j : Int) = some (dp ws n pr (rs.drop j)).1) (acc : List Int) (ha : acc.length ≤ 1000) : FinB rs ws n pr i s4 j acc = some (if flB rs n i j = true then acc ++ [1 + pr * waitsS (rs[i]?.getD 0) (rs.drop j).head? ws n + (dp ws n pr (rs.drop j)).1] else acc) := by
  have hi : i < rs.length := by omega
  have e4 : rs[i]?.getD 0 = rs[i] := by simp [hi]
  unfold FinB
  have e0 : (orO (decide ((j : Int) = ((i : Int) + 1))) (((atI rs (((j : Int) - 1))).bind fun v_8 => ((atI rs (i : Int)).bind fun v_9 => (some ((decide (v_8 < (v_9 + n))))))))) = some (flB rs n i j) := by
    have h1 : (j : Int) - 1 = ((j - 1 : Nat) : Int) := by omega
    have hj1 : j - 1 < rs.length := by omega
    rw [h1, atI_some hj1, atI_some hi]
    unfold orO flB
    by_cases c : j = i + 1
    · have : (j : Int) = (i : Int) + 1 := by omega
      simp [c, this]
    · have : ¬ (j : Int) = (i : Int) + 1 := by omega
      simp [c, this, hj1, hi]
  refine bind_eq e0 ?_
  by_cases c : flB rs n i j = true
  · rw [if_pos c, if_pos c]
    have e3 : (if (decide ((j : Int) < (rs.length : Int))) = true then ((atI rs (j : Int)).bind fun v_15 => (some ((some v_15)))) else (some none)) = some (rs.drop j).head? := by
      rw [List.head?_drop]
      by_cases h : j < rs.length
      · rw [if_pos (decide_eq_true (by omega)), atI_some h]
        simp [h]
      · rw [if_neg (by simp; omega), List.getElem?_eq_none (by omega)]
    refine bind_eq e3 ?_
    refine bind_eq (lcT_filter (c := fun w => decide (rs[i] ≤ w) && endB (rs.drop j).head? w) (lim_of hw) (fun w _ => ?_)) ?_
    · rw [atI_some hi]
      generalize (rs.drop j).head? = l
      cases l with
      | none => by_cases h1 : rs[i] ≤ w <;> simp [andO, orO, endB, h1]
      | some l => by_cases h1 : rs[i] ≤ w <;> by_cases h2 : w < l <;> simp [andO, orO, endB, h1, h2]
    refine bind_eq (atI_some hi) ?_
    refine bind_eq (law_waitsL_T _ _ _ (by simp) (Nat.le_trans (List.length_filter_le _ _) hw)) ?_
    refine bind_eq (mulT_l (by omega) (by omega)) ?_
    refine bind_eq hs ?_
    refine bind_eq (appT_ok (lim_lt ha)) ?_
    rw [waits_one, e4]
  · rw [if_neg c, if_neg c]
theorem innerB {i : Nat} (hi : i < rs.length) (s4 : List (Int × Int)) (hs : ∀ j : Nat, i < j → j ≤ rs.length → lookT s4 (j : Int) = some (dp ws n pr (rs.drop j)).1) : ∀ (m j : Nat) (acc : List Int), m + j = rs.length → i < j → acc.length ≤ j → forT (FinB rs ws n pr i s4) (rngI (j : Int) (m + 1)) acc = some (acc ++ if flB rs n i j = true then (cand ws n pr (rs[i]?.getD 0) (rs.drop j) (DPs ws n pr (rs.drop j))).map (·.1) else [])
  | 0, j, acc, hm, hij, hacc => by
    have e : rs.drop j = [] := List.drop_eq_nil_of_le (by omega)
    rw [rngI_succ, rngI_zero, forT_cons]
    refine bind_eq (stepB_eq hl hw hp hp2 hr hij (by omega) s4 (hs j hij (by omega)) acc (by omega)) ?_
    rw [e]
    show some _ = _
    by_cases c : flB rs n i j = true
    · rw [if_pos c, if_pos c]; rfl
    · rw [if_neg c, if_neg c, List.append_nil]
  | m + 1, j, acc, hm, hij, hacc => by
    have hj : j < rs.length := by omega
    rw [rngI_succ, forT_cons]
    refine bind_eq (stepB_eq hl hw hp hp2 hr hij (by omega) s4 (hs j hij (by omega)) acc (by omega)) ?_
    have e1 : (j : Int) + 1 = ((j + 1 : Nat) : Int) := by omega
    rw [e1]
    have ih := fun acc h => innerB hi s4 hs m (j + 1) acc (by omega) (by omega) h
    have ed : rs.drop j = rs[j] :: rs.drop (j + 1) := List.drop_eq_getElem_cons hj
    have ej : rs[j]?.getD 0 = rs[j] := by simp [hj]
    have es : flB rs n i (j + 1) = decide (rs[j] < (rs[i]?.getD 0) + n) := by
      unfold flB
      have : ¬ j + 1 = i + 1 := by omega
      have h2 : ¬ j = i := by omega
      simp [h2, hj]
    by_cases c : flB rs n i j = true
    · rw [if_pos c, if_pos c]
      rw [ih _ (by simp; omega), es, List.append_assoc, ed, DPs_cons]
      congr 2
      show _ = List.map _ (cand ws n pr (rs[i]?.getD 0) (rs[j] :: rs.drop (j + 1)) (dp ws n pr (rs[j] :: rs.drop (j + 1)) :: DPs ws n pr (rs.drop (j + 1))))
      rw [show ∀ (b : Int × List Int) bs, cand ws n pr (rs[i]?.getD 0) (rs[j] :: rs.drop (j + 1)) (b :: bs) = (1 + pr * waitsS (rs[i]?.getD 0) (some rs[j]) ws n + b.1, (rs[i]?.getD 0) :: b.2) :: (if rs[j] < (rs[i]?.getD 0) + n then cand ws n pr (rs[i]?.getD 0) (rs.drop (j + 1)) bs else []) from fun _ _ => rfl]
      rw [List.singleton_append, List.map_cons]
      congr 1
      by_cases x : rs[j] < (rs[i]?.getD 0) + n
      · rw [if_pos x, if_pos (decide_eq_true x), ← DPs_cons]
      · rw [if_neg x, if_neg (by simp [x])]; rfl
    · rw [if_neg c, if_neg c]
      have c' : ¬ (rs[j] < (rs[i]?.getD 0) + n) := by
        unfold flB at c
        intro z
        have h1 : ¬ j = i + 1 := fun q => c (by simp [q])
        have h2 : rs[j - 1]?.getD 0 = rs[j - 1] := by simp [show j - 1 < rs.length by omega]
        have h3 : rs[j - 1] < rs[j] := List.pairwise_iff_getElem.mp hr (j - 1) j (by omega) hj (by omega)
        apply c
        rw [h2]
        simp
        exact .inr (by omega)
      rw [ih _ (by omega), es]
      simp [c']
theorem outerB : ∀ (m i : Nat) (s : List (Int × Int)), i = m → m ≤ rs.length → s.length ≤ rs.length + 1 - m → (∀ j : Nat, m ≤ j → j ≤ rs.length → lookT s (j : Int) = some (dp ws n pr (rs.drop j)).1) → Gd (forT (FoutB rs ws n pr) (rngDI ((m : Int) - 1) m) s) fun s' => lookT s' (0 : Int) = some (dp ws n pr rs).1
  | 0, i, s, _, hm, hs, h => Gd.of (by simpa using h 0 (Nat.le_refl _) (Nat.zero_le _))
  | m + 1, i, s, _, hm, hs, h => by
    have hi : m < rs.length := by omega
    rw [rngDI_succ, forT_cons]
    have e0 : ((m + 1 : Nat) : Int) - 1 = (m : Int) := by omega
    rw [e0]
    have step : FoutB rs ws n pr (m : Int) s = some (putT s (m : Int) (dp ws n pr (rs.drop m)).1) := by
      unfold FoutB
      refine bind_eq (rng2T_ok (by omega) (by omega) (by omega) (by omega)) ?_
      have e1 : (((rs.length : Int) + 1) - ((m : Int) + 1)).toNat = (rs.length - (m + 1)) + 1 := by omega
      have e2 : (m : Int) + 1 = ((m + 1 : Nat) : Int) := by omega
      rw [e1, e2]
      refine bind_eq (innerB hl hw hp hp2 hr hi s (fun j h1 h2 => h j (by omega) h2) (rs.length - (m + 1)) (m + 1) [] (by omega) (by omega) (by simp)) ?_
      have ef : flB rs n m (m + 1) = true := by unfold flB; simp
      rw [ef, if_pos rfl, List.nil_append]
      have ed : rs.drop m = rs[m] :: rs.drop (m + 1) := List.drop_eq_getElem_cons hi
      have e3 : rs[m]?.getD 0 = rs[m] := by simp [hi]
      rw [e3, min_fst, (minP_mem (cand_ne _ _ _)).1]
      refine bind_eq rfl ?_
      refine bind_eq (putO_ok (lim_lt (by omega))) ?_
      rw [ed]; rfl
    refine Gd.step step ?_
    refine outerB m m _ rfl (by omega) (by have := putT_len s (m : Int) (dp ws n pr (rs.drop m)).1; omega) fun j h1 h2 => ?_
    rw [lookT_put]
    by_cases c : m = j
    · subst c; rw [if_pos rfl]
    · rw [if_neg (by omega)]; exact h j (by omega) h2
theorem law_least_dp : T__law_least rs ws n pr = some (dp ws n pr rs).1 := by
  rw [law_least_eq]
  refine bind_eq rfl ?_
  refine bind_eq (rng3T_dn (by omega) (by omega) (by omega) (by omega)) ?_
  have e1 : (((rs.length : Int) - 1) - -1).toNat = rs.length := by omega
  rw [e1]
  obtain ⟨s', e, h⟩ := outerB hl hw hp hp2 hr rs.length rs.length [((rs.length : Int), (0 : Int))] rfl (Nat.le_refl _) (by simp) (fun j h1 h2 => by
    have : j = rs.length := by omega
    subst this
    rw [List.drop_eq_nil_of_le (Nat.le_refl _)]
    show (if (rs.length : Int) = (rs.length : Int) then some (0 : Int) else none) = _
    rw [if_pos rfl]; rfl)
  refine bind_eq e ?_
  exact bind_eq h rfl
end
end K78

namespace K78
open PySem PySem.Spec PyProof.Rows L2 DL
theorem sorted_ext : ∀ {a b : List Int}, a.Pairwise (· < ·) → b.Pairwise (· < ·) → (∀ x, x ∈ a ↔ x ∈ b) → a = b
  | [], [], _, _, _ => rfl
  | [], y :: b, _, _, h => by have := (h y).mpr (List.mem_cons_self ..); cases this
  | x :: a, [], _, _, h => by have := (h x).mp (List.mem_cons_self ..); cases this
  | x :: a, y :: b, ha, hb, h => by
    obtain ⟨ha1, ha2⟩ := List.pairwise_cons.mp ha
    obtain ⟨hb1, hb2⟩ := List.pairwise_cons.mp hb
    have exy : x = y := by
      have h1 := (h x).mp (List.mem_cons_self ..)
      have h2 := (h y).mpr (List.mem_cons_self ..)
      rcases List.mem_cons.mp h1 with e | m
      · exact e
      · rcases List.mem_cons.mp h2 with e | m2
        · exact e.symm
        · have := ha1 y m2; have := hb1 x m; omega
    subst exy
    congr 1
    refine sorted_ext ha2 hb2 fun z => ?_
    have := h z
    simp only [List.mem_cons] at this
    constructor
    · intro m
      rcases this.mp (.inr m) with e | e
      · subst e; have := ha1 _ m; omega
      · exact e
    · intro m
      rcases this.mpr (.inr m) with e | e
      · subst e; have := hb1 _ m; omega
      · exact e
/-! done -/
theorem fold_shift (n w : Int) : ∀ (l : List Int) (c : Int), (l.map fun b => b + n).foldl max (w + c) = w + (l.map fun a => a + n - w).foldl max c
  | [], c => rfl
  | x :: l, c => by
    rw [List.map_cons, List.map_cons, List.foldl_cons, List.foldl_cons, ← fold_shift n w l]
    congr 1
    omega
theorem done_law (ws gs : List Int) (n : Int) : doneL ws gs n = (ws.zip (lwaits gs ws n)).map fun p => p.1 + p.2 := by
  unfold doneL lwaits
  induction ws with
  | nil => rfl
  | cons w ws ih =>
    rw [List.map_cons, List.map_cons, List.zip_cons_cons, List.map_cons, ih]
    congr 1
    have := fold_shift n w (gs.filter fun b => decide (b ≤ w)) 0
    rw [Int.add_zero] at this
    exact this
/-! waits, by the ones that ask -/
theorem lwait_nil (n w : Int) : lwait [] n w = 0 := rfl
theorem fold_max_le : ∀ (l : List Int) (c : Int), c ≤ l.foldl max c
  | [], c => Int.le_refl _
  | x :: l, c => by rw [List.foldl_cons]; have := fold_max_le l (max c x); omega
theorem fold_max_mem : ∀ (l : List Int) (c x : Int), x ∈ l → x ≤ l.foldl max c
  | y :: l, c, x, h => by
    rw [List.foldl_cons]
    rcases List.mem_cons.mp h with rfl | h
    · have := fold_max_le l (max c x); omega
    · exact fold_max_mem l _ x h
theorem fold_max_ub : ∀ (l : List Int) (c u : Int), c ≤ u → (∀ x ∈ l, x ≤ u) → l.foldl max c ≤ u
  | [], c, u, h, _ => h
  | y :: l, c, u, h, k => by
    rw [List.foldl_cons]
    exact fold_max_ub l _ u (by have := k y (List.mem_cons_self ..); omega) fun x hx => k x (List.mem_cons_of_mem _ hx)
def contr (b n : Int) (l : Option Int) (w : Int) : Int := if b ≤ w ∧ endB l w = true then max 0 (b + n - w) else 0
theorem lwait_cons {b : Int} {so : List Int} (h : (b :: so).Pairwise (· < ·)) (n w : Int) : lwait (b :: so) n w = contr b n so.head? w + lwait so n w := by
  obtain ⟨h1, h2⟩ := List.pairwise_cons.mp h
  unfold contr
  by_cases hb : b ≤ w
  · have e1 : lwait (b :: so) n w = ((so.filter fun a => decide (a ≤ w)).map fun a => a + n - w).foldl max (max 0 (b + n - w)) := by
      unfold lwait maxI
      rw [List.filter_cons_of_pos (by simpa using hb), List.map_cons]; rfl
    rw [e1]
    cases so with
    | nil => simp [hb, endB, lwait_nil]
    | cons c so =>
      by_cases hc : c ≤ w
      · have hn : ¬ endB (c :: so).head? w = true := by simp [endB]; omega
        rw [if_neg (fun z => hn z.2), Int.zero_add]
        have e2 : lwait (c :: so) n w = ((so.filter fun a => decide (a ≤ w)).map fun a => a + n - w).foldl max (max 0 (c + n - w)) := by
          unfold lwait maxI
          rw [List.filter_cons_of_pos (by simpa using hc), List.map_cons]; rfl
        rw [e2, List.filter_cons_of_pos (by simpa using hc), List.map_cons, List.foldl_cons]
        have := h1 c (List.mem_cons_self ..)
        congr 1
        omega
      · have hn : endB (c :: so).head? w = true := by simp [endB]; omega
        rw [if_pos ⟨hb, hn⟩]
        have e3 : (c :: so).filter (fun a => decide (a ≤ w)) = [] := by
          rw [List.filter_eq_nil_iff]
          intro a ha
          rcases List.mem_cons.mp ha with rfl | ha
          · simpa using hc
          · have := (List.pairwise_cons.mp h2).1 a ha
            simp; omega
        have e4 : lwait (c :: so) n w = 0 := by unfold lwait; rw [e3]; rfl
        rw [e3, e4]; simp
  · rw [if_neg (fun z => hb z.1), Int.zero_add]
    unfold lwait
    rw [List.filter_cons_of_neg (by simpa using hb)]
theorem sum_contr (b n : Int) (l : Option Int) : ∀ ws : List Int, (ws.map (contr b n l)).sum = waitsS b l ws n
  | [] => rfl
  | w :: ws => by
    have ih := sum_contr b n l ws
    rw [List.map_cons, List.sum_cons, ih]
    unfold waitsS contr
    by_cases h1 : b ≤ w
    · by_cases h2 : endB l w = true
      · rw [if_pos ⟨h1, h2⟩]
        by_cases h3 : w < b + n
        · have hq : qW b n l w = true := by
            unfold qW
            cases l with
            | none => simp [h1, h3]
            | some l => simpa [h1, h3, endB] using h2
          rw [List.filter_cons_of_pos hq, List.map_cons, List.sum_cons]
          omega
        · have hq : ¬ qW b n l w = true := by unfold qW; simp [h3]
          rw [List.filter_cons_of_neg hq]
          omega
      · have hq : ¬ qW b n l w = true := by
          unfold qW
          cases l with
          | none => simp [endB] at h2
          | some l => simp [endB] at h2 ⊢; intro _ _; exact h2
        rw [if_neg (fun z => h2 z.2), List.filter_cons_of_neg hq]; omega
    · have hq : ¬ qW b n l w = true := by unfold qW; simp [h1]
      rw [if_neg (fun z => h1 z.1), List.filter_cons_of_neg hq]; omega
theorem sum_map_add (f g : Int → Int) : ∀ ws : List Int, (ws.map fun w => f w + g w).sum = (ws.map f).sum + (ws.map g).sum
  | [] => rfl
  | w :: ws => by
    rw [List.map_cons, List.map_cons, List.map_cons, List.sum_cons, List.sum_cons, List.sum_cons, sum_map_add f g ws]; omega
theorem tot_waits (ws : List Int) (n pr : Int) (s0 : List Int) : ∀ (so : List Int) (t : Int), so.Pairwise (· < ·) → totC s0 ws n pr so t = t + so.length + pr * (lwaits so ws n).sum
  | [], t, _ => by
    have : (lwaits [] ws n).sum = 0 := by
      unfold lwaits
      induction ws with
      | nil => rfl
      | cons w ws ih => rw [List.map_cons, List.sum_cons, ih, lwait_nil]; rfl
    show t = _
    rw [this]; simp
  | b :: so, t, h => by
    unfold totC
    rw [tot_waits ws n pr s0 so _ (List.pairwise_cons.mp h).2]
    have e : (lwaits (b :: so) ws n).sum = waitsS b so.head? ws n + (lwaits so ws n).sum := by
      unfold lwaits
      rw [← sum_contr, ← sum_map_add]
      congr 2
      funext w
      exact lwait_cons h n w
    rw [e, Int.mul_add, List.length_cons]
    omega
/-! the walk over the reads -/
theorem maxI_last : ∀ {l : List Int}, l.Pairwise (· < ·) → ∀ z, l.getLast? = some z → maxI l = z := by
  intro l h z hz
  cases l with
  | nil => cases hz
  | cons x xs =>
    show xs.foldl max x = z
    have hm : z ∈ x :: xs := List.mem_of_getLast? hz
    apply Int.le_antisymm
    · have hall : ∀ y ∈ x :: xs, y ≤ z := by
        rw [List.getLast?_eq_some_iff] at hz
        obtain ⟨ys, e⟩ := hz
        intro y hy
        rw [e] at hy h
        rcases List.mem_append.mp hy with hy | hy
        · have := (List.pairwise_append.mp h).2.2 y hy z (List.mem_singleton.mpr rfl); omega
        · rw [List.mem_singleton.mp hy]; omega
      exact fold_max_ub xs x z (hall x (List.mem_cons_self ..)) fun y hy => hall y (List.mem_cons_of_mem _ hy)
    · rcases List.mem_cons.mp hm with rfl | hm
      · exact fold_max_le xs z
      · exact fold_max_mem xs x z hm
theorem walk_all {rs so : List Int} {n : Int} (hr : rs.Pairwise (· < ·)) (hs : so.Pairwise (· < ·)) (hsub : ∀ a ∈ so, a ∈ rs) (hn : 1 ≤ n) : ∀ (post pre : List Int), rs = pre ++ post → walkC so n post ((pre.filter fun x => decide (x ∈ so)).getLast?) = post.all fun b => match (so.filter fun a => decide (a ≤ b)).getLast? with | none => false | some z => !decide (n ≤ b - z)
  | [], pre, e => rfl
  | b :: post, pre, e => by
    have ih := walk_all hr hs hsub hn post (pre ++ [b]) (by rw [e]; simp)
    have hpb : ∀ x ∈ pre, x < b := by
      rw [e] at hr
      intro x hx
      exact (List.pairwise_append.mp hr).2.2 x hx b (List.mem_cons_self ..)
    have hbp : ∀ x ∈ post, b < x := by
      rw [e] at hr
      exact (List.pairwise_cons.mp (List.pairwise_append.mp hr).2.1).1
    have ef : so.filter (fun a => decide (a ≤ b)) = (pre ++ [b]).filter fun x => decide (x ∈ so) := by
      refine sorted_ext (hs.filter _) ?_ fun x => ?_
      · refine List.Pairwise.filter _ ?_
        rw [e, ← List.singleton_append, ← List.append_assoc] at hr
        exact (List.pairwise_append.mp hr).1
      · rw [List.mem_filter, List.mem_filter]
        simp only [decide_eq_true_eq]
        constructor
        · rintro ⟨h1, h2⟩
          refine ⟨?_, h1⟩
          have := hsub x h1
          rw [e] at this
          rcases List.mem_append.mp this with m | m
          · exact List.mem_append_left _ m
          · rcases List.mem_cons.mp m with rfl | m
            · simp
            · have := hbp x m; omega
        · rintro ⟨h1, h2⟩
          refine ⟨h2, ?_⟩
          rcases List.mem_append.mp h1 with m | m
          · have := hpb x m; omega
          · rw [List.mem_singleton.mp m]; omega
    rw [List.all_cons, ef]
    by_cases m : b ∈ so
    · have e1 : (pre ++ [b]).filter (fun x => decide (x ∈ so)) = pre.filter (fun x => decide (x ∈ so)) ++ [b] := by
        rw [List.filter_append]; simp [m]
      rw [e1] at ih ⊢
      rw [List.getLast?_append] at ih ⊢
      simp at ih ⊢
      unfold walkC
      rw [if_pos m, ih]
      have : ¬ n ≤ 0 := by omega
      simp [this]
    · have e1 : (pre ++ [b]).filter (fun x => decide (x ∈ so)) = pre.filter (fun x => decide (x ∈ so)) := by
        rw [List.filter_append]; simp [m]
      rw [e1] at ih ⊢
      unfold walkC
      rw [if_neg m]
      cases el : (pre.filter fun x => decide (x ∈ so)).getLast? with
      | none => rfl
      | some z =>
        rw [el] at ih
        dsimp only
        by_cases c : z + n ≤ b
        · have : n ≤ b - z := by omega
          simp [c, this]
        · have : ¬ n ≤ b - z := by omega
          rw [if_neg c, ih]; simp [this]
theorem cost_same {rs ws so : List Int} {n pr : Int} (hr : rs.Pairwise (· < ·)) (hs : so.Pairwise (· < ·)) (hsub : ∀ a ∈ so, a ∈ rs) (hn : 1 ≤ n) (hne : rs ≠ []) : lcost rs ws so n pr = costC rs ws so n pr := by
  have hw := walk_all hr hs hsub hn rs [] rfl
  have hw : walkC so n rs none = _ := hw
  unfold lcost costC
  rw [hw]
  -- none ahead of the first
  cases rs with
  | nil => exact absurd rfl hne
  | cons r rest =>
    obtain ⟨hr1, hr2⟩ := List.pairwise_cons.mp hr
    by_cases ht : so.take 1 = (r :: rest).take 1
    · rw [if_pos ht]
      obtain ⟨so', rfl⟩ : ∃ so', so = r :: so' := by
        cases so with
        | nil => cases ht
        | cons a so' => simp at ht; exact ⟨so', by rw [ht]⟩
      have hget : ∀ b ∈ r :: rest, ∃ z, ((r :: so').filter fun a => decide (a ≤ b)).getLast? = some z ∧ maxI ((r :: so').filter fun a => decide (a ≤ b)) = z := by
        intro b hb
        have hrb : r ≤ b := by
          rcases List.mem_cons.mp hb with rfl | hb
          · omega
          · have := hr1 b hb; omega
        rw [List.filter_cons_of_pos (by simpa using hrb)]
        cases e : (r :: so'.filter fun a => decide (a ≤ b)).getLast? with
        | none => simp at e
        | some z =>
          refine ⟨z, rfl, maxI_last ?_ z e⟩
          have := hs.filter (fun a => decide (a ≤ b))
          rw [List.filter_cons_of_pos (by simpa using hrb)] at this
          exact this
      have hall : ((r :: rest).all fun b => match ((r :: so').filter fun a => decide (a ≤ b)).getLast? with | none => false | some z => !decide (n ≤ b - z)) = !(r :: rest).any (farB (r :: so') n) := by
        rw [Bool.eq_iff_iff, List.all_eq_true, Bool.not_eq_true', List.any_eq_false]
        constructor
        · intro h b hb
          obtain ⟨z, e1, e2⟩ := hget b hb
          have := h b hb
          rw [e1] at this
          unfold farB; rw [e2]; simpa using this
        · intro h b hb
          obtain ⟨z, e1, e2⟩ := hget b hb
          have := h b hb
          unfold farB at this
          rw [e2] at this
          rw [e1]; simpa using this
      rw [hall]
      cases hany : (r :: rest).any (farB (r :: so') n) with
      | true => rfl
      | false =>
        rw [if_neg (by simp), if_pos (by rfl), tot_waits ws n pr _ _ 0 hs, Int.zero_add]
    · rw [if_neg ht, if_neg]
      rw [List.all_cons, Bool.and_eq_true]
      rintro ⟨h, _⟩
      have e0 : so.filter (fun a => decide (a ≤ r)) = [] := by
        rw [List.filter_eq_nil_iff]
        intro a ha hle
        have hle : a ≤ r := by simpa using hle
        have hm := hsub a ha
        have ear : a = r := by
          rcases List.mem_cons.mp hm with e | m
          · exact e
          · have := hr1 a m; omega
        subst ear
        apply ht
        -- the first of so is the least of the reads
        cases so with
        | nil => cases ha
        | cons c so' =>
          rcases List.mem_cons.mp ha with e | m
          · rw [e]; rfl
          · have h1 := (List.pairwise_cons.mp hs).1 a m
            rcases List.mem_cons.mp (hsub c (List.mem_cons_self ..)) with e | m2
            · omega
            · have := hr1 c m2; omega
      rw [e0] at h
      cases h
end K78

namespace K78
open PySem PySem.Spec PyProof.Rows L2 DL
/-! the best row costs so much -/
variable {ws : List Int} {n pr : Int}
theorem walk_pre (S : List Int) (r : Int) (post : List Int) : ∀ pre : List Int, (∀ x ∈ pre, x ∉ S ∧ x < r + n) → walkC S n (pre ++ post) (some r) = walkC S n post (some r)
  | [], _ => rfl
  | x :: pre, h => by
    obtain ⟨h1, h2⟩ := h x (List.mem_cons_self ..)
    show (if x ∈ S then walkC S n (pre ++ post) (some x) else if r + n ≤ x then false else walkC S n (pre ++ post) (some r)) = _
    rw [if_neg h1, if_neg (by omega)]
    exact walk_pre S r post pre fun y hy => h y (List.mem_cons_of_mem _ hy)
theorem Row.walk (S : List Int) {xs : List Int} {z : Int × List Int} (h : Row ws n pr xs z) : xs.Pairwise (· < ·) → (∀ x ∈ xs, x ∈ S ↔ x ∈ z.2) → ∀ l, walkC S n xs l = true := by
  induction h with
  | nil => intro _ _ l; rfl
  | @cons r pre post b hp hrow ih =>
    intro hs hS l
    obtain ⟨hs1, hs2⟩ := List.pairwise_cons.mp hs
    obtain ⟨hs3, hs4, hs5⟩ := List.pairwise_append.mp hs2
    have hr : r ∈ S := (hS r (List.mem_cons_self ..)).mpr (List.mem_cons_self ..)
    have e0 : walkC S n (r :: (pre ++ post)) l = walkC S n (pre ++ post) (some r) := by
      have e : walkC S n (r :: (pre ++ post)) l = (if r ∈ S then walkC S n (pre ++ post) (some r) else match l with
        | none => false
        | some z => if z + n ≤ r then false else walkC S n (pre ++ post) l) := rfl
      rw [e, if_pos hr]
    rw [e0, walk_pre S r post pre]
    · refine ih hs4 (fun x hx => ?_) _
      rw [hS x (List.mem_cons_of_mem _ (List.mem_append_right _ hx)), List.mem_cons]
      constructor
      · rintro (e | e)
        · subst e; have := hs1 x (List.mem_append_right _ hx); omega
        · exact e
      · exact .inr
    · intro x hx
      refine ⟨fun hm => ?_, hp x hx⟩
      have := (hS x (List.mem_cons_of_mem _ (List.mem_append_left _ hx))).mp hm
      rcases List.mem_cons.mp this with e | e
      · subst e; have := hs1 x (List.mem_append_left _ hx); omega
      · have h1 := hrow.sub.subset e
        have := hs5 x hx x h1; omega
theorem Row.tot (S : List Int) {xs : List Int} {z : Int × List Int} (h : Row ws n pr xs z) : ∀ t, totC S ws n pr z.2 t = t + z.1 := by
  induction h with
  | nil => intro t; show t = t + 0; omega
  | @cons r pre post b hp hrow ih =>
    intro t
    show totC S ws n pr b.2 (t + 1 + pr * waitsS r b.2.head? ws n) = _
    rw [ih, hrow.head]; omega
theorem dp_cost (rs : List Int) (hr : rs.Pairwise (· < ·)) : costC rs ws (dp ws n pr rs).2 n pr = some (dp ws n pr rs).1 := by
  have h := dp_row (ws := ws) (n := n) (pr := pr) rs
  unfold costC
  rw [h.walk _ hr (fun x _ => Iff.rfl), if_pos rfl, h.tot]
  rw [Int.zero_add]
theorem waits_bd (b : Int) (l : Option Int) (hn : 0 ≤ n) : ∀ ws : List Int, 0 ≤ waitsS b l ws n ∧ waitsS b l ws n ≤ ws.length * n
  | [] => by
    show 0 ≤ (0 : Int) ∧ (0 : Int) ≤ ((0 : Nat) : Int) * n
    simp
  | w :: ws => by
    have ih := waits_bd b l hn ws
    unfold waitsS at ih ⊢
    have e : ((w :: ws).length : Int) * n = ws.length * n + n := by
      rw [List.length_cons]; rw [show (((ws.length + 1 : Nat)) : Int) = (ws.length : Int) + 1 by omega, Int.add_mul]; omega
    rw [e]
    by_cases h : qW b n l w = true
    · rw [List.filter_cons_of_pos h, List.map_cons, List.sum_cons]
      unfold qW at h
      rw [Bool.and_eq_true, Bool.and_eq_true] at h
      have h1 := of_decide_eq_true h.1.1
      have h2 := of_decide_eq_true h.1.2
      omega
    · rw [List.filter_cons_of_neg h]; omega
theorem Row.bd {xs : List Int} {z : Int × List Int} (h : Row ws n pr xs z) (hn : 0 ≤ n) (hp : 0 ≤ pr) : 0 ≤ z.1 ∧ z.1 ≤ z.2.length * (1 + pr * (ws.length * n)) := by
  induction h with
  | nil => show 0 ≤ (0 : Int) ∧ (0 : Int) ≤ ((0 : Nat) : Int) * _; simp
  | @cons r pre post b hp' hrow ih =>
    obtain ⟨h1, h2⟩ := waits_bd (n := n) r post.head? hn ws
    have h3 : 0 ≤ pr * waitsS r post.head? ws n := Int.mul_nonneg hp h1
    have h4 : pr * waitsS r post.head? ws n ≤ pr * (ws.length * n) := Int.mul_le_mul_of_nonneg_left h2 hp
    have e : (((r :: b.2).length : Nat) : Int) * (1 + pr * (ws.length * n)) = b.2.length * (1 + pr * (ws.length * n)) + (1 + pr * (ws.length * n)) := by
      rw [List.length_cons, show (((b.2.length + 1 : Nat)) : Int) = (b.2.length : Int) + 1 by omega, Int.add_mul]; omega
    show 0 ≤ 1 + pr * waitsS r post.head? ws n + b.1 ∧ 1 + pr * waitsS r post.head? ws n + b.1 ≤ _
    rw [e]
    omega
/-! as few as let none be wrong -/
def stepO (ws : List Int) (s : List Int × Option Int) (x : Int) : List Int × Option Int := match s.2 with
  | none => (s.1 ++ [x], some x)
  | some z => if ahead ws z x = true then (s.1 ++ [x], some x) else (s.1, some z)
theorem few_same (ws : List Int) : ∀ (xs : List Int) (f : List Int) (o l : Option Int), xs.Pairwise (· < ·) → (o = none ∧ l = none ∨ ∃ z y, o = some z ∧ l = some y ∧ z ≤ y ∧ (∀ x ∈ xs, y < x) ∧ ∀ w ∈ ws, ¬ (z < w ∧ w ≤ y)) → (xs.foldl (stepO ws) (f, o)).1 = (xs.foldl (stepF ws) (f, l)).1
  | [], f, o, l, _, _ => rfl
  | x :: xs, f, o, l, hx, h => by
    obtain ⟨hx1, hx2⟩ := List.pairwise_cons.mp hx
    rw [List.foldl_cons, List.foldl_cons]
    rcases h with ⟨rfl, rfl⟩ | ⟨z, y, rfl, rfl, hzy, hy, hw⟩
    · refine few_same ws xs (f ++ [x]) (some x) (some x) hx2 (.inr ⟨x, x, rfl, rfl, Int.le_refl _, hx1, fun w _ => by omega⟩)
    · have e : ahead ws z x = ahead ws y x := by
        unfold ahead
        rw [Bool.eq_iff_iff, List.any_eq_true, List.any_eq_true]
        have := hy x (List.mem_cons_self ..)
        constructor
        · rintro ⟨w, hm, hd⟩
          have := hw w hm
          simp at hd
          exact ⟨w, hm, by simp; omega⟩
        · rintro ⟨w, hm, hd⟩
          simp at hd
          exact ⟨w, hm, by simp; omega⟩
      unfold stepO stepF
      dsimp only
      rw [e]
      by_cases c : ahead ws y x = true
      · rw [if_pos c, if_pos c]
        exact few_same ws xs (f ++ [x]) (some x) (some x) hx2 (.inr ⟨x, x, rfl, rfl, Int.le_refl _, hx1, fun w _ => by omega⟩)
      · rw [if_neg c, if_neg c]
        refine few_same ws xs f (some z) (some x) hx2 (.inr ⟨z, x, rfl, rfl, by have := hy x (List.mem_cons_self ..); omega, hx1, fun w hm hd => ?_⟩)
        apply c
        have := hw w hm
        unfold ahead
        rw [List.any_eq_true]
        exact ⟨w, hm, by simp; omega⟩
theorem fresh_same (ws rs : List Int) (hr : rs.Pairwise (· < ·)) : (rs.foldl (stepO ws) ([], none)).1 = freshL rs ws := few_same ws rs [] none none hr (.inl ⟨rfl, rfl⟩)
def FewF (a_writes : List Int) (x_87 : Int) (s_88 : List Int × Option Int) : Option (List Int × Option Int) := ((orO ((!s_88.2.isSome)) (((lcT (fun (x_89 : Int) => ((s_88.2).bind fun open_to_91 => (some ((some (((decide (open_to_91 < x_89)) && (decide (x_89 ≤ x_87))))))))) a_writes).bind fun v_92 => (some ((v_92.any id)))))).bind fun b_93 => (if b_93 = true then ((appT s_88.1 x_87).bind fun few_94 => (some (few_94, (some x_87)))) else (some (s_88.1, s_88.2))))
theorem few_T (ws rs : List Int) (hw : ws.length ≤ 1000) (hl : rs.length ≤ 1000) (hr : rs.Pairwise (· < ·)) : Gd (forT (FewF ws) rs ([], none)) fun s => s.1 = freshL rs ws := by
  have key := forT_fold (f := FewF ws) (stepO ws) (fun pre s => s.1.length ≤ pre.length) rs [] ([], none) (Nat.le_refl _) (fun pre x post s e hs => by
    have hlen : pre.length < rs.length := by
      have := congrArg List.length e
      simp at this; omega
    rcases s with ⟨f, o⟩
    have hf : f.length ≤ pre.length := hs
    cases o with
    | none =>
      refine ⟨?_, by simp [stepO]; omega⟩
      unfold FewF
      refine bind_eq (a := true) rfl ?_
      rw [if_pos rfl]
      refine bind_eq (appT_ok (lim_lt (by show f.length ≤ 1000; omega))) ?_
      rfl
    | some z =>
      have e1 : lcT (fun (x_89 : Int) => (((f, some z) : List Int × Option Int).2.bind fun open_to_91 => (some ((some (((decide (open_to_91 < x_89)) && (decide (x_89 ≤ x)))))))) ) ws = some (ws.map fun w => decide (z < w) && decide (w ≤ x)) := lcT_map (lim_of hw) fun w _ => rfl
      have e2 : (ws.map fun w => decide (z < w) && decide (w ≤ x)).any id = ahead ws z x := by rw [List.any_map]; rfl
      have e3 : orO (!((f, some z) : List Int × Option Int).2.isSome) ((lcT (fun (x_89 : Int) => (((f, some z) : List Int × Option Int).2.bind fun open_to_91 => (some ((some (((decide (open_to_91 < x_89)) && (decide (x_89 ≤ x)))))))) ) ws).bind fun v_92 => (some ((v_92.any id)))) = some (ahead ws z x) := by
        show ((lcT _ ws).bind _) = _
        rw [e1]
        show some ((ws.map fun w => decide (z < w) && decide (w ≤ x)).any id) = _
        rw [e2]
      refine ⟨?_, ?_⟩
      · unfold FewF
        refine bind_eq e3 ?_
        unfold stepO
        dsimp only
        by_cases c : ahead ws z x = true
        · rw [if_pos c, if_pos c]
          refine bind_eq (appT_ok (lim_lt (by show f.length ≤ 1000; omega))) ?_
          rfl
        · rw [if_neg c, if_neg c]
      · unfold stepO
        dsimp only
        split
        · simp; omega
        · simp; omega)
  exact gd_eq key.1 (fresh_same ws rs hr)
end K78

namespace K78
open PySem PySem.Spec PyProof.Rows L2 DL
/-! the law's day: beat after beat -/
/-- the program's, in one walk -/
def stepD (ws : List Int) (n : Int) (s : List Int × List Int) (x : Int) : List Int × List Int :=
  (stepA n s.1 x, match (stepA n s.1 x).getLast? with | none => s.2 | some l => if ahead ws l x = true then s.2 ++ [x] else s.2)
def dayL (rs ws : List Int) (n : Int) : List Int × List Int := rs.foldl (stepD ws n) ([], [])
theorem day_fst (ws : List Int) (n : Int) : ∀ (rs : List Int) (s : List Int × List Int), (rs.foldl (stepD ws n) s).1 = rs.foldl (stepA n) s.1
  | [], s => rfl
  | x :: rs, s => day_fst ws n rs (stepD ws n s x)
theorem stepA_last (n : Int) (f : List Int) (x : Int) : (stepA n f x = f ++ [x]) ∨ (stepA n f x = f ∧ f ≠ []) := by
  unfold stepA
  cases e : f.getLast? with
  | none => exact .inl rfl
  | some z =>
    dsimp only
    split
    · exact .inl rfl
    · exact .inr ⟨rfl, fun q => by rw [q] at e; cases e⟩
theorem foldA_sub (n : Int) : ∀ (rs f : List Int) (x : Int), x ∈ rs.foldl (stepA n) f → x ∈ f ∨ x ∈ rs
  | [], f, x, h => .inl h
  | y :: rs, f, x, h => by
    rw [List.foldl_cons] at h
    rcases foldA_sub n rs _ x h with h | h
    · rcases stepA_last n f y with e | ⟨e, _⟩
      · rw [e] at h
        rcases List.mem_append.mp h with h | h
        · exact .inl h
        · exact .inr (by rw [List.mem_singleton.mp h]; exact List.mem_cons_self ..)
      · rw [e] at h; exact .inl h
    · exact .inr (List.mem_cons_of_mem _ h)
theorem foldA_pre (n : Int) : ∀ (rs f : List Int) (x : Int), x ∈ f → x ∈ rs.foldl (stepA n) f
  | [], f, x, h => h
  | y :: rs, f, x, h => by
    rw [List.foldl_cons]
    refine foldA_pre n rs _ x ?_
    rcases stepA_last n f y with e | ⟨e, _⟩
    · rw [e]; exact List.mem_append_left _ h
    · rw [e]; exact h
/-- the reads that ask, all told; which they are -/
theorem day_snd (ws : List Int) (n : Int) (so : List Int) : ∀ (rs : List Int) (f g : List Int), rs.Pairwise (· < ·) → (∀ a ∈ f, ∀ x ∈ rs, a < x) → so = rs.foldl (stepA n) f → (rs.foldl (stepD ws n) (f, g)).2 = (rs.foldl (stepW ws so) (g, f.getLast?)).1
  | [], f, g, _, _, _ => rfl
  | x :: rs, f, g, hs, hf, e => by
    obtain ⟨h1, h2⟩ := List.pairwise_cons.mp hs
    rw [List.foldl_cons, List.foldl_cons]
    have hm : x ∈ so ↔ stepA n f x = f ++ [x] := by
      constructor
      · intro h
        rcases stepA_last n f x with q | ⟨q, _⟩
        · exact q
        · rw [e, List.foldl_cons, q] at h
          rcases foldA_sub n rs f x h with h | h
          · have := hf x h x (List.mem_cons_self ..); omega
          · have := h1 x h; omega
      · intro q
        rw [e, List.foldl_cons, q]
        exact foldA_pre n rs _ x (by simp)
    have hl : (stepA n f x).getLast? = if x ∈ so then some x else f.getLast? := by
      rcases stepA_last n f x with q | ⟨q, hne⟩
      · rw [if_pos (hm.mpr q), q]; simp
      · have : ¬ x ∈ so := fun z => by
          have := hm.mp z
          rw [q] at this
          have := congrArg List.length this
          simp at this
        rw [if_neg this, q]
    have e1 : stepD ws n (f, g) x = (stepA n f x, (stepW ws so (g, f.getLast?) x).1) := by
      unfold stepD stepW
      dsimp only
      rw [hl]
      try rfl
    have e2 : (stepW ws so (g, f.getLast?) x) = ((stepW ws so (g, f.getLast?) x).1, (stepA n f x).getLast?) := by
      rw [hl]; rfl
    rw [e1, e2]
    refine day_snd ws n so rs (stepA n f x) _ h2 (fun a ha y hy => ?_) (by rw [e]; rfl)
    rcases stepA_last n f x with q | ⟨q, _⟩
    · rw [q] at ha
      rcases List.mem_append.mp ha with ha | ha
      · exact hf a ha y (List.mem_cons_of_mem _ hy)
      · rw [List.mem_singleton.mp ha]; exact h1 y hy
    · rw [q] at ha; exact hf a ha y (List.mem_cons_of_mem _ hy)
theorem day_same (rs ws : List Int) (n : Int) (hr : rs.Pairwise (· < ·)) : dayL rs ws n = (askedL rs n, wrongL rs ws (askedL rs n)) := by
  have h1 := day_fst ws n rs ([], [])
  have h2 := day_snd ws n (askedL rs n) rs [] [] hr (fun a h => nomatch h) rfl
  exact Prod.ext h1 h2
/-! events -/
abbrev leE (a b : Int × Int) : Bool := !ltP ltI ltI b a
theorem leE_iff (a b : Int × Int) : leE a b = true ↔ a.1 < b.1 ∨ (a.1 = b.1 ∧ a.2 ≤ b.2) := by
  unfold leE ltP ltI
  by_cases h : b.1 = a.1
  · simp [h]
  · simp [h]; omega
def evs (rs ws : List Int) : List (Int × Int) := (ws.map (fun w => (w, (0 : Int))) ++ rs.map fun r => (r, (1 : Int))).mergeSort leE
theorem evs_perm (rs ws : List Int) : (evs rs ws).Perm (ws.map (fun w => (w, (0 : Int))) ++ rs.map fun r => (r, (1 : Int))) := List.mergeSort_perm _ _
theorem evs_sorted (rs ws : List Int) : (evs rs ws).Pairwise fun a b => leE a b = true := by
  refine List.pairwise_mergeSort (fun a b c h1 h2 => ?_) (fun a b => ?_) _
  · rw [leE_iff] at *; omega
  · rw [Bool.or_eq_true, leE_iff, leE_iff]; omega
theorem mem_evs (rs ws : List Int) (e : Int × Int) : e ∈ evs rs ws ↔ (e.2 = 0 ∧ e.1 ∈ ws) ∨ (e.2 = 1 ∧ e.1 ∈ rs) := by
  rw [(evs_perm rs ws).mem_iff, List.mem_append, List.mem_map, List.mem_map]
  constructor
  · rintro (⟨w, h, rfl⟩ | ⟨r, h, rfl⟩)
    · exact .inl ⟨rfl, h⟩
    · exact .inr ⟨rfl, h⟩
  · rintro (⟨h1, h2⟩ | ⟨h1, h2⟩)
    · exact .inl ⟨e.1, h2, Prod.ext rfl h1.symm⟩
    · exact .inr ⟨e.1, h2, Prod.ext rfl h1.symm⟩
def rdsOf (l : List (Int × Int)) : List Int := (l.filter fun e => decide (e.2 = 1)).map (·.1)
theorem evs_nodup (rs ws : List Int) (hr : rs.Pairwise (· < ·)) (hw : ws.Pairwise (· < ·)) : (evs rs ws).Nodup := by
  rw [(evs_perm rs ws).nodup_iff, List.nodup_append]
  have nd : ∀ {l : List Int}, l.Pairwise (· < ·) → l.Nodup := fun h => h.imp (fun h => by omega)
  refine ⟨?_, ?_, ?_⟩
  · refine List.Pairwise.map _ (fun a b h => ?_) (nd hw)
    intro e; exact h (congrArg Prod.fst e)
  · refine List.Pairwise.map _ (fun a b h => ?_) (nd hr)
    intro e; exact h (congrArg Prod.fst e)
  · intro a ha b hb e
    obtain ⟨w, _, rfl⟩ := List.mem_map.mp ha
    obtain ⟨r, _, rfl⟩ := List.mem_map.mp hb
    have := congrArg Prod.snd e
    simp at this
theorem rds_sorted {l : List (Int × Int)} (h1 : l.Pairwise fun a b => leE a b = true) (h2 : l.Nodup) : (rdsOf l).Pairwise (· < ·) := by
  unfold rdsOf
  rw [List.pairwise_map]
  have h3 : l.Pairwise fun a b => leE a b = true ∧ a ≠ b := List.pairwise_and_iff.mpr ⟨h1, h2⟩
  have h4 := h3.filter (fun e => decide (e.2 = 1))
  refine List.Pairwise.imp_of_mem (fun {a b} ha hb h => ?_) h4
  have a2 : a.2 = 1 := by simpa using (List.mem_filter.mp ha).2
  have b2 : b.2 = 1 := by simpa using (List.mem_filter.mp hb).2
  rcases (leE_iff a b).mp h.1 with q | ⟨q, _⟩
  · exact q
  · exact absurd (Prod.ext q (a2.trans b2.symm)) h.2
theorem rds_all (rs ws : List Int) (hr : rs.Pairwise (· < ·)) (hw : ws.Pairwise (· < ·)) : rdsOf (evs rs ws) = rs := by
  refine K78.sorted_ext (rds_sorted (evs_sorted rs ws) (evs_nodup rs ws hr hw)) hr fun x => ?_
  unfold rdsOf
  rw [List.mem_map]
  constructor
  · rintro ⟨e, h, rfl⟩
    obtain ⟨h1, h2⟩ := List.mem_filter.mp h
    have h2 : e.2 = 1 := by simpa using h2
    rcases (mem_evs rs ws e).mp h1 with ⟨q, _⟩ | ⟨_, q⟩
    · omega
    · exact q
  · intro h
    exact ⟨(x, 1), List.mem_filter.mpr ⟨(mem_evs rs ws _).mpr (.inr ⟨rfl, h⟩), rfl⟩, rfl⟩
theorem rds_snoc (l : List (Int × Int)) (e : Int × Int) : rdsOf (l ++ [e]) = if e.2 = 1 then rdsOf l ++ [e.1] else rdsOf l := by
  unfold rdsOf
  rw [List.filter_append, List.map_append]
  by_cases h : e.2 = 1
  · simp [h]
  · simp [h]
def lateB (o : Option Int) (w : Int) : Bool := match o with
  | none => true
  | some z => decide (z < w)
def DayF (a_length : Int) (x_9 : Int × Int) (s_10 : Bool × (Option Int) × (List Int) × (List Int)) : Option (Bool × (Option Int) × (List Int) × (List Int)) := (if (decide (x_9.2 = (0 : Int))) = true then (some (true, s_10.2.1, s_10.2.2.1, s_10.2.2.2)) else ((orO ((!s_10.2.1.isSome)) (((s_10.2.1).bind fun begun_11 => (some ((decide (a_length ≤ (x_9.1 - begun_11)))))))).bind fun b_12 => ((if b_12 = true then ((appT s_10.2.2.1 x_9.1).bind fun asks_14 => (some ((some x_9.1), false, asks_14))) else (some (s_10.2.1, s_10.1, s_10.2.2.1))).bind fun s_13 => ((extT s_10.2.2.2 ((if s_13.2.1 = true then [x_9.1] else []))).bind fun bad_15 => (some (s_13.2.1, s_13.1, s_13.2.2, bad_15))))))
theorem day_T (rs ws : List Int) (n : Int) (hl : rs.length ≤ 1000) (hw : ws.length ≤ 1000) (hn : 1 ≤ n) (hr : rs.Pairwise (· < ·)) (hws : ws.Pairwise (· < ·)) : T__law_day rs ws n = some (askedL rs n, wrongL rs ws (askedL rs n)) := by
  unfold T__law_day
  refine bind_eq (mapT_ok (lim_of hw)) ?_
  refine bind_eq (mapT_ok (lim_of hl)) ?_
  refine bind_eq (extT_ok (by simp [lim]; omega)) ?_
  refine bind_eq (sortT_ok (by simp [lim]; omega)) ?_
  show ((forT (DayF n) (evs rs ws) (false, none, [], [])).bind _) = _
  have hlen : (evs rs ws).length ≤ 2000 := by rw [(evs_perm rs ws).length_eq]; simp; omega
  have key := Gd.for (f := DayF n) (fun pre s => s.1 = (pre.any fun e => decide (e.2 = 0) && lateB s.2.1 e.1) ∧ s.2.1 = s.2.2.1.getLast? ∧ (s.2.2.1, s.2.2.2) = dayL (rdsOf pre) ws n ∧ s.2.2.1.length ≤ pre.length ∧ s.2.2.2.length ≤ pre.length) (evs rs ws) (false, none, [], []) ⟨rfl, rfl, rfl, Nat.le_refl _, Nat.le_refl _⟩ (fun pre x post s he hI => by
    obtain ⟨i1, i2, i3, i4, i5⟩ := hI
    rcases s with ⟨stale, begun, asks, bad⟩
    dsimp only at i1 i2 i3 i4 i5
    have hpre : pre.length < 2000 := by
      have := congrArg List.length he
      simp at this; omega
    have hso := evs_sorted rs ws
    have hnd := evs_nodup rs ws hr hws
    rw [he] at hso hnd
    have hbef : ∀ e ∈ pre, leE e x = true := fun e h => (List.pairwise_append.mp hso).2.2 e h x (List.mem_cons_self ..)
    have haft : ∀ e ∈ post, leE x e = true := (List.pairwise_cons.mp (List.pairwise_append.mp hso).2.1).1
    unfold DayF
    by_cases hx : x.2 = 0
    · rw [if_pos (by simpa using hx)]
      refine Gd.of ⟨?_, i2, ?_, ?_, ?_⟩
      · -- a write: it is later than the last ask
        dsimp only
        rw [List.any_append]
        have : ([x].any fun e => decide (e.2 = 0) && lateB begun e.1) = true := by
          rw [List.any_cons, List.any_nil, Bool.or_false]
          cases hb : begun with
          | none => simp [hx, lateB]
          | some z =>
            have hz : z ∈ asks := List.mem_of_getLast? (by rw [← i2]; exact hb)
            have hz2 : z ∈ rdsOf pre := by
              have e1 : asks = askedL (rdsOf pre) n := by
                have := congrArg Prod.fst i3
                rw [show (dayL (rdsOf pre) ws n).1 = askedL (rdsOf pre) n from day_fst ws n _ _] at this
                exact this
              rw [e1] at hz
              rcases foldA_sub n _ _ z hz with q | q
              · cases q
              · exact q
            unfold rdsOf at hz2
            obtain ⟨e, hm, rfl⟩ := List.mem_map.mp hz2
            obtain ⟨hm1, hm2⟩ := List.mem_filter.mp hm
            have hm2 : e.2 = 1 := by simpa using hm2
            have := (leE_iff e x).mp (hbef e hm1)
            simp [hx, lateB]; omega
        rw [this]; simp
      · dsimp only
        rw [rds_snoc, if_neg (by omega)]
        exact i3
      · simp; omega
      · simp; omega
    · rw [if_neg (by simpa using hx)]
      have hxm := (mem_evs rs ws x).mp (by rw [he]; simp)
      have hx1 : x.2 = 1 := by
        rcases hxm with ⟨q, _⟩ | ⟨q, _⟩
        · exact absurd q hx
        · exact q
      have hA : asks = (dayL (rdsOf pre) ws n).1 := congrArg Prod.fst i3
      have hB : bad = (dayL (rdsOf pre) ws n).2 := congrArg Prod.snd i3
      have hday : dayL (rdsOf (pre ++ [x])) ws n = stepD ws n (asks, bad) x.1 := by
        rw [rds_snoc, if_pos hx1]
        unfold dayL
        rw [List.foldl_append]
        show stepD ws n (dayL (rdsOf pre) ws n) x.1 = _
        rw [← i3]
      -- the writes so far: those that are no later
      have hwr : ∀ w, (w, (0 : Int)) ∈ pre ↔ w ∈ ws ∧ w ≤ x.1 := by
        intro w
        constructor
        · intro h
          have h1 := (mem_evs rs ws (w, 0)).mp (by rw [he]; exact List.mem_append_left _ h)
          have h2 := (leE_iff _ _).mp (hbef _ h)
          simp at h1 h2
          exact ⟨h1, by omega⟩
        · rintro ⟨h1, h2⟩
          have h3 := (mem_evs rs ws (w, 0)).mpr (.inl ⟨rfl, h1⟩)
          rw [he] at h3
          rcases List.mem_append.mp h3 with h | h
          · exact h
          · rcases List.mem_cons.mp h with h | h
            · exact absurd (congrArg Prod.snd h).symm hx
            · have := (leE_iff _ _).mp (haft _ h)
              simp at this; omega
      have hst : ∀ z, (pre.any fun e => decide (e.2 = 0) && decide (z < e.1)) = ahead ws z x.1 := by
        intro z
        unfold ahead
        rw [Bool.eq_iff_iff, List.any_eq_true, List.any_eq_true]
        constructor
        · rintro ⟨e, h1, h2⟩
          simp at h2
          have := (hwr e.1).mp (by rw [← h2.1]; exact h1)
          exact ⟨e.1, this.1, by simp; omega⟩
        · rintro ⟨w, h1, h2⟩
          simp at h2
          exact ⟨(w, 0), (hwr w).mpr ⟨h1, h2.2⟩, by simp; omega⟩
      have hcond : orO (!begun.isSome) (begun.bind fun b => some (decide (n ≤ x.1 - b))) = some (match asks.getLast? with | none => true | some z => decide (z + n ≤ x.1)) := by
        rw [i2]
        cases asks.getLast? with
        | none => rfl
        | some z =>
          show some (decide (n ≤ x.1 - z)) = some (decide (z + n ≤ x.1))
          congr 2
          rw [eq_iff_iff]; omega
      refine Gd.step hcond ?_
      by_cases hc : (match asks.getLast? with | none => true | some z => decide (z + n ≤ x.1)) = true
      · rw [hc, if_pos rfl]
        have hsA : stepA n asks x.1 = asks ++ [x.1] := by
          unfold stepA
          cases hg : asks.getLast? with
          | none => rfl
          | some z => rw [hg] at hc; dsimp only at hc ⊢; rw [if_pos (of_decide_eq_true hc)]
        have hnot : ahead ws x.1 x.1 = false := by
          unfold ahead
          rw [List.any_eq_false]
          intro w _ h
          simp at h; omega
        refine Gd.step (a := (some x.1, false, asks ++ [x.1])) (by rw [appT_ok (by simp [lim]; omega)]; rfl) ?_
        refine Gd.step (a := bad) (by
          show extT bad (if false = true then [x.1] else []) = some bad
          rw [if_neg (by simp), extT_ok (by simp [lim]; omega), List.append_nil]) ?_
        refine Gd.of ⟨?_, ?_, ?_, ?_, ?_⟩
        · dsimp only
          rw [List.any_append]
          have : (pre.any fun e => decide (e.2 = 0) && lateB (some x.1) e.1) = ahead ws x.1 x.1 := hst x.1
          rw [this, hnot]
          simp [hx]
        · simp
        · dsimp only
          rw [hday]
          unfold stepD
          dsimp only
          rw [hsA]
          simp [hnot]
        · simp; omega
        · simp; omega
      · have hc' : (match asks.getLast? with | none => true | some z => decide (z + n ≤ x.1)) = false := by simpa using hc
        rw [hc', if_neg (by simp)]
        obtain ⟨z, hz⟩ : ∃ z, asks.getLast? = some z := by
          cases hg : asks.getLast? with
          | none => rw [hg] at hc; exact absurd rfl hc
          | some z => exact ⟨z, rfl⟩
        have hsA : stepA n asks x.1 = asks := by
          unfold stepA
          rw [hz] at hc' ⊢
          dsimp only at hc' ⊢
          rw [if_neg (of_decide_eq_false hc')]
        have hstale : stale = ahead ws z x.1 := by
          rw [i1, i2, hz]
          exact hst z
        refine Gd.step (a := (begun, stale, asks)) rfl ?_
        have hext : extT bad (if stale = true then [x.1] else []) = some (if ahead ws z x.1 = true then bad ++ [x.1] else bad) := by
          rw [hstale]
          by_cases c : ahead ws z x.1 = true
          · rw [if_pos c, if_pos c, extT_ok (by simp [lim]; omega)]
          · rw [if_neg c, if_neg c, extT_ok (by simp [lim]; omega), List.append_nil]
        refine Gd.step hext ?_
        refine Gd.of ⟨?_, i2, ?_, ?_, ?_⟩
        · dsimp only
          rw [List.any_append, ← i1]
          simp [hx]
        · dsimp only
          rw [hday]
          unfold stepD
          dsimp only
          rw [hsA, hz]
        · simp; omega
        · dsimp only
          split
          · simp; omega
          · simp; omega)
  obtain ⟨s, e, h⟩ := key
  refine bind_eq e ?_
  obtain ⟨_, _, h3, _, _⟩ := h
  rw [rds_all rs ws hr hws, day_same rs ws n hr] at h3
  rw [← h3]
end K78

namespace K78
open PySem PySem.Spec PyProof.Rows L2 DL
/-! ### lengths that are right -/
/-! keys -/
section
variable {ν : Type}
abbrev keysT (kvs : List (Int × ν)) : List Int := kvs.map Prod.fst
theorem lookT_isSome (kvs : List (Int × ν)) (k : Int) : (lookT kvs k).isSome = true ↔ k ∈ keysT kvs := by
  induction kvs with
  | nil => simp [lookT]
  | cons a r ih =>
    rcases a with ⟨a, d⟩
    show (if a = k then some d else lookT r k).isSome = true ↔ _
    by_cases h : a = k
    · rw [if_pos h]; simp [h]
    · rw [if_neg h, ih]
      have : ¬ k = a := fun z => h z.symm
      simp [this]
theorem keys_put (kvs : List (Int × ν)) (k : Int) (d : ν) : keysT (putT kvs k d) = if k ∈ keysT kvs then keysT kvs else keysT kvs ++ [k] := by
  unfold putT
  by_cases h : (lookT kvs k).isSome = true
  · rw [if_pos h, if_pos ((lookT_isSome kvs k).mp h)]
    unfold keysT
    rw [List.map_map]
    apply List.map_congr_left
    intro p _
    show (if p.1 = k then (p.1, d) else p).1 = p.1
    split <;> rfl
  · rw [if_neg h, if_neg (fun z => h ((lookT_isSome kvs k).mpr z))]
    simp [keysT]
theorem mem_put (kvs : List (Int × ν)) (k : Int) (d : ν) (x : Int) : x ∈ keysT (putT kvs k d) ↔ x ∈ keysT kvs ∨ x = k := by
  rw [keys_put]
  by_cases h : k ∈ keysT kvs
  · rw [if_pos h]
    constructor
    · exact .inl
    · rintro (q | q)
      · exact q
      · subst q; exact h
  · rw [if_neg h, List.mem_append, List.mem_singleton]
theorem nodup_put {kvs : List (Int × ν)} (k : Int) (d : ν) (h : (keysT kvs).Nodup) : (keysT (putT kvs k d)).Nodup := by
  rw [keys_put]
  by_cases c : k ∈ keysT kvs
  · rw [if_pos c]; exact h
  · rw [if_neg c, List.nodup_append]
    refine ⟨h, by simp, fun a ha b hb e => ?_⟩
    rw [List.mem_singleton.mp hb] at e
    subst e; exact c ha
theorem mem_merge : ∀ (more kvs : List (Int × ν)) (x : Int), x ∈ keysT (mergeT kvs more) ↔ x ∈ keysT kvs ∨ x ∈ keysT more
  | [], kvs, x => by simp [mergeT]
  | m :: more, kvs, x => by
    show x ∈ keysT (mergeT (putT kvs m.1 m.2) more) ↔ _
    rw [mem_merge more, mem_put]
    simp only [keysT, List.map_cons, List.mem_cons]
    constructor
    · rintro ((a | a) | a)
      · exact .inl a
      · exact .inr (.inl a)
      · exact .inr (.inr a)
    · rintro (a | a | a)
      · exact .inl (.inl a)
      · exact .inl (.inr a)
      · exact .inr a
theorem nodup_merge : ∀ (more kvs : List (Int × ν)), (keysT kvs).Nodup → (keysT (mergeT kvs more)).Nodup
  | [], kvs, h => h
  | m :: more, kvs, h => nodup_merge more _ (nodup_put m.1 m.2 h)
theorem len_merge : ∀ (more kvs : List (Int × ν)), (mergeT kvs more).length ≤ kvs.length + more.length
  | [], kvs => by simp [mergeT]
  | m :: more, kvs => by
    have h1 := len_merge more (putT kvs m.1 m.2)
    have h2 := putT_len kvs m.1 m.2
    show (mergeT (putT kvs m.1 m.2) more).length ≤ _
    rw [List.length_cons]; omega
end
/-- the differences of one read -/
def isDiff (rs : List Int) (one k : Int) : Prop := ∃ o ∈ rs, one < o ∧ (k = o - one ∨ k = o - one + 1)
abbrev kvF (one : Int) : Int → Int → Option (Option (Int × Bool)) := fun x_5 y_6 => (if (decide (one < x_5)) = true then (some (some (((x_5 - one) + y_6), true))) else some none)
theorem dcO_keys (one : Int) : ∀ (xs : List Int) (acc : List (Int × Bool)), (keysT acc).Nodup → acc.length + 2 * xs.length ≤ 100000 → Gd (dcO (fun _ => some true) (fun _ => some [((0 : Int), (1 : Int)).1, ((0 : Int), (1 : Int)).2]) (kvF one) xs acc) fun r => (∀ k, k ∈ keysT r ↔ k ∈ keysT acc ∨ isDiff xs one k) ∧ (keysT r).Nodup ∧ r.length ≤ acc.length + 2 * xs.length
  | [], acc, h, hl => Gd.of ⟨fun k => by simp [isDiff], h, by simp⟩
  | x :: xs, acc, h, hl => by
    rw [List.length_cons] at hl
    unfold dcO
    refine Gd.step (a := true) rfl ?_
    rw [if_pos rfl]
    refine Gd.step (a := [(0 : Int), 1]) rfl ?_
    by_cases c : one < x
    · have e : dcI (kvF one x) [(0 : Int), 1] acc = some (putT (putT acc (x - one + 0) true) (x - one + 1) true) := by
        have l1 : acc.length < lim := by unfold lim; omega
        have l2 : (putT acc (x - one + 0) true).length < lim := by have := putT_len acc (x - one + 0) true; unfold lim; omega
        unfold dcI
        rw [show kvF one x 0 = some (some (x - one + 0, true)) by unfold kvF; rw [if_pos (decide_eq_true c)]]
        show (if acc.length < lim then dcI (kvF one x) [1] (putT acc (x - one + 0) true) else none) = _
        rw [if_pos l1]
        unfold dcI
        rw [show kvF one x 1 = some (some (x - one + 1, true)) by unfold kvF; rw [if_pos (decide_eq_true c)]]
        show (if (putT acc (x - one + 0) true).length < lim then dcI (kvF one x) [] (putT (putT acc (x - one + 0) true) (x - one + 1) true) else none) = _
        rw [if_pos l2]; rfl
      refine Gd.step e ?_
      have p1 := putT_len acc (x - one + 0) true
      have p2 := putT_len (putT acc (x - one + 0) true) (x - one + 1) true
      refine (dcO_keys one xs _ (nodup_put _ _ (nodup_put _ _ h)) (by omega)).mono fun r hr => ?_
      obtain ⟨r1, r2, r3⟩ := hr
      refine ⟨fun k => ?_, r2, by rw [List.length_cons]; omega⟩
      rw [r1, mem_put, mem_put]
      unfold isDiff
      constructor
      · rintro (((a | a) | a) | ⟨o, h1, h2, h3⟩)
        · exact .inl a
        · exact .inr ⟨x, List.mem_cons_self .., c, .inl (by omega)⟩
        · exact .inr ⟨x, List.mem_cons_self .., c, .inr a⟩
        · exact .inr ⟨o, List.mem_cons_of_mem _ h1, h2, h3⟩
      · rintro (a | ⟨o, h1, h2, h3⟩)
        · exact .inl (.inl (.inl a))
        · rcases List.mem_cons.mp h1 with q | q
          · subst q
            rcases h3 with h3 | h3
            · exact .inl (.inl (.inr (by omega)))
            · exact .inl (.inr h3)
          · exact .inr ⟨o, q, h2, h3⟩
    · have e : dcI (kvF one x) [(0 : Int), 1] acc = some acc := by
        unfold dcI
        rw [show kvF one x 0 = some none by unfold kvF; rw [if_neg (by simpa using c)]]
        show dcI (kvF one x) [1] acc = _
        unfold dcI
        rw [show kvF one x 1 = some none by unfold kvF; rw [if_neg (by simpa using c)]]
        rfl
      refine Gd.step e ?_
      refine (dcO_keys one xs acc h (by omega)).mono fun r hr => ?_
      obtain ⟨r1, r2, r3⟩ := hr
      refine ⟨fun k => ?_, r2, by rw [List.length_cons]; omega⟩
      rw [r1]
      unfold isDiff
      constructor
      · rintro (a | ⟨o, h1, h2, h3⟩)
        · exact .inl a
        · exact .inr ⟨o, List.mem_cons_of_mem _ h1, h2, h3⟩
      · rintro (a | ⟨o, h1, h2, h3⟩)
        · exact .inl a
        · rcases List.mem_cons.mp h1 with q | q
          · subst q; exact absurd h2 c
          · exact .inr ⟨o, q, h2, h3⟩
/-! rows -/
theorem sortI_rising {xs : List Int} (h : xs.Nodup) : (xs.mergeSort fun a b => !ltI b a).Pairwise (· < ·) := by
  have h1 : (xs.mergeSort fun a b => !ltI b a).Pairwise fun a b => (!ltI b a) = true := List.pairwise_mergeSort (fun a b c h1 h2 => by simp [ltI] at *; omega) (fun a b => by simp [ltI]; omega) _
  have h2 : (xs.mergeSort fun a b => !ltI b a).Nodup := (List.mergeSort_perm _ _).nodup_iff.mpr h
  refine List.Pairwise.imp (fun {a b} h => ?_) (List.pairwise_and_iff.mpr ⟨h1, h2⟩)
  have h3 := h.1
  simp [ltI] at h3
  have := h.2
  omega
def goodB (rs ws : List Int) (L : Int) : Bool := decide (wrongL rs ws (askedL rs L) = [])
/-- the program's step -/
def stepP (good : Int → Bool) (s : List (Int × Option Int)) (x : Int × Option Int) : List (Int × Option Int) :=
  if good x.1 = true then (match s.getLast? with
    | some (a, some b) => if b + 1 = x.1 then s.dropLast ++ [(a, x.2)] else s ++ [x]
    | _ => s ++ [x]) else s
def segR : List Int → List (Int × Option Int)
  | [] => []
  | [a] => [(a, none)]
  | a :: b :: r => (a, some (b - 1)) :: segR (b :: r)
def lastR (R : List Int) (i : Int) : Option Int := if i + 1 < R.length then some (R[(i + 1).toNat]?.getD 0 - 1) else none
theorem segR_eq : ∀ (R : List Int) (k : Nat) (full : List Int), full.drop k = R → (R.zipIdx k).map (fun p => (p.1, lastR full (p.2 : Int))) = segR R
  | [], k, full, e => rfl
  | [a], k, full, e => by
    have hl : full.length = k + 1 := by
      have h1 := congrArg List.length e
      simp at h1; omega
    show [(a, lastR full (k : Int))] = [(a, none)]
    unfold lastR
    rw [if_neg (by omega)]
  | a :: b :: r, k, full, e => by
    have hl : k + 1 < full.length := by
      have h1 := congrArg List.length e
      simp at h1; omega
    have e2 : full.drop (k + 1) = b :: r := by
      rw [← List.drop_drop, e]; rfl
    have eb : full[k + 1]? = some b := by
      rw [← List.head?_drop, e2]; rfl
    have ih := segR_eq (b :: r) (k + 1) full e2
    rw [List.zipIdx_cons, List.map_cons, ih]
    show (a, lastR full (k : Int)) :: _ = (a, some (b - 1)) :: _
    have : lastR full (k : Int) = some (b - 1) := by
      unfold lastR
      rw [if_pos (by omega)]
      have : ((k : Int) + 1).toNat = k + 1 := by omega
      rw [this, eb]; rfl
    rw [this]
def LenF (a_reads a_writes v_14 : List Int) (x_15 : Int × Int) (s_16 : List (Int × Option Int)) : Option (List (Int × Option Int)) := ((if (decide ((x_15.1 + 1) < (v_14.length : Int))) = true then ((atI v_14 ((x_15.1 + 1))).bind fun v_17 => (some ((some (v_17 - 1))))) else (some none)).bind fun v_18 => ((T_asked_of a_reads x_15.2).bind fun r_19 => ((T_wrong_of a_reads a_writes r_19).bind fun r_20 => (if (decide (r_20 = [])) = true then ((andO ((!decide (s_16 = []))) (((atI s_16 ((-1))).bind fun v_21 => ((andO v_21.2.isSome (((atI s_16 ((-1))).bind fun v_22 => ((v_22.2).bind fun v_23 => (some ((decide ((v_23 + 1) = x_15.2)))))))).bind fun b_24 => (some b_24))))).bind fun b_25 => (if b_25 = true then ((atI s_16 ((-1))).bind fun v_26 => ((setT s_16 ((-1)) ((v_26.1, v_18))).bind fun found_27 => (some found_27))) else ((appT s_16 ((x_15.2, v_18))).bind fun found_28 => (some found_28)))) else (some s_16)))))
theorem LenF_eq (rs ws R : List Int) (hl : rs.length ≤ 1000) (hw : ws.length ≤ 1000) (x : Int × Int) (s : List (Int × Option Int)) (hx : 0 ≤ x.1) (hs : s.length < lim) : LenF rs ws R x s = some (stepP (goodB rs ws) s (x.2, lastR R x.1)) := by
  unfold LenF
  have e1 : (if (decide ((x.1 + 1) < (R.length : Int))) = true then ((atI R ((x.1 + 1))).bind fun v_17 => (some ((some (v_17 - 1))))) else (some none)) = some (lastR R x.1) := by
    unfold lastR
    by_cases h : x.1 + 1 < (R.length : Int)
    · rw [if_pos (decide_eq_true h), if_pos h]
      obtain ⟨k, hk⟩ := Int.eq_ofNat_of_zero_le (show 0 ≤ x.1 + 1 by omega)
      have hk2 : k < R.length := by omega
      rw [hk, atI_some hk2]
      simp [hk2]
    · rw [if_neg (by simpa using h), if_neg h]
  refine bind_eq e1 ?_
  refine bind_eq (show T_asked_of rs x.2 = some (askedL rs x.2) by unfold T_asked_of; rw [if_pos hl]) ?_
  refine bind_eq (show T_wrong_of rs ws (askedL rs x.2) = some (wrongL rs ws (askedL rs x.2)) by unfold T_wrong_of; rw [if_pos ⟨hl, hw⟩]) ?_
  unfold stepP goodB
  dsimp only
  by_cases c : wrongL rs ws (askedL rs x.2) = []
  · rw [if_pos (decide_eq_true c), if_pos (decide_eq_true c)]
    rcases List.eq_nil_or_concat s with rfl | ⟨s', z, rfl⟩
    · refine bind_eq (a := false) rfl ?_
      rw [if_neg (by simp), appT_ok hs]; rfl
    · rw [List.concat_eq_append] at hs ⊢
      rcases z with ⟨a, ob⟩
      have hne : (!decide (s' ++ [(a, ob)] = [])) = true := by simp
      rw [hne, DL.atI_last]
      have hg : (s' ++ [(a, ob)]).getLast? = some (a, ob) := by simp
      rw [hg]
      cases ob with
      | none =>
        refine bind_eq (a := false) rfl ?_
        rw [if_neg (by simp), appT_ok hs]; rfl
      | some b =>
        refine bind_eq (a := decide (b + 1 = x.2)) rfl ?_
        dsimp only
        by_cases q : b + 1 = x.2
        · rw [if_pos (decide_eq_true q), if_pos q]
          show ((setT (s' ++ [(a, some b)]) (-1) (a, lastR R x.1)).bind _) = _
          rw [setT_last, List.dropLast_concat]; rfl
        · rw [if_neg (by simpa using q), if_neg q, appT_ok hs]; rfl
  · rw [if_neg (by simpa using c), if_neg (by simpa using c)]
theorem stepP_len (good : Int → Bool) (s : List (Int × Option Int)) (x : Int × Option Int) : (stepP good s x).length ≤ s.length + 1 := by
  unfold stepP
  split
  · split
    · split
      · simp
      · simp
    · simp
  · omega
theorem len_T (rs ws : List Int) (hr : okW rs = true) (hw : okW ws = true) : ∃ R : List Int, R.Pairwise (· < ·) ∧ (∀ k, k ∈ R ↔ (k = 1 ∨ ∃ one ∈ rs, isDiff rs one k) ∧ k ≤ 1000000) ∧ T_lengths_right rs ws = some ((segR R).foldl (stepP (goodB rs ws)) []) := by
  have hlr := okW_2 hr
  have hlw := okW_2 hw
  have hlr30 : rs.length ≤ 30 := by
    have := okW_1 hr
    unfold beatsB at this
    rw [Bool.and_eq_true, Bool.and_eq_true] at this
    exact of_decide_eq_true this.1.1
  -- the steps
  have h1 := Gd.for (f := fun (x_3 : Int) (s_4 : List (Int × Bool)) => ((dcO (fun x_5 => (some true)) (fun x_5 => (some ([((0, 1) : Int × Int).1, ((0, 1) : Int × Int).2]))) (fun x_5 y_6 => (if (decide (x_3 < x_5)) = true then (some (some (((x_5 - x_3) + y_6), true))) else some none)) rs []).bind fun v_7 => ((updT s_4 v_7).bind fun steps_8 => (some steps_8)))) (fun pre s => (∀ k, k ∈ keysT s ↔ k = 1 ∨ ∃ one ∈ pre, isDiff rs one k) ∧ (keysT s).Nodup ∧ s.length ≤ 1 + 60 * pre.length) rs [((1 : Int), true)] ⟨fun k => by simp, by simp, by simp⟩ (fun pre x post s e hI => by
    obtain ⟨i1, i2, i3⟩ := hI
    have hp : pre.length < 30 := by
      have := congrArg List.length e
      simp at this; omega
    obtain ⟨r, er, r1, r2, r3⟩ := dcO_keys x rs [] (by simp) (by simp; omega)
    refine Gd.step er ?_
    rw [List.length_nil] at r3
    refine Gd.step (a := mergeT s r) (by unfold updT; rw [if_pos (by unfold lim; omega)]) ?_
    refine Gd.of ⟨fun k => ?_, nodup_merge _ _ i2, by have := len_merge r s; simp; omega⟩
    rw [mem_merge, i1, r1]
    constructor
    · rintro ((a | ⟨one, h1, h2⟩) | (a | a))
      · exact .inl a
      · exact .inr ⟨one, List.mem_append_left _ h1, h2⟩
      · simp at a
      · exact .inr ⟨x, by simp, a⟩
    · rintro (a | ⟨one, h1, h2⟩)
      · exact .inl (.inl a)
      · rcases List.mem_append.mp h1 with q | q
        · exact .inl (.inr ⟨one, q, h2⟩)
        · rw [List.mem_singleton.mp q] at h2; exact .inr (.inr h2))
  obtain ⟨s9, e9, k1, k2, k3⟩ := h1
  have hlen9 : (s9.map Prod.fst).length ≤ 10000 := by rw [List.length_map]; omega
  have hfl : ((s9.map Prod.fst).filter fun x => decide (x ≤ 1000000)).length ≤ 10000 := Nat.le_trans (List.length_filter_le _ _) hlen9
  have hnd : ((s9.map Prod.fst).filter fun x => decide (x ≤ 1000000)).Nodup := List.Pairwise.filter _ k2
  refine ⟨((s9.map Prod.fst).filter fun x => decide (x ≤ 1000000)).mergeSort fun a b => !ltI b a, sortI_rising hnd, fun k => ?_, ?_⟩
  · rw [(List.mergeSort_perm _ _).mem_iff, List.mem_filter, k1]; simp
  · unfold T_lengths_right
    refine bind_eq (show T_check_reads rs = some () by unfold T_check_reads; rw [if_pos hr]) ?_
    refine bind_eq (show T_check_writes ws = some () by unfold T_check_writes; rw [if_pos hw]) ?_
    refine bind_eq e9 ?_
    refine bind_eq (bind_eq (mapF_ok (by unfold lim; omega)) rfl) ?_
    rw [List.map_id']
    refine bind_eq (sortT_ok (by unfold lim; omega)) ?_
    generalize hR : (((s9.map Prod.fst).filter fun x => decide (x ≤ 1000000)).mergeSort fun a b => !ltI b a) = R
    have hRl : R.length ≤ 10000 := by rw [← hR, (List.mergeSort_perm _ _).length_eq]; exact hfl
    show ((forT (LenF rs ws R) (enumI R) []).bind _) = _
    have key := forT_fold (f := LenF rs ws R) (fun s x => stepP (goodB rs ws) s (x.2, lastR R x.1)) (fun pre s => s.length ≤ pre.length) (enumI R) [] [] (Nat.le_refl _) (fun pre x post s e hs => by
      have hx : 0 ≤ x.1 := by
        have hm : x ∈ enumI R := by
          have e' : enumI R = pre ++ x :: post := by simpa using e
          rw [e']; simp
        unfold enumI at hm
        obtain ⟨p, _, rfl⟩ := List.mem_map.mp hm
        show (0 : Int) ≤ (p.2 : Int)
        omega
      have hp : pre.length < 10000 := by
        have := congrArg List.length e
        simp [enumI] at this; omega
      refine ⟨LenF_eq rs ws R hlr hlw x s hx (by unfold lim; omega), ?_⟩
      have := stepP_len (goodB rs ws) s (x.2, lastR R x.1)
      rw [List.length_append, List.length_singleton]
      omega)
    refine bind_eq key.1 ?_
    congr 1
    rw [← segR_eq R 0 R rfl]
    unfold enumI
    rw [List.foldl_map, List.foldl_map]
end K78

namespace K78
open PySem PySem.Spec PyProof.Rows L2 DL
def stepS (s : List (Int × Int)) (L : Int) : List (Int × Int) := match s.getLast? with
  | some (a, b) => if b = L - 1 then s.dropLast ++ [(a, L)] else s ++ [(L, L)]
  | none => s ++ [(L, L)]
def mg (s : List (Int × Int)) (a b : Int) : List (Int × Int) := match s.getLast? with
  | some (x, y) => if y = a - 1 then s.dropLast ++ [(x, b)] else s ++ [(a, b)]
  | none => s ++ [(a, b)]
theorem mg_form (s : List (Int × Int)) (a : Int) : ∃ p x, ∀ b, mg s a b = p ++ [(x, b)] := by
  unfold mg
  cases s.getLast? with
  | none => exact ⟨s, a, fun _ => rfl⟩
  | some z =>
    rcases z with ⟨x, y⟩
    dsimp only
    by_cases h : y = a - 1
    · exact ⟨s.dropLast, x, fun b => by rw [if_pos h]⟩
    · exact ⟨s, a, fun b => by rw [if_neg h]⟩
theorem chunk (s : List (Int × Int)) (a : Int) : ∀ m : Nat, (rngI a (m + 1)).foldl stepS s = mg s a (a + m)
  | 0 => by
    rw [rngI_succ, rngI_zero]
    show stepS s a = mg s a (a + 0)
    rw [Int.add_zero]; rfl
  | m + 1 => by
    rw [rngI_snoc, List.foldl_append, chunk s a m]
    obtain ⟨p, x, h⟩ := mg_form s a
    rw [h, h]
    show stepS (p ++ [(x, a + m)]) (a + ((m + 1 : Nat) : Int)) = _
    unfold stepS
    have : (p ++ [(x, a + (m : Int))]).getLast? = some (x, a + (m : Int)) := by simp
    rw [this]
    dsimp only
    rw [if_pos (by omega), List.dropLast_concat]
/-- constant between the rows -/
def Cst (good : Int → Bool) : List Int → Prop
  | [] => True
  | [a] => a ≤ 69 ∧ ∀ L, a ≤ L → L ≤ 69 → good L = good a
  | a :: b :: r => a < b ∧ b ≤ 69 ∧ (∀ L, a ≤ L → L < b → good L = good a) ∧ Cst good (b :: r)
def stepQ (good : Int → Bool) (s : List (Int × Int)) (x : Int × Option Int) : List (Int × Int) := if good x.1 = true then mg s x.1 (x.2.getD 69) else s
theorem filter_const {good : Int → Bool} {g : Bool} : ∀ {l : List Int}, (∀ x ∈ l, good x = g) → l.filter good = if g = true then l else []
  | [], _ => by cases g <;> rfl
  | x :: l, h => by
    have ih := filter_const (l := l) fun y hy => h y (List.mem_cons_of_mem _ hy)
    have hx := h x (List.mem_cons_self ..)
    cases g with
    | true => rw [List.filter_cons_of_pos hx, ih]; rfl
    | false => rw [List.filter_cons_of_neg (by rw [hx]; simp), ih]; rfl
theorem rngI_add (a : Int) : ∀ (m k : Nat), rngI a (m + k) = rngI a m ++ rngI (a + m) k
  | 0, k => by simp [rngI_zero]
  | m + 1, k => by
    rw [show m + 1 + k = (m + k) + 1 by omega, rngI_succ, rngI_succ, List.cons_append, rngI_add (a + 1) m k]
    rw [show a + 1 + (m : Int) = a + ((m + 1 : Nat) : Int) by omega]
theorem scan {good : Int → Bool} : ∀ (a : Int) (r : List Int) (s : List (Int × Int)), Cst good (a :: r) → ((rngI a (70 - a).toNat).filter good).foldl stepS s = (segR (a :: r)).foldl (stepQ good) s
  | a, [], s, h => by
    obtain ⟨h1, h2⟩ := h
    rw [filter_const (g := good a) (fun x hx => by
      have := mem_rngI.mp hx
      exact h2 x this.1 (by omega))]
    show _ = stepQ good s (a, none)
    unfold stepQ
    dsimp only
    cases good a with
    | false => rfl
    | true =>
      rw [if_pos rfl, if_pos rfl]
      have : (70 - a).toNat = (69 - a).toNat + 1 := by omega
      rw [this, chunk]
      congr 1
      show a + ((69 - a).toNat : Int) = 69
      omega
  | a, b :: r, s, h => by
    obtain ⟨h1, h2, h3, h4⟩ := h
    have e : (70 - a).toNat = (b - a).toNat + (70 - b).toNat := by omega
    have e2 : a + ((b - a).toNat : Int) = b := by omega
    rw [e, rngI_add, e2, List.filter_append, List.foldl_append]
    show _ = (segR (b :: r)).foldl (stepQ good) (stepQ good s (a, some (b - 1)))
    rw [← scan b r _ h4]
    congr 1
    rw [filter_const (g := good a) (fun x hx => by
      have := mem_rngI.mp hx
      exact h3 x this.1 (by omega))]
    unfold stepQ
    dsimp only
    cases good a with
    | false => rfl
    | true =>
      rw [if_pos rfl, if_pos rfl]
      have : (b - a).toNat = (b - 1 - a).toNat + 1 := by omega
      rw [this, chunk]
      congr 1
      show a + ((b - 1 - a).toNat : Int) = b - 1
      omega
abbrev to69 (x : Int × Option Int) : Int × Int := (x.1, x.2.getD 69)
theorem stepPQ (good : Int → Bool) (f : List (Int × Option Int)) (x : Int × Option Int) (hf : ∀ y ∈ f, y.2.isSome = true) : (stepP good f x).map to69 = stepQ good (f.map to69) x ∧ ∀ y ∈ (stepP good f x).dropLast, y.2.isSome = true := by
  unfold stepP stepQ
  cases hg : good x.1 with
  | false =>
    rw [if_neg (by simp), if_neg (by simp)]
    exact ⟨rfl, fun y hy => hf y (List.dropLast_subset _ hy)⟩
  | true =>
    rw [if_pos rfl, if_pos rfl]
    rcases List.eq_nil_or_concat f with rfl | ⟨p, z, rfl⟩
    · refine ⟨rfl, fun y hy => by simp at hy⟩
    · rw [List.concat_eq_append] at hf ⊢
      rcases z with ⟨u, o⟩
      have ho := hf (u, o) (by simp)
      cases o with
      | none => cases ho
      | some v =>
        have g1 : (p ++ [(u, some v)]).getLast? = some (u, some v) := by simp
        have g2 : ((p ++ [(u, some v)]).map to69).getLast? = some (u, v) := by simp
        rw [g1]
        unfold mg
        rw [g2]
        dsimp only
        by_cases q : v + 1 = x.1
        · rw [if_pos q, if_pos (by omega), List.dropLast_concat]
          refine ⟨by simp, fun y hy => ?_⟩
          rw [List.dropLast_concat] at hy
          exact hf y (List.mem_append_left _ hy)
        · rw [if_neg q, if_neg (by omega)]
          refine ⟨by simp, fun y hy => ?_⟩
          rw [List.dropLast_concat] at hy
          exact hf y hy
theorem stepP_some (good : Int → Bool) (f : List (Int × Option Int)) (x : Int × Option Int) (hf : ∀ y ∈ f, y.2.isSome = true) (hx : x.2.isSome = true) : ∀ y ∈ stepP good f x, y.2.isSome = true := by
  unfold stepP
  split
  · split
    · rename_i a b e
      split
      · intro y hy
        rcases List.mem_append.mp hy with h | h
        · exact hf y (List.dropLast_subset _ h)
        · rw [List.mem_singleton.mp h]; exact hx
      · intro y hy
        rcases List.mem_append.mp hy with h | h
        · exact hf y h
        · rw [List.mem_singleton.mp h]; exact hx
    · intro y hy
      rcases List.mem_append.mp hy with h | h
      · exact hf y h
      · rw [List.mem_singleton.mp h]; exact hx
  · exact hf
theorem told_spans (good : Int → Bool) : ∀ (R : List Int) (f : List (Int × Option Int)), (∀ y ∈ f, y.2.isSome = true) → ((segR R).foldl (stepP good) f).map to69 = (segR R).foldl (stepQ good) (f.map to69) ∧ ∀ y ∈ ((segR R).foldl (stepP good) f).dropLast, y.2.isSome = true
  | [], f, hf => ⟨rfl, fun y hy => hf y (List.dropLast_subset _ hy)⟩
  | [a], f, hf => stepPQ good f (a, none) hf
  | a :: b :: r, f, hf => by
    have h1 := (stepPQ good f (a, some (b - 1)) hf).1
    have h2 := told_spans good (b :: r) (stepP good f (a, some (b - 1))) (stepP_some good f _ hf rfl)
    show ((segR (b :: r)).foldl (stepP good) (stepP good f (a, some (b - 1)))).map to69 = (segR (b :: r)).foldl (stepQ good) (stepQ good (f.map to69) (a, some (b - 1))) ∧ _
    rw [← h1]
    exact h2
theorem cst_of {good : Int → Bool} : ∀ (R pre full : List Int), full = pre ++ R → full.Pairwise (· < ·) → (∀ x ∈ full, x ≤ 69) → (∀ a ∈ full, ∀ L, a ≤ L → L ≤ 69 → (∀ k ∈ full, ¬ (a < k ∧ k ≤ L)) → good L = good a) → Cst good R
  | [], _, _, _, _, _, _ => trivial
  | [a], pre, full, e, hs, hb, hc => by
    refine ⟨hb a (by rw [e]; simp), fun L h1 h2 => hc a (by rw [e]; simp) L h1 h2 fun k hk hd => ?_⟩
    rw [e] at hk hs
    rcases List.mem_append.mp hk with h | h
    · have := (List.pairwise_append.mp hs).2.2 k h a (List.mem_singleton.mpr rfl); omega
    · rw [List.mem_singleton.mp h] at hd; omega
  | a :: b :: r, pre, full, e, hs, hb, hc => by
    have hs' := hs
    rw [e] at hs'
    obtain ⟨p1, p2, p3⟩ := List.pairwise_append.mp hs'
    obtain ⟨q1, q2⟩ := List.pairwise_cons.mp p2
    refine ⟨q1 b (List.mem_cons_self ..), hb b (by rw [e]; simp), fun L h1 h2 => hc a (by rw [e]; simp) L h1 (by have := hb b (by rw [e]; simp); omega) fun k hk hd => ?_, cst_of (b :: r) (pre ++ [a]) full (by rw [e]; simp) hs hb hc⟩
    rw [e] at hk
    rcases List.mem_append.mp hk with h | h
    · have := p3 k h a (List.mem_cons_self ..); omega
    · rcases List.mem_cons.mp h with h | h
      · omega
      · rcases List.mem_cons.mp h with h | h
        · omega
        · have := (List.pairwise_cons.mp q2).1 k h; omega
theorem asked_same {n n' : Int} : ∀ (rs f all : List Int), rs.Pairwise (· < ·) → (∀ a ∈ f, ∀ x ∈ rs, a < x) → (∀ a ∈ f, a ∈ all) → (∀ a ∈ rs, a ∈ all) → (∀ z ∈ all, ∀ x ∈ all, z < x → (n ≤ x - z ↔ n' ≤ x - z)) → rs.foldl (stepA n) f = rs.foldl (stepA n') f
  | [], f, all, _, _, _, _, _ => rfl
  | x :: rs, f, all, hs, h1, h2, h3, h4 => by
    obtain ⟨s1, s2⟩ := List.pairwise_cons.mp hs
    have e : stepA n f x = stepA n' f x := by
      unfold stepA
      cases hg : f.getLast? with
      | none => rfl
      | some z =>
        have hz : z ∈ f := List.mem_of_getLast? hg
        have := h4 z (h2 z hz) x (h3 x (List.mem_cons_self ..)) (h1 z hz x (List.mem_cons_self ..))
        dsimp only
        by_cases c : z + n ≤ x
        · rw [if_pos c, if_pos (by omega)]
        · rw [if_neg c, if_neg (by omega)]
    rw [List.foldl_cons, List.foldl_cons, e]
    have hsub : ∀ a ∈ stepA n' f x, a ∈ f ∨ a = x := by
      intro a ha
      rcases stepA_last n' f x with q | ⟨q, _⟩
      · rw [q] at ha
        rcases List.mem_append.mp ha with h | h
        · exact .inl h
        · exact .inr (List.mem_singleton.mp h)
      · rw [q] at ha; exact .inl ha
    refine asked_same rs _ all s2 (fun a ha y hy => ?_) (fun a ha => ?_) (fun a ha => h3 a (List.mem_cons_of_mem _ ha)) h4
    · rcases hsub a ha with h | h
      · exact h1 a h y (List.mem_cons_of_mem _ hy)
      · subst h; exact s1 y hy
    · rcases hsub a ha with h | h
      · exact h2 a h
      · subst h; exact h3 a (List.mem_cons_self ..)
theorem cutT_init {α : Type} (xs : List α) : cutT xs none (some (-1)) = xs.dropLast := by
  unfold cutT
  rw [HT.sIx_none]
  have : HT.sIx xs.length xs.length (some (-1)) = xs.length - 1 := by
    show (if (-1 : Int) < 0 then ((-1 : Int) + (xs.length : Int)).toNat else min (-1 : Int).toNat xs.length) = _
    rw [if_pos (by omega)]; omega
  rw [this, List.drop_zero, Nat.sub_zero, List.dropLast_eq_take]
/-- both say the same -/
theorem spans_same (rs ws : List Int) (hr : okW rs = true) (hs : rs.Pairwise (· < ·)) (hb : ∀ x ∈ rs, 0 ≤ x ∧ x < 60) (hw : okW ws = true) : ∃ told : List (Int × Option Int), T_lengths_right rs ws = some told ∧ told.map to69 = ((rngI 1 69).filter (goodB rs ws)).foldl stepS [] ∧ ∀ y ∈ told.dropLast, y.2.isSome = true := by
  obtain ⟨R, r1, r2, r3⟩ := len_T rs ws hr hw
  have hlow : ∀ k ∈ R, 1 ≤ k ∧ k ≤ 60 := by
    intro k hk
    rcases ((r2 k).mp hk).1 with q | ⟨one, h1, o, h2, h3, h4⟩
    · omega
    · have := hb one h1; have := hb o h2; omega
  have h1R : (1 : Int) ∈ R := (r2 1).mpr ⟨.inl rfl, by omega⟩
  obtain ⟨a, r, rfl⟩ : ∃ a r, R = a :: r := by
    cases R with
    | nil => cases h1R
    | cons a r => exact ⟨a, r, rfl⟩
  have ha : a = 1 := by
    rcases List.mem_cons.mp h1R with q | q
    · exact q.symm
    · have := (List.pairwise_cons.mp r1).1 1 q
      have := hlow a (List.mem_cons_self ..); omega
  subst ha
  have hc : Cst (goodB rs ws) (1 :: r) := by
    refine cst_of (1 :: r) [] (1 :: r) rfl r1 (fun x hx => by have := hlow x hx; omega) fun a ha L h1 h2 h3 => ?_
    unfold goodB
    have e : askedL rs L = askedL rs a := by
      refine asked_same rs [] rs hs (fun a h => nomatch h) (fun a h => nomatch h) (fun a h => h) fun z hz x hx hzx => ?_
      constructor
      · intro h; omega
      · intro h
        apply Classical.byContradiction
        intro q
        have hm : x - z + 1 ∈ (1 :: r) := (r2 _).mpr ⟨.inr ⟨z, hz, x, hx, hzx, .inr rfl⟩, by have := hb x hx; have := hb z hz; omega⟩
        exact h3 _ hm ⟨by omega, by omega⟩
    rw [e]
  obtain ⟨t1, t2⟩ := told_spans (goodB rs ws) (1 :: r) [] (fun y h => nomatch h)
  refine ⟨_, r3, ?_, t2⟩
  rw [t1, ← scan 1 r _ hc]; rfl
end K78

namespace K78
open PySem PySem.Spec PyProof.Rows L2 DL
/-! ### draws -/
def Pk (k : Nat) (pot : List Int) : Prop := PotOk k (oL eI pot)
theorem Pk.mono {k j : Nat} {p : List Int} (h : Pk k p) (hj : j ≤ k) : Pk j p := PotOk.mono h hj
theorem take_T {k : Nat} {pot : List Int} {u : Int} (h : Pk (k + 1) pot) (hu : 1 ≤ u) (hu2 : u < 1073741824) : Gd (T__law_take pot u) fun r => (0 ≤ r.1 ∧ r.1 < u) ∧ Pk k r.2 := by
  obtain ⟨v, c', e, h1, h2, h3⟩ := take_eval h hu hu2
  have h3' := h3
  obtain ⟨p0, p1, p2, rfl, _⟩ := h3
  refine ⟨(v, [p0, p1, p2]), ?_, ⟨h1, h2⟩, h3'⟩
  unfold T__law_take
  rw [e]
  rfl
theorem of_T {α : Type} {k : Nat} {pot : List Int} {xs : List α} (h : Pk (k + 1) pot) (hx : xs ≠ []) (hl : xs.length ≤ 1000) : Gd (T__law_of pot xs) fun r => r.1 ∈ xs ∧ Pk k r.2 := by
  have hp : 0 < xs.length := List.length_pos_iff.mpr hx
  unfold T__law_of
  refine (take_T h (u := xs.length) (by omega) (by omega)).bind fun r hr => ?_
  obtain ⟨⟨h1, h2⟩, h3⟩ := hr
  obtain ⟨n, hn⟩ := Int.eq_ofNat_of_zero_le h1
  have hn2 : n < xs.length := by omega
  rw [hn]
  refine Gd.step (atI_some hn2) (Gd.of ⟨List.getElem_mem hn2, h3⟩)
theorem pot_T (ns : List Int) (p : Nat) (hp : p < 3) : Gd (T__law_pot ns (p : Int)) (Pk 1000) := by
  obtain ⟨c, e, h⟩ := pot_eval ns p hp
  have h' := h
  obtain ⟨p0, p1, p2, rfl, _⟩ := h
  refine ⟨[p0, p1, p2], ?_, h'⟩
  unfold T__law_pot
  rw [e]; rfl
/-! ### drawn rows -/
theorem rising_of {l : List Int} (h : l.Pairwise (· < ·)) : risingB l = true := by
  unfold risingB
  rw [List.all_eq_true]
  intro p hp
  induction l with
  | nil => cases hp
  | cons x l ih =>
    cases l with
    | nil => cases hp
    | cons y l =>
      obtain ⟨h1, h2⟩ := List.pairwise_cons.mp h
      simp only [List.tail_cons, List.zip_cons_cons] at hp
      rcases List.mem_cons.mp hp with e | m
      · subst e; exact decide_eq_true (h1 y (List.mem_cons_self ..))
      · exact ih h2 (by simpa using m)
theorem of_rising : ∀ {l : List Int}, risingB l = true → l.Pairwise (· < ·)
  | [], _ => List.Pairwise.nil
  | [x], _ => by simp
  | x :: y :: l, h => by
    unfold risingB at h
    simp only [List.tail_cons, List.zip_cons_cons, List.all_cons, Bool.and_eq_true] at h
    have ih := of_rising (l := y :: l) h.2
    refine List.pairwise_cons.mpr ⟨fun z hz => ?_, ih⟩
    have h1 : x < y := of_decide_eq_true h.1
    rcases List.mem_cons.mp hz with e | m
    · subst e; exact h1
    · have := (List.pairwise_cons.mp ih).1 z m; omega
theorem insU_len (x : Int) : ∀ l : List Int, (insU x l).length ≤ l.length + 1
  | [] => by simp [insU]
  | y :: r => by
    unfold insU
    split
    · simp
    · split
      · simp
      · have := insU_len x r; simp; omega
theorem sortSet_len : ∀ l : List Int, (sortSet l).length ≤ l.length
  | [] => Nat.le_refl _
  | y :: r => by
    show (insU y (sortSet r)).length ≤ _
    have := insU_len y (sortSet r); have := sortSet_len r
    rw [List.length_cons]; omega
theorem rows_ok {l : List Int} {u : Int} (hl : l.length ≤ 30) (hb : ∀ x ∈ l, 0 ≤ x ∧ x < u) (hu : u ≤ 1000000) : okW (sortSet l) = true ∧ (sortSet l).Pairwise (· < ·) ∧ (∀ x ∈ sortSet l, 0 ≤ x ∧ x < u) ∧ (sortSet l).length ≤ 30 := by
  have h1 := sortSet_sorted (l := l)
  have h2 := sortSet_len l
  have h3 : ∀ x ∈ sortSet l, 0 ≤ x ∧ x < u := fun x hx => hb x (mem_sortSet.mp hx)
  refine ⟨?_, h1, h3, by omega⟩
  unfold okW beatsB
  rw [rising_of h1, Bool.and_true, Bool.and_eq_true, Bool.and_eq_true]
  refine ⟨⟨decide_eq_true (by omega), ?_⟩, decide_eq_true (by omega)⟩
  rw [List.all_eq_true]
  intro x hx
  have := h3 x hx
  simp; omega
theorem sortSet_self {l : List Int} : l = sortSet l ↔ l.Pairwise (· < ·) := by
  constructor
  · intro h; rw [h]; exact sortSet_sorted
  · intro h
    exact K78.sorted_ext h sortSet_sorted fun x => mem_sortSet.symm
/-! ### papers -/
section
variable {rs ws : List Int} {n pr : Int}
structure Pap (rs ws : List Int) (n pr : Int) : Prop where
  r : okW rs = true
  w : okW ws = true
  hrs : rs.Pairwise (· < ·)
  hws : ws.Pairwise (· < ·)
  r0 : ∀ x ∈ rs, 0 ≤ x ∧ x ≤ 1000000
  rl : rs.length ≤ 30
  wl : ws.length ≤ 30
  n1 : 1 ≤ n
  n2 : n ≤ 1000000
  p0 : 0 ≤ pr
  p2 : pr ≤ 50
theorem Pap.cost (P : Pap rs ws n pr) : T_least_cost rs ws n pr = some (dp ws n pr rs) := by
  unfold T_least_cost
  have hp := P.p0; have hp2 := P.p2
  have hn : okN n = true := by unfold okN; rw [decide_eq_true P.n1, decide_eq_true P.n2]; rfl
  refine bind_eq (show T_check_reads rs = some () by unfold T_check_reads; rw [if_pos P.r]) ?_
  refine bind_eq (show T_check_writes ws = some () by unfold T_check_writes; rw [if_pos P.w]) ?_
  refine bind_eq (show T_check_length n = some () by unfold T_check_length; rw [if_pos hn]) ?_
  refine bind_eq (show T_is_integer pr 0 1000000 = some true by unfold T_is_integer; rw [decide_eq_true (by omega), decide_eq_true (by omega)]; rfl) ?_
  rw [if_neg (by simp)]
  refine bind_eq (least_of_dp (okW_2 P.r) (okW_2 P.w) hp (by omega)) rfl
theorem Pap.bd (P : Pap rs ws n pr) : 0 ≤ (dp ws n pr rs).1 ∧ (dp ws n pr rs).1 < 100000000000000 := by
  have h := (dp_row (ws := ws) (n := n) (pr := pr) rs).bd (by have := P.n1; omega) P.p0
  have hl : (dp ws n pr rs).2.length ≤ 30 := Nat.le_trans (dp_sub (ws := ws) (n := n) (pr := pr) rs).length_le P.rl
  refine ⟨h.1, ?_⟩
  have hw := P.wl; have hn1 := P.n1; have hn := P.n2; have hp0 := P.p0; have hp := P.p2
  have h1 : (ws.length : Int) * n ≤ 30 * 1000000 := Int.mul_le_mul (by omega) hn (by omega) (by decide)
  have h1' : 0 ≤ (ws.length : Int) * n := Int.mul_nonneg (by omega) (by omega)
  have h2 : pr * ((ws.length : Int) * n) ≤ 50 * (30 * 1000000) := Int.mul_le_mul hp h1 h1' (by decide)
  have h2' : 0 ≤ pr * ((ws.length : Int) * n) := Int.mul_nonneg hp0 h1'
  have h3 : ((dp ws n pr rs).2.length : Int) * (1 + pr * ((ws.length : Int) * n)) ≤ 30 * (1 + 50 * (30 * 1000000)) := Int.mul_le_mul (by omega) (by omega) (by omega) (by decide)
  have := h.2
  omega
theorem Pap.least (P : Pap rs ws n pr) : T__law_least rs ws n pr = some (dp ws n pr rs).1 := law_least_dp (okW_2 P.r) (okW_2 P.w) P.p0 (by have := P.p2; omega) P.hrs
theorem Pap.law (P : Pap rs ws n pr) {as : List Int} (h1 : as.Pairwise (· < ·)) (h2 : ∀ a ∈ as, a ∈ rs) (hl : as.length ≤ 1000) : rs ≠ [] → T__law_cost rs ws n pr as = some (costC rs ws as n pr) := by
  intro hne
  unfold T__law_cost
  have hp := P.p2
  have hneb : neB1 rs as = true := ?_
  · rw [if_pos ⟨okW_2 P.r, okW_2 P.w, hl, P.p0, by omega, hneb⟩, cost_same P.hrs h1 h2 P.n1 hne]
  unfold neB1
  rw [Bool.or_eq_true]
  by_cases ht : as.take 1 = rs.take 1
  · refine .inr ?_
    rw [List.all_eq_true]
    intro b hb
    cases hrs : rs with
    | nil => exact absurd hrs hne
    | cons r rest =>
      rw [hrs] at ht hb
      have hr := P.hrs
      rw [hrs] at hr
      have hrb : r ≤ b := by
        rcases List.mem_cons.mp hb with e | m
        · omega
        · have := (List.pairwise_cons.mp hr).1 b m; omega
      cases as with
      | nil => cases ht
      | cons a as' =>
        simp at ht
        subst ht
        simp
        exact .inl hrb
  · exact .inl (by simp [ht])
theorem Pap.cost_of (P : Pap rs ws n pr) (as : List Int) : T_cost_of rs ws n pr as = some (costC rs ws as n pr) := by
  have := P.p2
  unfold T_cost_of
  rw [if_pos ⟨okW_2 P.w, P.p0, by omega⟩]
/-- what is said of a paper -/
theorem Pap.shows (P : Pap rs ws n pr) (c : Int) (as : List Int) (hc : 0 ≤ c ∧ c ≤ 100000000000000) (h2 : ∀ a ∈ as, a ∈ rs) (hl : as.length ≤ 30) : T_shows_cost rs ws n pr (c, as) = some (risingB as && (decide (c = (dp ws n pr rs).1) && decide (costC rs ws as n pr = some (dp ws n pr rs).1))) := by
  unfold T_shows_cost
  refine bind_eq P.cost ?_
  refine bind_eq (show T_is_tuple (c, as) 2 2 = some true from rfl) ?_
  have hpow : powT 10 14 = some 100000000000000 := by unfold powT; rw [if_pos ⟨by omega, by omega, by decide +kernel⟩]; rfl
  have hbe : beatsB as = risingB as := by
    unfold beatsB
    rw [decide_eq_true hl, Bool.true_and]
    have : (as.all fun x => decide (0 ≤ x) && decide (x ≤ 1000000)) = true := by
      rw [List.all_eq_true]
      intro x hx
      have := P.r0 x (h2 x hx)
      simp; omega
    rw [this, Bool.true_and]
  have hb7 : (orO (!true) (((powT 10 14).bind fun v_3 => ((T_is_integer (c, as).1 0 v_3).bind fun r_4 => ((orO ((!r_4)) (((T_is_beats (c, as).2).bind fun r_5 => (some ((!r_5)))))).bind fun b_6 => (some b_6)))))) = some (!risingB as) := by
    rw [show ∀ t, orO (!true) t = t from fun _ => rfl]
    refine bind_eq hpow ?_
    show ((T_is_integer c 0 100000000000000).bind _) = _
    have : T_is_integer c 0 100000000000000 = some true := by unfold T_is_integer; rw [decide_eq_true hc.1, decide_eq_true hc.2]; rfl
    rw [this]
    show ((orO (!true) ((T_is_beats as).bind fun r_5 => some (!r_5))).bind fun b_6 => some b_6) = _
    have : T_is_beats as = some (risingB as) := by unfold T_is_beats; rw [if_pos (by omega), hbe]
    rw [this]; rfl
  refine bind_eq hb7 ?_
  cases hri : risingB as with
  | false => rw [if_pos (by rfl)]; rfl
  | true =>
    rw [if_neg (by simp), Bool.true_and]
    have hall : mapF (fun _ => true) (fun x_8 => decide (x_8 ∈ rs)) (c, as).2 = some (as.map fun x => decide (x ∈ rs)) := mapT_ok (lim_of (by show as.length ≤ 1000; omega))
    have hid : (as.map fun x => decide (x ∈ rs)).all id = true := by
      rw [List.all_map, List.all_eq_true]
      intro x hx
      exact decide_eq_true (h2 x hx)
    by_cases hcc : c = (dp ws n pr rs).1
    · have e1 : (orO ((!decide ((c, as).1 = (dp ws n pr rs).1))) (((mapF (fun _ => true) (fun x_8 => decide (x_8 ∈ rs)) (c, as).2).bind fun v_10 => (some ((!(v_10.all id))))))) = some false := by
        show orO (!decide (c = (dp ws n pr rs).1)) _ = _
        rw [decide_eq_true hcc]
        show ((mapF _ _ _).bind _) = _
        rw [hall]
        show some (!((as.map fun x => decide (x ∈ rs)).all id)) = _
        rw [hid]; rfl
      refine bind_eq e1 ?_
      rw [if_neg (by simp)]
      refine bind_eq (P.cost_of as) ?_
      rw [decide_eq_true hcc, Bool.true_and]
    · have e1 : (orO ((!decide ((c, as).1 = (dp ws n pr rs).1))) (((mapF (fun _ => true) (fun x_8 => decide (x_8 ∈ rs)) (c, as).2).bind fun v_10 => (some ((!(v_10.all id))))))) = some true := by
        show orO (!decide (c = (dp ws n pr rs).1)) _ = _
        rw [decide_eq_false hcc]; rfl
      refine bind_eq e1 ?_
      rw [if_pos rfl, decide_eq_false hcc]; rfl
/-- what the law says of it -/
theorem Pap.due (P : Pap rs ws n pr) (hne : rs ≠ []) (c : Int) (as : List Int) (h2 : ∀ a ∈ as, a ∈ rs) (hl : as.length ≤ 30) : andO (decide (as = sortSet as) && decide (c = (dp ws n pr rs).1)) ((T__law_cost rs ws n pr as).bind fun r_49 => some (decide (r_49 = some (dp ws n pr rs).1))) = some (risingB as && (decide (c = (dp ws n pr rs).1) && decide (costC rs ws as n pr = some (dp ws n pr rs).1))) := by
  cases hri : risingB as with
  | false =>
    have : ¬ as = sortSet as := fun z => by
      have := rising_of (sortSet_self.mp z)
      rw [hri] at this; cases this
    rw [decide_eq_false this]; rfl
  | true =>
    have h1 := of_rising hri
    rw [decide_eq_true (sortSet_self.mpr h1), Bool.true_and, Bool.true_and]
    by_cases hcc : c = (dp ws n pr rs).1
    · rw [decide_eq_true hcc, Bool.true_and]
      show ((T__law_cost rs ws n pr as).bind _) = _
      rw [P.law h1 h2 (by omega) hne]; rfl
    · rw [decide_eq_false hcc]; rfl
end
end K78

namespace K78
open PySem PySem.Spec PyProof.Rows L2 DL
/-! ### the end of a drawn day -/
def SpanF (x_102 : Int) (s_103 : List (Int × Int)) : Option (List (Int × Int)) := ((andO ((!decide (s_103 = []))) (((atI s_103 ((-1))).bind fun v_104 => (some ((decide (v_104.2 = (x_102 - 1)))))))).bind fun b_105 => (if b_105 = true then ((atI s_103 ((-1))).bind fun v_106 => ((setT s_103 ((-1)) ((v_106.1, x_102))).bind fun spans_107 => (some spans_107))) else ((appT s_103 ((x_102, x_102))).bind fun spans_108 => (some spans_108))))
def TailR (rs ws : List Int) (wide : Int) (pot : List Int) : Option (Bool × List Int) := ((forT (FewF ws) rs ([], none)).bind fun s_95 => ((T_fewest_asked rs ws).bind fun r_96 => (if (!decide (r_96 = s_95.1)) = true then (some ((false, pot))) else (if (decide (wide = (60 : Int))) = true then ((rng2T (1) ((70 : Int))).bind fun v_97 => ((lcT (fun (x_98 : Int) => ((T__law_day rs ws x_98).bind fun r_100 => (if (decide (r_100.2 = [])) = true then (some ((some x_98))) else (some none)))) v_97).bind fun v_101 => ((forT SpanF v_101 []).bind fun s_109 => ((T_lengths_right rs ws).bind fun r_110 => ((lcT (fun (x_111 : (Int × (Option Int))) => ((if (!x_111.2.isSome) = true then (some ((69 : Int))) else ((x_111.2).bind fun most_113 => (some most_113))).bind fun v_114 => (some ((some ((x_111.1, v_114))))))) r_110).bind fun v_115 => ((orO ((!decide (v_115 = s_109))) (((mapF (fun (_ : (Int × (Option Int))) => true) (fun (x_116 : (Int × (Option Int))) => (!x_116.2.isSome)) ((cutT r_110 none (some (-1))))).bind fun v_118 => (some ((v_118.any id)))))).bind fun b_119 => (if b_119 = true then (some ((false, pot))) else (some ((true, pot)))))))))) else (some ((true, pot)))))))
theorem SpanF_eq (x : Int) (s : List (Int × Int)) (hs : s.length < lim) : SpanF x s = some (stepS s x) := by
  unfold SpanF stepS
  rcases List.eq_nil_or_concat s with rfl | ⟨p, z, rfl⟩
  · refine bind_eq (a := false) rfl ?_
    rw [if_neg (by simp), appT_ok hs]; rfl
  · rw [List.concat_eq_append] at hs ⊢
    rcases z with ⟨a, b⟩
    have hne : (!decide (p ++ [(a, b)] = [])) = true := by simp
    have hg : (p ++ [(a, b)]).getLast? = some (a, b) := by simp
    rw [hne, DL.atI_last, hg]
    refine bind_eq (a := decide (b = x - 1)) rfl ?_
    dsimp only
    by_cases q : b = x - 1
    · rw [if_pos (decide_eq_true q), if_pos q]
      show ((setT (p ++ [(a, b)]) (-1) (a, x)).bind _) = _
      rw [setT_last, List.dropLast_concat]; rfl
    · rw [if_neg (by simpa using q), if_neg q, appT_ok hs]; rfl
theorem stepS_len (s : List (Int × Int)) (x : Int) : (stepS s x).length ≤ s.length + 1 := by
  unfold stepS
  split
  · split
    · simp
    · simp
  · simp
theorem stepP_len2 (good : Int → Bool) : ∀ (l : List (Int × Option Int)) (s : List (Int × Option Int)), (l.foldl (stepP good) s).length ≤ s.length + l.length
  | [], s => by simp
  | x :: l, s => by
    have h1 := stepP_len2 good l (stepP good s x)
    have h2 := stepP_len good s x
    rw [List.foldl_cons, List.length_cons]; omega
theorem rising_len : ∀ (l : List Int) (a b : Int), l.Pairwise (· < ·) → (∀ x ∈ l, a ≤ x ∧ x < b) → l.length ≤ (b - a).toNat
  | [], a, b, _, _ => by simp
  | x :: l, a, b, h, k => by
    obtain ⟨h1, h2⟩ := List.pairwise_cons.mp h
    have := rising_len l (x + 1) b h2 fun y hy => ⟨by have := h1 y hy; omega, (k y (List.mem_cons_of_mem _ hy)).2⟩
    have hx := k x (List.mem_cons_self ..)
    rw [List.length_cons]; omega
theorem tail_T (rs ws : List Int) (wide : Int) (pot : List Int) (hr : okW rs = true) (hw : okW ws = true) (hrs : rs.Pairwise (· < ·)) (hws : ws.Pairwise (· < ·)) (hb : wide = 60 → ∀ x ∈ rs, 0 ≤ x ∧ x < 60) : TailR rs ws wide pot = some (true, pot) := by
  have hlr := okW_2 hr
  have hlw := okW_2 hw
  unfold TailR
  obtain ⟨s, e, hs⟩ := few_T ws rs hlw hlr hrs
  refine bind_eq e ?_
  refine bind_eq (show T_fewest_asked rs ws = some (freshL rs ws) by unfold T_fewest_asked; rw [if_pos ⟨hr, hw⟩]) ?_
  rw [hs, if_neg (by simp)]
  by_cases hwide : wide = 60
  · rw [if_pos (decide_eq_true hwide)]
    refine bind_eq (rng2T_ok (by omega) (by omega) (by omega) (by omega)) ?_
    show ((lcT _ (rngI 1 69)).bind _) = _
    refine bind_eq (lcT_filter (c := goodB rs ws) (by rw [rngI_len]; unfold lim; omega) (fun x hx => by
      have := mem_rngI.mp hx
      rw [day_T rs ws x hlr hlw this.1 hrs hws]
      show (if goodB rs ws x = true then some (some x) else some none) = _
      split <;> rfl)) ?_
    have hfl : ((rngI 1 69).filter (goodB rs ws)).length ≤ 69 := Nat.le_trans (List.length_filter_le _ _) (by rw [rngI_len]; omega)
    have key := forT_fold (f := SpanF) stepS (fun pre s => s.length ≤ pre.length) ((rngI 1 69).filter (goodB rs ws)) [] [] (Nat.le_refl _) (fun pre x post s e hs => by
      have hp : pre.length < 69 := by
        have := congrArg List.length e
        simp at this
        have h2 : ((rngI 1 69).filter (goodB rs ws)).length = pre.length + (post.length + 1) := by simpa using this
        omega
      refine ⟨SpanF_eq x s (by unfold lim; omega), ?_⟩
      have := stepS_len s x
      rw [List.length_append, List.length_singleton]; omega)
    refine bind_eq key.1 ?_
    obtain ⟨told, t1, t2, t3⟩ := spans_same rs ws hr hrs (hb hwide) hw
    refine bind_eq t1 ?_
    have hlen : told.length ≤ 69 := by
      have h1 := congrArg List.length t2
      rw [List.length_map] at h1
      rw [h1]
      have := key.2
      simp at this
      omega
    have e1 : lcT (fun (x_111 : (Int × (Option Int))) => ((if (!x_111.2.isSome) = true then (some ((69 : Int))) else ((x_111.2).bind fun most_113 => (some most_113))).bind fun v_114 => (some ((some ((x_111.1, v_114))))))) told = some (told.map to69) := lcT_map (by unfold lim; omega) (fun x _ => by
      rcases x with ⟨a, o⟩
      cases o <;> rfl)
    refine bind_eq e1 ?_
    have e2 : (orO ((!decide (told.map to69 = ((rngI 1 69).filter (goodB rs ws)).foldl stepS []))) (((mapF (fun (_ : (Int × (Option Int))) => true) (fun (x_116 : (Int × (Option Int))) => (!x_116.2.isSome)) ((cutT told none (some (-1))))).bind fun v_118 => (some ((v_118.any id)))))) = some false := by
      rw [decide_eq_true t2, cutT_init]
      show ((mapF _ _ told.dropLast).bind _) = _
      have : told.dropLast.length ≤ lim := by rw [List.length_dropLast]; unfold lim; omega
      rw [mapT_ok this]
      show some ((told.dropLast.map fun x => !x.2.isSome).any id) = _
      congr 1
      rw [List.any_map, List.any_eq_false]
      intro x hx
      have q := t3 x hx
      intro z
      simp at z
      rw [z] at q; cases q
    refine bind_eq e2 ?_
    rw [if_neg (by simp)]
  · rw [if_neg (by simpa using hwide)]
/-! ### a drawn day -/
theorem draws_T {k : Nat} {pot : List Int} {u m : Int} (h : Pk (30 + k) pot) (hu : 1 ≤ u) (hu2 : u < 1073741824) (hm : 0 ≤ m ∧ m < 31) : Gd (lcST (fun (x_5 : Int) s_6 => ((T__law_take s_6 u).bind fun r_7 => (some ((some r_7.1), r_7.2)))) (rngI 0 m.toNat) pot) fun r => (r.1.length ≤ 30 ∧ ∀ b ∈ r.1, 0 ≤ b ∧ b < u) ∧ Pk k r.2 := by
  refine (lcST_draw Pk (fun b => 0 ≤ b ∧ b < u) (rngI 0 m.toNat) pot k (by rw [rngI_len]; unfold lim; omega) (h.mono (by rw [rngI_len]; omega)) (fun x _ k s hs => ?_)).mono fun r hr => ⟨⟨by have := hr.1.1; rw [rngI_len] at this; omega, hr.1.2⟩, hr.2⟩
  refine (take_T hs hu hu2).bind fun r hr => Gd.of ⟨⟨r.1, rfl, hr.1⟩, hr.2⟩
theorem step_rev (xs : List Int) : (∀ x ∈ stepL xs (-1), x ∈ xs) ∧ (stepL xs (-1)).length ≤ xs.length := by
  unfold stepL
  constructor
  · intro x hx
    obtain ⟨m, _, h⟩ := List.mem_filterMap.mp hx
    exact List.mem_of_getElem? h
  · refine Nat.le_trans (List.length_filterMap_le _ _) ?_
    rw [List.length_range]
    have e : Builtin.Slice.sliceAdjust none none (-1) (xs.length : Int) = ((xs.length : Int) - 1, -1) := rfl
    rw [e]
    unfold Builtin.Slice.slicePlaces
    rw [if_neg (by omega)]
    split
    · have : ((xs.length : Int) - 1 - -1 - 1) / (- -1) = xs.length - 1 := by
        rw [show (- -1 : Int) = 1 by omega, Int.ediv_one]; omega
      rw [this]; omega
    · omega
theorem right_T {k : Nat} {pot : List Int} (h : Pk (67 + k) pot) : Gd (T__law_right pot) fun r => r.1 = true ∧ Pk k r.2 := by
  unfold T__law_right
  refine Gd.step (a := 1000000) (by unfold powT; rw [if_pos ⟨by omega, by omega, by decide +kernel⟩]; rfl) ?_
  refine (of_T (k := 66 + k) (h.mono (by omega)) (by simp) (by simp)).bind fun r2 h2 => ?_
  obtain ⟨h2a, h2⟩ := h2
  have hwide : r2.1 = 60 ∨ r2.1 = 1000000 := by simpa using h2a
  obtain ⟨wide, pot2⟩ := r2
  dsimp only at hwide h2 ⊢
  refine (take_T (k := 65 + k) (h2.mono (by omega)) (u := 31) (by omega) (by omega)).bind fun r3 h3 => ?_
  refine Gd.step (rng1T_ok (by omega) (by omega)) ?_
  refine (draws_T (k := 35 + k) (h3.2.mono (by omega)) (u := wide) (by omega) (by omega) h3.1).bind fun v8 h8 => ?_
  refine Gd.step (a := sortSet v8.1) (by unfold ssT; rw [if_pos (by omega)]) ?_
  refine (take_T (k := 34 + k) (h8.2.mono (by omega)) (u := 31) (by omega) (by omega)).bind fun r10 h10 => ?_
  refine Gd.step (rng1T_ok (by omega) (by omega)) ?_
  refine (draws_T (k := 4 + k) (h10.2.mono (by omega)) (u := wide) (by omega) (by omega) h10.1).bind fun v15 h15 => ?_
  refine Gd.step (a := sortSet v15.1) (by unfold ssT; rw [if_pos (by omega)]) ?_
  have hw3 : 1 ≤ wide / 3 ∧ wide / 3 < 1000000 := by omega
  refine (take_T (k := 3 + k) (h15.2.mono (by omega)) (u := wide / 3) (by omega) (by omega)).bind fun r17 h17 => ?_
  refine (of_T (k := 2 + k) (h17.2.mono (by omega)) (xs := [(2 : Int), 50]) (by simp) (by simp)).bind fun r18 h18 => ?_
  have h18a : r18.1 = 2 ∨ r18.1 = 50 := by simpa using h18.1
  refine (take_T (k := 1 + k) (h18.2.mono (by omega)) (u := r18.1) (by omega) (by omega)).bind fun r19 h19 => ?_
  obtain ⟨hR1, hR2, hR3, hR4⟩ := rows_ok h8.1.1 h8.1.2 (by omega)
  obtain ⟨hW1, hW2, hW3, hW4⟩ := rows_ok h15.1.1 h15.1.2 (by omega)
  generalize sortSet v8.1 = rs at hR1 hR2 hR3 hR4 ⊢
  generalize sortSet v15.1 = ws at hW1 hW2 hW3 hW4 ⊢
  have hn : 1 ≤ 1 + r17.1 ∧ 1 + r17.1 ≤ 1000000 := by omega
  generalize (1 + r17.1) = n at hn ⊢
  have hpr : 0 ≤ r19.1 ∧ r19.1 ≤ 50 := by omega
  have hpot := h19.2
  obtain ⟨pr, pot19⟩ := r19
  dsimp only at hpr hpot ⊢
  have P : Pap rs ws n pr := ⟨hR1, hW1, hR2, hW2, fun x hx => by have := hR3 x hx; omega, hR4, hW4, hn.1, hn.2, hpr.1, hpr.2⟩
  have hlr := okW_2 hR1
  have hlw := okW_2 hW1
  have hokn : okN n = true := by unfold okN; rw [decide_eq_true hn.1, decide_eq_true hn.2]; rfl
  refine Gd.step (day_T rs ws n hlr hlw hn.1 hR2 hW2) ?_
  refine Gd.step (show T_asked rs n = some (askedL rs n) by unfold T_asked; rw [if_pos ⟨hR1, hokn⟩]) ?_
  have e23 : (orO ((!decide (askedL rs n = (askedL rs n, wrongL rs ws (askedL rs n)).1))) (((T_wrong rs ws n).bind fun r_22 => (some ((!decide (r_22 = (askedL rs n, wrongL rs ws (askedL rs n)).2))))))) = some false := by
    rw [decide_eq_true (show askedL rs n = (askedL rs n, wrongL rs ws (askedL rs n)).1 from rfl)]
    show ((T_wrong rs ws n).bind _) = _
    rw [show T_wrong rs ws n = some (wrongL rs ws (askedL rs n)) by unfold T_wrong; rw [if_pos ⟨hR1, hW1, hokn⟩]]
    simp
  refine Gd.step e23 ?_
  rw [if_neg (by simp)]
  refine Gd.step (law_waits_T rs ws n hlr hlw) ?_
  refine Gd.step (mapT_ok (by rw [List.length_zip]; unfold lim lwaits; simp; omega)) ?_
  refine Gd.step (show T_done ws rs n = some (doneL ws rs n) by unfold T_done; rw [if_pos ⟨hR1, hW1, hokn⟩]) ?_
  rw [done_law, if_neg (by simp)]
  have tail : ∀ pot, TailR rs ws wide pot = some (true, pot) := fun pot => tail_T rs ws wide pot hR1 hW1 hR2 hW2 (fun q x hx => by have := hR3 x hx; omega)
  by_cases hne : rs = []
  · rw [if_neg (by simp [hne])]
    show Gd (TailR rs ws wide pot19) _
    exact gd_eq (tail pot19) ⟨rfl, hpot.mono (by omega)⟩
  · rw [if_pos (by simp [hne])]
    refine Gd.step P.cost ?_
    refine Gd.step P.least ?_
    have hrow := dp_sub (ws := ws) (n := n) (pr := pr) rs
    have hrs : (dp ws n pr rs).2.Pairwise (· < ·) := hR2.sublist hrow
    have hrm : ∀ a ∈ (dp ws n pr rs).2, a ∈ rs := fun a ha => hrow.subset ha
    have hrl : (dp ws n pr rs).2.length ≤ 30 := Nat.le_trans hrow.length_le hR4
    have e32 : (orO ((!decide ((dp ws n pr rs).1 = (dp ws n pr rs).1))) (((T__law_cost rs ws n pr (dp ws n pr rs).2).bind fun r_31 => (some ((!decide (r_31 = (some (dp ws n pr rs).1)))))))) = some false := by
      rw [decide_eq_true rfl]
      show ((T__law_cost rs ws n pr (dp ws n pr rs).2).bind _) = _
      rw [P.law hrs hrm (by omega) hne, dp_cost rs hR2]
      simp
    refine Gd.step e32 ?_
    rw [if_neg (by simp)]
    obtain ⟨hv1, hv2⟩ := step_rev (dp ws n pr rs).2
    refine Gd.step (a := stepL (dp ws n pr rs).2 (-1)) (by unfold stepT; rw [if_pos ⟨by omega, by unfold lim; omega⟩]) ?_
    refine Gd.step rfl ?_
    have hrp : 0 < rs.length := List.length_pos_iff.mpr hne
    refine (take_T (k := k) (hpot.mono (by omega)) (u := rs.length) (by omega) (by omega)).bind fun r35 h35 => ?_
    obtain ⟨⟨h35a, h35b⟩, h35c⟩ := h35
    obtain ⟨i, hi⟩ := Int.eq_ofNat_of_zero_le h35a
    have hi2 : i < rs.length := by omega
    obtain ⟨at_, pot35⟩ := r35
    dsimp only at hi h35c ⊢
    subst hi
    refine Gd.step (atI_some hi2) ?_
    refine Gd.step (addTT_ok (by simp [lim]; omega)) ?_
    refine Gd.step (a := sortSet ((dp ws n pr rs).2 ++ [rs[i]])) (by unfold ssT; rw [if_pos (by simp; omega)]) ?_
    refine Gd.step (appT_ok (by simp [lim])) ?_
    refine Gd.step (lcT_filter (c := fun x => !decide (x = rs[i])) (by unfold lim; omega) (fun x _ => by
      rw [atI_some hi2]
      show (if (!decide (x = rs[i])) = true then some (some x) else some none) = _
      split <;> rfl)) ?_
    refine Gd.step (appT_ok (by simp [lim])) ?_
    have hbd := P.bd
    -- what may be asked of
    have hcut : (cutT (dp ws n pr rs).2 (some 1) none) = ((dp ws n pr rs).2.drop (HT.sIx (dp ws n pr rs).2.length 0 (some 1))).take ((dp ws n pr rs).2.length - HT.sIx (dp ws n pr rs).2.length 0 (some 1)) := rfl
    have hall : ∀ x ∈ [((dp ws n pr rs).1, (dp ws n pr rs).2), ((dp ws n pr rs).1 + 1, (dp ws n pr rs).2), ((dp ws n pr rs).1, cutT (dp ws n pr rs).2 (some 1) none), ((dp ws n pr rs).1, stepL (dp ws n pr rs).2 (-1)), ((dp ws n pr rs).1, rs), ((dp ws n pr rs).1, askedL rs n)] ++ [((dp ws n pr rs).1, sortSet ((dp ws n pr rs).2 ++ [rs[i]]))] ++ [((dp ws n pr rs).1, (dp ws n pr rs).2.filter fun x => !decide (x = rs[i]))], (0 ≤ x.1 ∧ x.1 ≤ 100000000000000) ∧ (∀ a ∈ x.2, a ∈ rs) ∧ x.2.length ≤ 30 := by
      intro x hx
      simp only [List.mem_append, List.mem_cons, List.not_mem_nil, or_false] at hx
      rcases hx with ((h | h | h | h | h | h) | h) | h
      · subst h; exact ⟨by dsimp only; omega, hrm, hrl⟩
      · subst h; exact ⟨by dsimp only; omega, hrm, hrl⟩
      · subst h
        refine ⟨by dsimp only; omega, fun a ha => ?_, ?_⟩
        · dsimp only at ha
          rw [hcut] at ha
          exact hrm a (List.drop_subset _ _ (List.take_subset _ _ ha))
        · dsimp only
          rw [hcut, List.length_take, List.length_drop]; omega
      · subst h; exact ⟨by dsimp only; omega, fun a ha => hrm a (hv1 a ha), by dsimp only; omega⟩
      · subst h; exact ⟨by dsimp only; omega, fun a ha => ha, hR4⟩
      · subst h
        refine ⟨by dsimp only; omega, fun a ha => ?_, ?_⟩
        · rcases foldA_sub n rs [] a ha with q | q
          · cases q
          · exact q
        · have := foldA_len n rs []
          show (rs.foldl (stepA n) []).length ≤ 30
          simp at this; omega
      · subst h
        have hsm : ∀ a ∈ sortSet ((dp ws n pr rs).2 ++ [rs[i]]), a ∈ rs := fun a ha => by
          rcases List.mem_append.mp (mem_sortSet.mp ha) with q | q
          · exact hrm a q
          · rw [List.mem_singleton.mp q]; exact List.getElem_mem hi2
        refine ⟨by dsimp only; omega, hsm, ?_⟩
        have hnd : (sortSet ((dp ws n pr rs).2 ++ [rs[i]])).Nodup := sortSet_sorted.imp fun h => by omega
        exact Nat.le_trans (hnd.length_le_of_subset hsm) hR4
      · subst h
        exact ⟨by dsimp only; omega, fun a ha => hrm a (List.mem_filter.mp ha).1, Nat.le_trans (List.length_filter_le _ _) hrl⟩
    refine (forR_all (fun _ _ => True) _ () trivial (fun pre x post s e _ => ?_)).bind fun rr hrr => ?_
    · obtain ⟨c1, c2, c3⟩ := hall x (by
        have : x ∈ pre ++ x :: post := by simp
        rw [← e] at this
        exact this)
      obtain ⟨c, as⟩ := x
      dsimp only at c1 c2 c3 ⊢
      refine Gd.step (a := sortSet as) (by unfold ssT; rw [if_pos (by omega)]) ?_
      refine Gd.step rfl ?_
      refine Gd.step (P.due hne c as c2 c3) ?_
      refine Gd.step (P.shows c as c1 c2 c3) ?_
      rw [if_neg (by simp)]
      exact Gd.of ⟨(), rfl, trivial⟩
    · obtain ⟨s', rfl, _⟩ := hrr
      show Gd (TailR rs ws wide pot35) _
      exact gd_eq (tail pot35) ⟨rfl, h35c⟩
end K78

namespace K78
open PySem PySem.Spec PyProof.Rows L2 DL
def evenL (s : Int) : List Int := (rngI 0 30).map fun x => s * x
def chkE (s m : Int) : Bool := okW (evenL s) && okN (s * m) && decide (askedL (evenL s) (s * m) = stepL (evenL s) m) && decide ((stepL (evenL s) m).length ≤ 1000) && okW [s * 29 + s * m]
theorem chk_even : ((rngI 1 9).all fun s => (rngI 1 6).all fun m => chkE s m) = true := by decide +kernel
def chkC (s m : Int) : Bool := decide ((dp [] (s * m) 5 (evenL s)).1 = (29 + m) / m) && decide ((dp [s * 29 + s * m] (s * m) 9 (evenL s)).1 = (29 + m) / m)
theorem chk_cost : ((rngI 1 9).all fun s => (rngI 1 6).all fun m => chkC s m) = true := by decide +kernel
theorem chk_at {f : Int → Int → Bool} (h : ((rngI 1 9).all fun s => (rngI 1 6).all fun m => f s m) = true) {s m : Int} (hs : 1 ≤ s ∧ s ≤ 9) (hm : 1 ≤ m ∧ m ≤ 6) : f s m = true :=
  List.all_eq_true.mp (List.all_eq_true.mp h s (mem_rngI.mpr ⟨hs.1, by omega⟩)) m (mem_rngI.mpr ⟨hm.1, by omega⟩)
theorem cost_even (rs ws : List Int) (n pr : Int) (hr : okW rs = true) (hw : okW ws = true) (hn : okN n = true) (hp : 0 ≤ pr ∧ pr ≤ 1000000) : T_least_cost rs ws n pr = some (dp ws n pr rs) := by
  unfold T_least_cost
  refine bind_eq (show T_check_reads rs = some () by unfold T_check_reads; rw [if_pos hr]) ?_
  refine bind_eq (show T_check_writes ws = some () by unfold T_check_writes; rw [if_pos hw]) ?_
  refine bind_eq (show T_check_length n = some () by unfold T_check_length; rw [if_pos hn]) ?_
  refine bind_eq (show T_is_integer pr 0 1000000 = some true by unfold T_is_integer; rw [decide_eq_true hp.1, decide_eq_true hp.2]; rfl) ?_
  rw [if_neg (by simp)]
  refine bind_eq (least_of_dp (okW_2 hr) (okW_2 hw) hp.1 hp.2) rfl
theorem places_T (ns : List Int) : T__law_places ns 3 = some (rngI 0 (placesN ns)) := by
  unfold T__law_places
  have e : (if (if (ns.length : Int) < 3 then (ns.length : Int) else 3) > 1 then (if (ns.length : Int) < 3 then (ns.length : Int) else 3) else 1) = (placesN ns : Int) := by unfold placesN; omega
  rw [e]
  have hp : placesN ns ≤ 3 := by unfold placesN; omega
  refine bind_eq (show lrngT (placesN ns : Int) = some (rngI 0 (placesN ns)) by unfold lrngT; rw [if_pos ⟨by omega, by omega⟩]; simp) rfl
def LawF (a_script : List Int) : Int → Unit → Option (Unit ⊕ Bool) := (fun (x_2 : Int) (s_3 : Unit) => ((T__law_pot a_script x_2).bind fun r_4 => ((rng1T ((2 : Int))).bind fun v_5 => ((lcST (fun (x_6 : Int) s_7 => ((T__law_right s_7).bind fun r_8 => (some ((some r_8.1), r_8.2)))) v_5 r_4).bind fun v_9 => (if (!(v_9.1.all id)) = true then (some (.inr false)) else ((T__law_take v_9.2 ((9 : Int))).bind fun r_10 => ((T__law_take r_10.2 ((6 : Int))).bind fun r_11 => ((rng1T ((30 : Int))).bind fun v_12 => ((lcT (fun (x_13 : Int) => ((mulT (((1 : Int) + r_10.1)) x_13).bind fun v_15 => (some ((some v_15))))) v_12).bind fun v_16 => ((mulT (((1 : Int) + r_10.1)) (((1 : Int) + r_11.1))).bind fun v_17 => ((T_asked v_16 v_17).bind fun r_18 => ((stepT v_16 (((1 : Int) + r_11.1))).bind fun v_19 => ((orO ((!decide (r_18 = v_19))) (((mulT (((1 : Int) + r_10.1)) (((1 : Int) + r_11.1))).bind fun v_20 => ((T_least_cost v_16 ([]) v_20 ((5 : Int))).bind fun r_21 => ((fdivT (((29 : Int) + ((1 : Int) + r_11.1))) (((1 : Int) + r_11.1))).bind fun v_22 => (some ((!decide (r_21.1 = v_22))))))))).bind fun b_23 => (if b_23 = true then (some (.inr false)) else ((mulT (((1 : Int) + r_10.1)) (((1 : Int) + r_11.1))).bind fun v_24 => ((mulT (((1 : Int) + r_10.1)) (((1 : Int) + r_11.1))).bind fun v_25 => ((T_least_cost v_16 ([((((1 : Int) + r_10.1) * (29 : Int)) + v_24)]) v_25 ((9 : Int))).bind fun r_26 => ((fdivT (((29 : Int) + ((1 : Int) + r_11.1))) (((1 : Int) + r_11.1))).bind fun v_27 => (if (!decide (r_26.1 = v_27)) = true then (some (.inr false)) else (some (.inl ())))))))))))))))))))))
theorem law_T (ns : List Int) : T_law ns = some true := by
  unfold T_law
  refine bind_eq (places_T ns) ?_
  have hp : placesN ns ≤ 3 := by unfold placesN; omega
  obtain ⟨rr, e, s', rfl, _⟩ := forR_all (β := Bool) (f := LawF ns) (fun _ _ => True) (rngI 0 (placesN ns)) () trivial (fun pre x post s e _ => by
    have hx : 0 ≤ x ∧ x < (placesN ns : Int) := by
      have : x ∈ rngI 0 (placesN ns) := by rw [e]; simp
      have := mem_rngI.mp this; omega
    obtain ⟨p, rfl⟩ := Int.eq_ofNat_of_zero_le hx.1
    unfold LawF
    refine (pot_T ns p (by omega)).bind fun pot hpot => ?_
    refine Gd.step (rng1T_ok (by omega) (by omega)) ?_
    refine (lcST_draw (fun k s => Pk (67 * k + 2) s) (fun b => b = true) (rngI 0 (2 : Int).toNat) pot 0 (by rw [rngI_len]; unfold lim; omega) (hpot.mono (by rw [rngI_len]; simp)) (fun x _ k s hs => (right_T (k := 67 * k + 2) (hs.mono (by omega))).bind fun r hr => Gd.of ⟨⟨r.1, rfl, hr.1⟩, hr.2⟩)).bind fun v9 h9 => ?_
    have hall : v9.1.all id = true := List.all_eq_true.mpr fun b hb => h9.1.2 b hb
    rw [hall, if_neg (by simp)]
    refine (take_T (k := 1) (h9.2.mono (by omega)) (u := 9) (by omega) (by omega)).bind fun r10 h10 => ?_
    refine (take_T (k := 0) h10.2 (u := 6) (by omega) (by omega)).bind fun r11 h11 => ?_
    refine Gd.step (rng1T_ok (by omega) (by omega)) ?_
    have hs : 1 ≤ 1 + r10.1 ∧ 1 + r10.1 ≤ 9 := by have := h10.1; omega
    have hm : 1 ≤ 1 + r11.1 ∧ 1 + r11.1 ≤ 6 := by have := h11.1; omega
    generalize (1 + r10.1) = st at hs ⊢
    generalize (1 + r11.1) = m at hm ⊢
    have c1 := chk_at chk_even hs hm
    have c2 := chk_at chk_cost hs hm
    unfold chkE at c1
    unfold chkC at c2
    simp only [Bool.and_eq_true, decide_eq_true_eq] at c1 c2
    obtain ⟨⟨⟨⟨d1, d2⟩, d3⟩, d4⟩, d5⟩ := c1
    obtain ⟨d6, d7⟩ := c2
    have hmul : mulT st m = some (st * m) := mulT_l (by omega) (by omega)
    refine Gd.step (show lcT (fun (x_13 : Int) => ((mulT st x_13).bind fun v_15 => (some ((some v_15))))) (rngI 0 (30 : Int).toNat) = some (evenL st) from lcT_map (by rw [rngI_len]; unfold lim; omega) fun x _ => by rw [mulT_l (by omega) (by omega)]; rfl) ?_
    refine Gd.step hmul ?_
    refine Gd.step (show T_asked (evenL st) (st * m) = some (askedL (evenL st) (st * m)) by unfold T_asked; rw [if_pos ⟨d1, d2⟩]) ?_
    refine Gd.step (a := stepL (evenL st) m) (by unfold stepT; rw [if_pos ⟨by omega, by unfold lim; omega⟩]) ?_
    have hdiv : fdivT (29 + m) m = some ((29 + m) / m) := by unfold fdivT; rw [if_pos ⟨by omega, by omega⟩]
    have e23 : (orO ((!decide (askedL (evenL st) (st * m) = stepL (evenL st) m))) (((mulT st m).bind fun v_20 => ((T_least_cost (evenL st) ([]) v_20 ((5 : Int))).bind fun r_21 => ((fdivT (((29 : Int) + m)) m).bind fun v_22 => (some ((!decide (r_21.1 = v_22))))))))) = some false := by
      rw [decide_eq_true d3, hmul]
      show ((T_least_cost (evenL st) [] (st * m) 5).bind _) = _
      rw [cost_even (evenL st) [] (st * m) 5 d1 (by decide) d2 (by omega)]
      show ((fdivT (29 + m) m).bind _) = _
      rw [hdiv]
      show some (!decide ((dp [] (st * m) 5 (evenL st)).1 = (29 + m) / m)) = _
      rw [decide_eq_true d6]; rfl
    refine Gd.step e23 ?_
    rw [if_neg (by simp)]
    refine Gd.step hmul ?_
    refine Gd.step hmul ?_
    refine Gd.step (cost_even (evenL st) [st * 29 + st * m] (st * m) 9 d1 d5 d2 (by omega)) ?_
    refine Gd.step hdiv ?_
    rw [decide_eq_true d7, if_neg (by simp)]
    exact Gd.of ⟨(), rfl, trivial⟩)
  exact bind_eq e rfl
theorem law_math (ns : List Int) (hl : ns.length ≤ 63) (hb : ∀ z ∈ ns, Builtin.Int.intBits z ≤ 1048576) : D_law [.scr ns] = some (.dat (.bool true), noCn) := t_law ns true (law_T ns)
end K78

namespace K78
open PySem PySem.Spec PyProof.Rows L2 DL
def spLaw (K : Fg) : Sp := fun vs H Q _ => ∃ (a : Addr) (ns : List Int), vs = [.ref a] ∧ SqL K H a (ns.map V.int) ∧ ns.length ≤ 63 ∧ (∀ z ∈ ns, Builtin.Int.intBits z ≤ 1048576) ∧ ∀ H', Q (.bl true) H'
theorem top_ok {l : PySem.W.OpenLaw} {w : World} {K : Fg} {mg : Str → Option Value} {fa : Addr} (T : Tp K mg) (hfa : mg "law" = some (.ref fa)) :
    ∃ fd : FuncData, (∀ (s : Shared) (v : Value), BindsTo s fd ⟨[v], []⟩ [("script", v)]) ∧ ∀ base : Heap, K.In base → base.Ns mainGlobals mg → FnOk l.prog w K mg base CX0 8 fa fd ["script"] (spLaw K) := by
  have e := hfa.symm.trans T.g_law
  cases e
  refine ⟨T.fd_law, T.bl, fun base _ _ => (ok_law T).imp fun vs H Q E h => ?_⟩
  obtain ⟨a, ns, rfl, hs, hl, hb, q⟩ := h
  refine ⟨fun _ => false, [.scr ns], rfl, rfl, rfl, fun _ z => Bool.noConfusion z, fun i r e => ?_, ?_⟩
  · cases i with
    | zero => cases e; exact ⟨_, rfl, a, rfl, by rw [show hid (fun _ => false) H = H by funext b; rfl]; exact hs⟩
    | succ i => simp at e
  · rw [law_math ns hl hb]
    intro v H' O' ct
    have := ct.res
    cases this
    exact q H'
end K78
open PySem PySem.W PyProof.Rows in
set_option maxRecDepth 100000 in
set_option maxHeartbeats 0 in
theorem PySem.Challenge.cw_nearestkeeps_k78_whole_leases_by_own_day_holds : PySem.Challenge.rw_nearestkeeps_k78_whole_leases_by_own_day.Holds := by
  w_on; o_law; k_head; (case hw => w_witness2)
  k_fill
  refine L2.walk_ofB (l := PySem.Challenge.rw_nearestkeeps_k78_whole_leases_by_own_day) (n := 63) (k := 8) (x := "script") (CX := fun _ => L2.CX0) (sp := fun w => K78.spLaw _) rfl (by decide) rfl ⟨rfl, by decide, by decide⟩ (fun w h Y => PySem.W.kIn_of Y) ?F (fun _ _ a ns hl hb _ hS => ⟨a, ns, rfl, hS, hl, hb, fun _ => rfl⟩) (fun _ _ _ _ _ h => h)
  case F =>
    intro w mg fa h KX G hmg
    refine' K78.top_ok (K78.mkT KX G ?a0 ?l0 ?c0 ?k0 ?a1 ?l1 ?c1 ?k1 ?a2 ?l2 ?c2 ?k2 ?a3 ?l3 ?c3 ?k3 ?a4 ?l4 ?c4 ?k4 ?a5 ?l5 ?c5 ?k5 ?a6 ?l6 ?c6 ?k6 ?a7 ?l7 ?c7 ?k7 ?a8 ?l8 ?c8 ?k8 ?a9 ?l9 ?c9 ?k9 ?a10 ?l10 ?c10 ?k10 ?a11 ?l11 ?c11 ?k11 ?a12 ?l12 ?c12 ?k12 ?a13 ?l13 ?c13 ?k13 ?a14 ?l14 ?c14 ?k14 ?a15 ?l15 ?c15 ?k15 ?a16 ?l16 ?c16 ?k16 ?a17 ?l17 ?c17 ?k17 ?a18 ?l18 ?c18 ?k18 ?a19 ?l19 ?c19 ?k19 ?a20 ?l20 ?c20 ?k20 ?a21 ?l21 ?c21 ?k21 ?a22 ?l22 ?c22 ?k22 ?a23 ?l23 ?c23 ?k23 ?a24 ?l24 ?c24 ?k24 ?a25 ?l25 ?c25 ?k25 ?a26 ?l26 ?c26 ?k26 ?a27 ?l27 ?c27 ?k27 ?a28 ?l28 ?c28 ?k28 ?a29 ?l29 ?c29 ?k29 ?a30 ?l30 ?c30 ?k30 ?a31 ?l31 ?c31 ?k31 ?q0 ?r0 ?q1 ?r1 ?q2 ?r2 ?z0 ?z1 ?z2 ?z3 ?z4 ?z5 ?z6 ?z7 ?z8 ?z9 ?z10 ?z11 ?z12 ?z13 ?z14 ?z15 ?z16 ?z17) hmg
    (case a0 => k_is)
    (case l0 => k_is)
    (case c0 => k_is)
    (case k0 => k_is)
    (case a1 => k_is)
    (case l1 => k_is)
    (case c1 => k_is)
    (case k1 => k_is)
    (case a2 => k_is)
    (case l2 => k_is)
    (case c2 => k_is)
    (case k2 => k_is)
    (case a3 => k_is)
    (case l3 => k_is)
    (case c3 => k_is)
    (case k3 => k_is)
    (case a4 => k_is)
    (case l4 => k_is)
    (case c4 => k_is)
    (case k4 => k_is)
    (case a5 => k_is)
    (case l5 => k_is)
    (case c5 => k_is)
    (case k5 => k_is)
    (case a6 => k_is)
    (case l6 => k_is)
    (case c6 => k_is)
    (case k6 => k_is)
    (case a7 => k_is)
    (case l7 => k_is)
    (case c7 => k_is)
    (case k7 => k_is)
    (case a8 => k_is)
    (case l8 => k_is)
    (case c8 => k_is)
    (case k8 => k_is)
    (case a9 => k_is)
    (case l9 => k_is)
    (case c9 => k_is)
    (case k9 => k_is)
    (case a10 => k_is)
    (case l10 => k_is)
    (case c10 => k_is)
    (case k10 => k_is)
    (case a11 => k_is)
    (case l11 => k_is)
    (case c11 => k_is)
    (case k11 => k_is)
    (case a12 => k_is)
    (case l12 => k_is)
    (case c12 => k_is)
    (case k12 => k_is)
    (case a13 => k_is)
    (case l13 => k_is)
    (case c13 => k_is)
    (case k13 => k_is)
    (case a14 => k_is)
    (case l14 => k_is)
    (case c14 => k_is)
    (case k14 => k_is)
    (case a15 => k_is)
    (case l15 => k_is)
    (case c15 => k_is)
    (case k15 => k_is)
    (case a16 => k_is)
    (case l16 => k_is)
    (case c16 => k_is)
    (case k16 => k_is)
    (case a17 => k_is)
    (case l17 => k_is)
    (case c17 => k_is)
    (case k17 => k_is)
    (case a18 => k_is)
    (case l18 => k_is)
    (case c18 => k_is)
    (case k18 => k_is)
    (case a19 => k_is)
    (case l19 => k_is)
    (case c19 => k_is)
    (case k19 => k_is)
    (case a20 => k_is)
    (case l20 => k_is)
    (case c20 => k_is)
    (case k20 => k_is)
    (case a21 => k_is)
    (case l21 => k_is)
    (case c21 => k_is)
    (case k21 => k_is)
    (case a22 => k_is)
    (case l22 => k_is)
    (case c22 => k_is)
    (case k22 => k_is)
    (case a23 => k_is)
    (case l23 => k_is)
    (case c23 => k_is)
    (case k23 => k_is)
    (case a24 => k_is)
    (case l24 => k_is)
    (case c24 => k_is)
    (case k24 => k_is)
    (case a25 => k_is)
    (case l25 => k_is)
    (case c25 => k_is)
    (case k25 => k_is)
    (case a26 => k_is)
    (case l26 => k_is)
    (case c26 => k_is)
    (case k26 => k_is)
    (case a27 => k_is)
    (case l27 => k_is)
    (case c27 => k_is)
    (case k27 => k_is)
    (case a28 => k_is)
    (case l28 => k_is)
    (case c28 => k_is)
    (case k28 => k_is)
    (case a29 => k_is)
    (case l29 => k_is)
    (case c29 => k_is)
    (case k29 => k_is)
    (case a30 => k_is)
    (case l30 => k_is)
    (case c30 => k_is)
    (case k30 => k_is)
    (case a31 => k_is)
    (case l31 => k_is)
    (case c31 => k_is)
    (case k31 => k_is)
    (case q0 => k_is)
    (case r0 => exact ⟨_, rfl⟩)
    (case q1 => k_is)
    (case r1 => exact ⟨_, rfl⟩)
    (case q2 => k_is)
    (case r2 => exact ⟨_, rfl⟩)
    (case z0 => k_is)
    (case z1 => k_is)
    (case z2 => k_is)
    (case z3 => k_is)
    (case z4 => k_is)
    (case z5 => k_is)
    (case z6 => k_is)
    (case z7 => k_is)
    (case z8 => k_is)
    (case z9 => k_is)
    (case z10 => k_is)
    (case z11 => k_is)
    (case z12 => k_is)
    (case z13 => k_is)
    (case z14 => k_is)
    (case z15 => k_is)
    (case z16 => k_is)
    (case z17 => k_is)

